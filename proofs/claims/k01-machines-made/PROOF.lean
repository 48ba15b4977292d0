import PyProof.Rows.All
import Wide.All
import OpenK.AllK
import Wide.FinOn
import PySem.Challenge.RW_striproam_k01_machines_made
import KE.KDictDisplayH
import PyProof.StrBlock2
import HandS.TupLe
import HandS.Iter
import HandS.Zip
import HandS.ListItems
import HandS.Defaults
import HandS.TryMany
import HandS.Strs
import PyProof.Rows.TupMore
import HandS.EndTab
import HandS.SetFor
import HandS.ForMost
import HandS.ForExc
import HandS.CallSlots
import HandS.ExcInit
import HandS.IsInst
import HandS.Deep
import HandS.TupAny
import HandS.TupMul
import HandS.TupLen
import HandS.Wide
import KE.KDictKeyed
import KE.KeyNested
import HandS.Nested
import KE.GoesEnum
import KE.GoesMore
import HandS.TryOnly
import HandS.ExcField
import HandS.ExcIs
import HandS.Conv
import HandS.SortInts
import HandS.Style
import PyProof.Rows.StrRev
import HandS.NoneIn
import HandS.HotCalls
import KE.KExcIs
import PyProof.ListStr
import HandS.More
import HandS.RaiseMore
import PyProof.StrLaws
import PyProof.StrLawsTight
import KE.DataCmp
import KE.SortData
import HandS.SetKeys
import KE.KAssignIn
import HandS.ExcValue
import PyProof.AutoSeq1
import PyProof.StrLawsIn
set_option Elab.async false
set_option linter.all false
set_option maxRecDepth 100000
namespace DI
open PySem
inductive D where
  | non | bl (b : Bool) | int (i : Int) | str (x : Str)
  | tup (xs : List D) | lst (o : Bool) (xs : List D) | dct (o : Bool) (kvs : List (NestedKey × D))
  | obj (c : Nat) (fs : List D)
instance : Inhabited D := ⟨.non⟩
inductive R (α : Type) where
  | ok (a : α) | err (c : Nat) (fs : List D) | bad
def R.bind {α β : Type} : R α → (α → R β) → R β
  | .ok a, k => k a
  | .err c fs, _ => .err c fs
  | .bad, _ => .bad
@[simp] theorem R.bind_ok {α β : Type} (a : α) (k : α → R β) : (R.ok a).bind k = k a := rfl
@[simp] theorem R.bind_err {α β : Type} (c : Nat) (fs : List D) (k : α → R β) : (R.err c fs : R α).bind k = .err c fs := rfl
@[simp] theorem R.bind_bad {α β : Type} (k : α → R β) : (R.bad : R α).bind k = .bad := rfl
mutual
def clean : D → Bool
  | .non => true | .bl _ => true | .int _ => true | .str _ => true
  | .tup xs => cleanL xs
  | .lst o xs => !o && cleanL xs
  | .dct o _ => !o
  | .obj _ fs => cleanL fs
def cleanL : List D → Bool
  | [] => true
  | x :: xs => clean x && cleanL xs
end
mutual
def noFrz : D → Bool
  | .non => true | .bl _ => true | .int _ => true | .str _ => true
  | .tup xs => noFrzL xs
  | .lst o xs => o && noFrzL xs
  | .dct o kvs => o && noFrzK kvs
  | .obj _ _ => false
def noFrzL : List D → Bool
  | [] => true
  | x :: xs => noFrz x && noFrzL xs
def noFrzK : List (NestedKey × D) → Bool
  | [] => true
  | (_, x) :: xs => noFrz x && noFrzK xs
end
theorem noFrzK_map : ∀ kvs : List (NestedKey × D), noFrzK kvs = noFrzL (kvs.map (·.2))
  | [] => rfl
  | (_, x) :: xs => by rw [noFrzK, List.map_cons, noFrzL, noFrzK_map xs]
mutual
def frz : D → D
  | .non => .non | .bl b => .bl b | .int i => .int i | .str x => .str x
  | .tup xs => .tup (frzL xs)
  | .lst _ xs => .lst false (frzL xs)
  | .dct _ kvs => .dct false kvs
  | .obj c fs => .obj c (frzL fs)
def frzL : List D → List D
  | [] => []
  | x :: xs => frz x :: frzL xs
end
mutual
theorem frz_clean : ∀ d : D, clean d = true → frz d = d
  | .non, _ => rfl | .bl _, _ => rfl | .int _, _ => rfl | .str _, _ => rfl
  | .tup xs, h => by rw [frz, frzL_clean xs (by simpa [clean] using h)]
  | .lst o xs, h => by
    simp only [clean, Bool.and_eq_true, Bool.not_eq_true'] at h
    rw [frz, frzL_clean xs h.2, h.1]
  | .dct o kvs, h => by
    simp only [clean, Bool.not_eq_true'] at h
    rw [frz, h]
  | .obj c fs, h => by rw [frz, frzL_clean fs (by simpa [clean] using h)]
theorem frzL_clean : ∀ xs : List D, cleanL xs = true → frzL xs = xs
  | [], _ => rfl
  | x :: xs, h => by
    simp only [cleanL, Bool.and_eq_true] at h
    rw [frzL, frz_clean x h.1, frzL_clean xs h.2]
end
theorem cleanL_all (xs : List D) : cleanL xs = xs.all clean := by
  induction xs with
  | nil => rfl
  | cons x xs ih => rw [cleanL, List.all_cons, ih]
theorem frzL_map (xs : List D) : frzL xs = xs.map frz := by
  induction xs with
  | nil => rfl
  | cons x xs ih => rw [frzL, List.map_cons, ih]
theorem noFrzL_all (xs : List D) : noFrzL xs = xs.all noFrz := by
  induction xs with
  | nil => rfl
  | cons x xs ih => rw [noFrzL, List.all_cons, ih]
mutual
def py : D → Option PyData
  | .non => some .none | .bl b => some (.bool b) | .int i => some (.int i) | .str x => some (.str x)
  | .tup xs => (pyL xs).map .tuple
  | .lst _ xs => (pyL xs).map .list
  | .dct _ _ => none
  | .obj _ _ => none
def pyL : List D → Option (List PyData)
  | [] => some []
  | x :: xs => (py x).bind fun d => (pyL xs).map fun ds => d :: ds
end
mutual
def key : D → Option NestedKey
  | .non => some .none | .bl _ => none | .int i => some (.num i) | .str x => some (.text x)
  | .tup xs => (keyL xs).map .tup
  | .lst _ _ => none
  | .dct _ _ => none
  | .obj _ _ => none
def keyL : List D → Option (List NestedKey)
  | [] => some []
  | x :: xs => (key x).bind fun d => (keyL xs).map fun ds => d :: ds
end
def eqD (d e : D) : R Bool :=
  match py d, py e with
  | some a, some b => if SeqAt.shaped a && SeqAt.shaped b then .ok (PyData.eqv a b) else .bad
  | _, _ => .bad
def oneOf (c : Nat) : D := .str ⟨#[c]⟩
def ofR {α : Type} : Option α → R α
  | some a => .ok a
  | none => .bad
inductive Bop where
  | add | sub | mul | fdiv | mod | pow
  deriving DecidableEq
inductive Cop where
  | lt | le | gt | ge | eq | ne | mem | nmem | isN | notN
  deriving DecidableEq
noncomputable def lim62 : Int := Classical.choose (show ∃ n : Int, n = 4611686018427387904 from ⟨_, rfl⟩)
theorem lim62_eq : lim62 = 4611686018427387904 := Classical.choose_spec (show ∃ n : Int, n = 4611686018427387904 from ⟨_, rfl⟩)
noncomputable def lim64 : Int := Classical.choose (show ∃ n : Int, n = 18446744073709551616 from ⟨_, rfl⟩)
theorem lim64_eq : lim64 = 18446744073709551616 := Classical.choose_spec (show ∃ n : Int, n = 18446744073709551616 from ⟨_, rfl⟩)
noncomputable def small64 (i : Int) : Bool := decide (-lim64 < i) && decide (i < lim64)
noncomputable def small62 (i : Int) : Bool := decide (-lim62 ≤ i) && decide (i < lim62)
noncomputable def binD : Bop → D → D → R D
  | .add, .int i, .int j => .ok (.int (i + j))
  | .add, .str x, .str y => if x.length + y.length ≤ sizeLine then .ok (.str (x ++ y)) else .bad
  | .add, .lst true xs, .lst true ys => if (cleanL xs && cleanL ys) = true ∧ xs.length + ys.length ≤ sizeLine then .ok (.lst true (xs ++ ys)) else .bad
  | .add, .tup xs, .tup ys => if (cleanL xs && cleanL ys) = true ∧ xs.length + ys.length ≤ sizeLine then .ok (.tup (xs ++ ys)) else .bad
  | .sub, .int i, .int j => .ok (.int (i - j))
  | .mul, .int i, .int j => if (small64 i || small64 j) = true then .ok (.int (i * j)) else .bad
  | .mul, .lst true xs, .int k => if cleanL xs = true ∧ small62 k = true ∧ xs.length * k.toNat ≤ sizeLine then .ok (.lst true (List.replicate k.toNat xs).flatten) else .bad
  | .fdiv, .int i, .int j => if 0 < j ∧ j.natAbs.log2 < 9000 then .ok (.int (i / j)) else .bad
  | .mod, .int i, .int j => if 0 < j then .ok (.int (i % j)) else .bad
  | .pow, .int i, .int j => if 0 ≤ j ∧ j ≤ 1000000 ∧ i.natAbs < 2 ^ 64 then .ok (.int (i ^ j.toNat)) else .bad
  | _, _, _ => .bad
def memS (x : D) (ys : List D) : R Bool :=
  match py x, pyL ys with
  | some d, some ds => if (SeqAt.shaped d && SeqAt.shaped (.list ds)) = true then .ok (ds.any fun z => PyData.eqv z d) else .bad
  | _, _ => .bad
def isLeafKey : NestedKey → Bool
  | .num _ => true | .text _ => true | .none => false | .tup _ => false
def isTupKey : NestedKey → Bool
  | .tup _ => true | .num _ => false | .text _ => false | .none => false
def keysWith (k : NestedKey) (kvs : List (NestedKey × D)) : Bool :=
  (isLeafKey k && kvs.all fun p => isLeafKey p.1) || (isTupKey k && decide (k.depth ≤ 8) && kvs.all fun p => isTupKey p.1)
def dget (kvs : List (NestedKey × D)) (k : NestedKey) : Option D := (kvs.find? fun p => decide (p.1 = k)).map (·.2)
def dput (kvs : List (NestedKey × D)) (k : NestedKey) (v : D) : List (NestedKey × D) :=
  if (kvs.any fun p => decide (p.1 = k)) = true then kvs.map (fun p => if p.1 = k then (p.1, v) else p) else kvs ++ [(k, v)]
def leafD : D → Bool
  | .int _ => true | .str _ => true | _ => false
def keyIn (d : D) (kvs : List (NestedKey × D)) : R NestedKey :=
  match key d with
  | some k => if (keysWith k kvs && (isTupKey k || leafD d)) = true then .ok k else .bad
  | none => .bad
def memD (x : D) : D → R Bool
  | .lst _ ys => memS x ys
  | .tup ys => memS x ys
  | .dct _ kvs => (keyIn x kvs).bind fun k => .ok (dget kvs k).isSome
  | .str z => match x with
    | .str y => .ok (!(Builtin.Str.occurrences z y 0 z.length 1).isEmpty)
    | _ => .bad
  | _ => .bad
def isNon : D → Bool
  | .non => true
  | _ => false
def cmpD : Cop → D → D → R Bool
  | .lt, .int i, .int j => .ok (decide (i < j))
  | .le, .int i, .int j => .ok (decide (i ≤ j))
  | .gt, .int i, .int j => .ok (decide (j < i))
  | .ge, .int i, .int j => .ok (decide (j ≤ i))
  | .eq, x, y => eqD x y
  | .ne, x, y => (eqD x y).bind fun b => .ok (!b)
  | .mem, x, y => memD x y
  | .nmem, x, y => (memD x y).bind fun b => .ok (!b)
  | .isN, x, .non => .ok (isNon x)
  | .notN, x, .non => .ok (!isNon x)
  | _, _, _ => .bad
def idxD : D → D → R D
  | .lst _ xs, .int i => ofR (L2.atI xs i)
  | .tup xs, .int i => ofR (L2.atI xs i)
  | .str z, .int i => if z.length ≤ sizeLine then ofR ((L2.atI z.cps.toList i).map oneOf) else .bad
  | .dct _ kvs, k => (keyIn k kvs).bind fun k => ofR (dget kvs k)
  | _, _ => .bad
def cutL {α : Type} (xs : List α) (lo hi : Option Int) : List α := (xs.drop (HT.sIx xs.length 0 lo)).take (HT.sIx xs.length xs.length hi - HT.sIx xs.length 0 lo)
def partD : Option D → R (Option Int)
  | none => .ok none
  | some (.int i) => .ok (some i)
  | some _ => .bad
def slD (x : D) (lo hi : Option Int) : R D :=
  match x with
  | .lst _ xs => if cleanL xs = true then .ok (.lst true (cutL xs lo hi)) else .bad
  | .tup xs => if cleanL xs = true then .ok (.tup (cutL xs lo hi)) else .bad
  | .str z => if z.length ≤ sizeLine then .ok (.str (L2.cutS z lo hi)) else .bad
  | _ => .bad
def itemsD : D → R (List D)
  | .lst _ xs => if cleanL xs = true then .ok xs else .bad
  | .tup xs => if cleanL xs = true then .ok xs else .bad
  | .str z => .ok (z.cps.toList.map oneOf)
  | _ => .bad
inductive Ty where
  | str | int | bool | tuple | list
  deriving DecidableEq
def isTy : Ty → D → R Bool
  | _, .obj _ _ => .bad
  | _, .dct _ _ => .bad
  | .str, .str _ => .ok true
  | .int, .int _ => .ok true
  | .int, .bl _ => .ok true
  | .bool, .bl _ => .ok true
  | .tuple, .tup _ => .ok true
  | .list, .lst _ _ => .ok true
  | _, _ => .ok false
inductive Bi where
  | len | tuple | list | int | str | min | max | abs | sum | all | isi (t : Ty)
  deriving DecidableEq
def intsD : List D → Option (List Int)
  | [] => some []
  | .int i :: r => (intsD r).map (i :: ·)
  | _ => none
def blsD : List D → Option (List Bool)
  | [] => some []
  | .bl i :: r => (blsD r).map (i :: ·)
  | _ => none
def strsD : List D → Option (List Str)
  | [] => some []
  | .str i :: r => (strsD r).map (i :: ·)
  | _ => none
def biD : Bi → List D → R D
  | .len, [.lst _ xs] => .ok (.int xs.length)
  | .len, [.tup xs] => .ok (.int xs.length)
  | .len, [.str z] => if z.length ≤ sizeLine then .ok (.int z.length) else .bad
  | .len, [.dct _ kvs] => .ok (.int kvs.length)
  | .tuple, [.lst _ xs] => if cleanL xs = true then .ok (.tup xs) else .bad
  | .tuple, [.tup xs] => if cleanL xs = true then .ok (.tup xs) else .bad
  | .list, [.lst _ xs] => if cleanL xs = true then .ok (.lst true xs) else .bad
  | .list, [.tup xs] => if cleanL xs = true then .ok (.lst true xs) else .bad
  | .int, [.int i] => .ok (.int i)
  | .int, [.bl b] => .ok (.int (if b = true then 1 else 0))
  | .int, [.str x] => match PySem.intText? x with
    | some n => if x.length ≤ 640 then .ok (.int n) else .bad
    | none => .bad
  | .str, [.int i] => if i.natAbs.log2 < 1920 then .ok (.str (Str.ofString (toString i))) else .bad
  | .min, [.int i, .int j] => .ok (.int (if j < i then j else i))
  | .max, [.int i, .int j] => .ok (.int (if j > i then j else i))
  | .abs, [.int i] => .ok (.int (if i < 0 then -i else i))
  | .sum, [.lst _ xs] => match intsD xs with
    | some ns => .ok (.int ns.sum)
    | none => .bad
  | .all, [.lst _ xs] => match blsD xs with
    | some bs => .ok (.bl (bs.all id))
    | none => .bad
  | .isi t, [x] => (isTy t x).bind fun b => .ok (.bl b)
  | _, _ => .bad
inductive Mt where
  | join | split | find | strIndex | lstIndex | get1 | get2
  deriving DecidableEq
def idxL (x : D) (ys : List D) : R Nat :=
  match py x, pyL ys with
  | some d, some ds => if (SeqAt.shaped d && SeqAt.shaped (.list ds)) = true then ofR (ds.findIdx? fun z => PyData.eqv z d) else .bad
  | _, _ => .bad
def mtD : Mt → D → List D → R D
  | .join, .str s, [.lst _ xs] => match strsD xs with
    | some ys => if (ys.map (·.length)).sum + ys.length * s.length ≤ 16777216 then .ok (.str (Txt.join s ys)) else .bad
    | none => .bad
  | .split, .str s, [.str t] => if (t.length == 0) = false ∧ s.length + 2 ≤ sizeLine then .ok (.lst true ((Txt.split s t).map D.str)) else .bad
  | .find, .str s, [.str t] => .ok (.int (Txt.find s t))
  | .strIndex, .str s, [.str t] => match Builtin.Str.occurrences s t 0 s.length 1 with
    | [] => .bad
    | k :: _ => .ok (.int (k : Nat))
  | .lstIndex, .lst _ xs, [x] => (idxL x xs).bind fun n => .ok (.int n)
  | .get1, .dct _ kvs, [k] => (keyIn k kvs).bind fun k => .ok ((dget kvs k).getD .non)
  | .get2, .dct _ kvs, [k, x] => (keyIn k kvs).bind fun k => if clean x = true then .ok ((dget kvs k).getD x) else .bad
  | _, _, _ => .bad
def recvOk : Mt → D → Bool
  | .join, .str _ => true | .split, .str _ => true | .find, .str _ => true | .strIndex, .str _ => true
  | .lstIndex, .lst _ _ => true
  | .get1, .dct _ _ => true | .get2, .dct _ _ => true
  | _, _ => false
def Mt.name : Mt → String
  | .join => "join" | .split => "split" | .find => "find" | .strIndex => "index" | .lstIndex => "index" | .get1 => "get" | .get2 => "get"
abbrev Sl := List (Option D)
inductive Pat where
  | one (i : Nat) | many (is : List Nat) | two (i : Nat) (js : List Nat)
  deriving DecidableEq
def ownIf (r : Bool) (d : D) : R D := if (!r || clean d) = true then .ok d else .bad
def getS (σ : Sl) (i : Nat) : R D :=
  match σ[i]? with
  | some (some d) => .ok d
  | _ => .bad
def boolOf : D → R Bool
  | .bl b => .ok b
  | _ => .bad
def intOf : D → R Int
  | .int i => .ok i
  | _ => .bad
def tupOf : D → R (List D)
  | .tup xs => .ok xs
  | _ => .bad
def wipeL (σ : Sl) : List Nat → Sl
  | [] => σ
  | v :: vs => (wipeL σ vs).set v none
def putAll (σ : Sl) : List Nat → List D → R Sl
  | [], [] => .ok σ
  | i :: is, d :: ds => putAll (σ.set i (some d)) is ds
  | _, _ => .bad
def bindP (σ : Sl) (p : Pat) (d : D) : R Sl :=
  match p with
  | .one i => .ok (σ.set i (some d))
  | .many is => match d with
    | .tup xs => putAll σ is xs
    | _ => .bad
  | .two i js => match d with
    | .tup [x, .tup ys] => putAll (σ.set i (some x)) js ys
    | _ => .bad
def compR (body : D → R (Option D)) : List D → R (List D)
  | [] => .ok []
  | x :: xs => (body x).bind fun o => (compR body xs).bind fun ys => .ok (match o with | some y => y :: ys | none => ys)
def rngL (lo : Int) (n : Nat) : List D := (List.range n).map fun (k : Nat) => D.int (lo + (k : Int))
def enumL : Nat → List D → List D
  | _, [] => []
  | k, x :: xs => .tup [.int (k : Int), x] :: enumL (k + 1) xs
def zipL : List D → List D → List D
  | x :: xs, y :: ys => .tup [x, y] :: zipL xs ys
  | _, _ => []
end DI
namespace DI
open PySem PySem.Spec PyProof.Rows L2
def nk : Key → NestedKey
  | .inl i => .num i
  | .inr x => .text x
def rawN (P : Program) (w : World) (a : Addr) (od : Obj) (xs : List (NestedKey × Addr × V)) : HO := .ext fun h =>
  xs.length ≤ sizeLine ∧ (a == sysModules) = false ∧ (xs.map (·.1)).Nodup ∧ ∃ ys : List (NestedKey × Addr × Value),
    Paired (fun (p : NestedKey × Addr × V) (q : NestedKey × Addr × Value) => p.1 = q.1 ∧ p.2.1 = q.2.1 ∧ RelV p.2.2 q.2.2) xs ys ∧
    ∃ es ep, h.get? a = some od ∧ od.ExactDict ∧ od.data = .dict es ep ∧ es.toList = ys.map (entryOfKey (nestedKind P w))
def SqF (K : PySem.W.Frag) (H : Hp) (a : Addr) (vs : List V) : Prop := (∃ ob, H a = some (.frz ob (.lst vs))) ∨
  ∃ (o : Obj) (its : Array Value) (n : Nat), K.lookup a = some o ∧ o.cls = .type "list" ∧ o.dict = none ∧ o.data = .seq its n ∧ its.size ≤ sizeLine ∧ Vals vs its.toList
theorem SqF.sqL {K : PySem.W.Frag} {H : Hp} {a : Addr} {vs : List V} (h : SqF K H a vs) : SqL K H a vs := h.elim (fun ⟨ob, e⟩ => .inl (.inr ⟨ob, e⟩)) .inr
mutual
inductive KRep (K : PySem.W.Frag) (H : Hp) : NestedKey → V → Prop
  | none : KRep K H .none .non
  | num (i : Int) : KRep K H (.num i) (.int i)
  | text (x : Str) : KRep K H (.text x) (.str x)
  | tup {a : Addr} {vs : List V} {ks : List NestedKey} : SqT K H a vs → KReps K H ks vs → KRep K H (.tup ks) (.ref a)
inductive KReps (K : PySem.W.Frag) (H : Hp) : List NestedKey → List V → Prop
  | nil : KReps K H [] []
  | cons {k : NestedKey} {v : V} {ks : List NestedKey} {vs : List V} : KRep K H k v → KReps K H ks vs → KReps K H (k :: ks) (v :: vs)
end
def OwnP (Z : Addr → Prop) (o : Bool) (a : Addr) (fs fp : List Addr) : Prop := (o = true ∧ fp = a :: fs) ∨ (o = false ∧ fs = [] ∧ fp = [] ∧ Z a)
def Fix (o : HO) : Prop := (∀ ps, o ≠ .tbl ps) ∧ ∀ od kv, o ≠ .frz od (.dK kv)
structure Opq where
  P : (Addr → Prop) → Hp → D → V → Prop
  keep : ∀ {Z Z' : Addr → Prop} {H H' : Hp} {d : D} {v : V}, (∀ a o, Z a → H a = some o → Fix o → Z' a ∧ H' a = some o) → (∀ a vs, Rd H a (.tup vs) → Rd H' a (.tup vs)) → P Z H d v → P Z' H' d v
abbrev boxC : Nat := 1000
structure Gv where
  P : Program
  w : World
  K : PySem.W.Frag
  /-- a class's address, the names of its exceptions' values -/
  cls : Nat → Option (Addr × List Str)
  /-- an instance's class, the names of its fields -/
  ins : Nat → Option (Addr × List Str)
  /-- the exception in hand: its address, its class, its dict -/
  cur : Option (Addr × Nat × Option Addr)
  /-- of a def that changes what it is handed first: the address that slot 0 holds -/
  pin : Option Addr
  /-- a table of code objects that may grow -/
  tab : Option (Addr × (Nat → Nat → Str))
  /-- what is only handed on -/
  opq : Nat → Option Opq
def NT (o : HO) : Prop := ∀ ps, o ≠ .tbl ps
theorem nt_lst {vs : List V} : NT (.lst vs) := fun _ h => nomatch h
theorem nt_dK {vs : List (Key × V)} : NT (.dK vs) := fun _ h => nomatch h
theorem nt_raw {P : Program} {w : World} {a : Addr} {od : Obj} {xs : List (NestedKey × Addr × V)} : NT (rawN P w a od xs) := fun _ h => by unfold rawN at h; cases h
theorem nt_frz {o : Obj} {u : HO} : NT (.frz o u) := fun _ h => nomatch h
theorem nt_ins {C dx : Addr} {fs : List (Str × V)} : NT (.ins C dx fs) := fun _ h => nomatch h
mutual
inductive Rep (g : Gv) (Z : Addr → Prop) (H : Hp) : D → V → List Addr → Prop
  | non : Rep g Z H .non .non []
  | bl (b : Bool) : Rep g Z H (.bl b) (.bl b) []
  | int (i : Int) : Rep g Z H (.int i) (.int i) []
  | str (x : Str) : Rep g Z H (.str x) (.str x) []
  | tup {a : Addr} {vs : List V} {xs : List D} {fp : List Addr} : SqT g.K H a vs → Reps g Z H xs vs fp → Rep g Z H (.tup xs) (.ref a) fp
  | lst {a : Addr} {vs : List V} {xs : List D} {o : Bool} {fs fp : List Addr} : H a = some (.lst vs) → Reps g Z H xs vs fs → OwnP Z o a fs fp → Rep g Z H (.lst o xs) (.ref a) fp
  | lstR {a : Addr} {vs : List V} {xs : List D} : SqF g.K H a vs → Reps g Z H xs vs [] → Rep g Z H (.lst false xs) (.ref a) []
  | dK {a : Addr} {kv : List (Key × V)} {kvs : List (NestedKey × D)} {o : Bool} {fp : List Addr} : H a = some (.dK kv) → (kv.map fun p => nk p.1) = kvs.map (·.1) → Reps g Z H (kvs.map (·.2)) (kv.map (·.2)) [] →
      OwnP Z o a [] fp → Rep g Z H (.dct o kvs) (.ref a) fp
  | dN {a : Addr} {od : Obj} {xs : List (NestedKey × Addr × V)} {kvs : List (NestedKey × D)} {o : Bool} {fp : List Addr} : H a = some (rawN g.P g.w a od xs) → xs.map (·.1) = kvs.map (·.1) → xs ≠ [] →
      (∀ p ∈ xs, KRep g.K H p.1 (.ref p.2.1) ∧ p.1.depth ≤ 8) → Reps g Z H (kvs.map (·.2)) (xs.map (·.2.2)) [] → OwnP Z o a [] fp → Rep g Z H (.dct o kvs) (.ref a) fp
  | exc0 {a : Addr} {c : Nat} : g.cur = some (a, c, none) → Rep g Z H (.obj c []) (.ref a) []
  | excD {a d C : Addr} {c : Nat} {ns : List Str} {vs : List V} {fs : List D} : g.cur = some (a, c, some d) → g.cls c = some (C, ns) → H d = some (.xd (ns.zip vs)) → vs.length = ns.length → Reps g Z H fs vs [] → Rep g Z H (.obj c fs) (.ref a) []
  | ins {a C dx : Addr} {c : Nat} {ns : List Str} {vs : List V} {fs : List D} : g.ins c = some (C, ns) → H a = some (.ins C dx (ns.zip vs)) → Z a → vs.length = ns.length → Reps g Z H fs vs [] → Rep g Z H (.obj c fs) (.ref a) []
  | box {a : Addr} {nb : List Str} {od : Obj} {kv : List (Key × V)} {kvs : List (NestedKey × D)} : g.ins boxC = some (a, nb) → H a = some (.frz od (.dK kv)) → (kv.map fun p => nk p.1) = kvs.map (·.1) → Reps g Z H (kvs.map (·.2)) (kv.map (·.2)) [] → Z a → Rep g Z H (.obj boxC [.dct false kvs]) (.ref a) []
  | opq {c : Nat} {q : Opq} {C a : Addr} {d : D} : g.opq c = some q → g.ins c = some (C, []) → c ≠ boxC → clean d = true → q.P Z H d (.ref a) → Rep g Z H (.obj c [d]) (.ref a) []
inductive Reps (g : Gv) (Z : Addr → Prop) (H : Hp) : List D → List V → List Addr → Prop
  | nil : Reps g Z H [] [] []
  | cons {x : D} {v : V} {xs : List D} {vs : List V} {f fs : List Addr} : Rep g Z H x v f → Reps g Z H xs vs fs → Reps g Z H (x :: xs) (v :: vs) (f ++ fs)
end
section
variable {g : Gv} {Z Z' : Addr → Prop} {H H' : Hp}
structure Kp (Z : Addr → Prop) (fp : List Addr) (H H' : Hp) : Prop where
  tup : ∀ a vs, Rd H a (.tup vs) → Rd H' a (.tup vs)
  frz : ∀ a ob vs, H a = some (.frz ob (.lst vs)) → H' a = some (.frz ob (.lst vs))
  z : ∀ a o, Z a → H a = some o → NT o → H' a = some o
  own : ∀ a o, a ∈ fp → H a = some o → NT o → H' a = some o
  xd : ∀ a fs, H a = some (.xd fs) → H' a = some (.xd fs)
theorem Same.rd {a : Addr} {u : HO} (s : Same H H') (h : Rd H a u) : Rd H' a u := by
  rcases h with h | ⟨o, h⟩
  · exact .inl (s _ _ h)
  · exact .inr ⟨o, s _ _ h⟩
theorem Kp.of_same {fp : List Addr} (s : Same H H') : Kp Z fp H H' := ⟨fun _ _ h => Same.rd s h, fun _ _ _ h => s _ _ h, fun _ _ _ h _ => s _ _ h, fun _ _ _ h _ => s _ _ h, fun _ _ h => s _ _ h⟩
theorem Kp.sub {fp fp' : List Addr} (k : Kp Z fp H H') (h : ∀ a ∈ fp', a ∈ fp) : Kp Z fp' H H' := ⟨k.tup, k.frz, k.z, fun a o m => k.own a o (h a m), k.xd⟩
theorem Kp.out {fp : List Addr} (k : Kp Z fp H H') : Kp Z [] H H' := ⟨k.tup, k.frz, k.z, (fun _ _ m => nomatch m), k.xd⟩
theorem sqT_keep {a : Addr} {vs : List V} (k : ∀ a vs, Rd H a (.tup vs) → Rd H' a (.tup vs)) (h : SqT g.K H a vs) : SqT g.K H' a vs := by
  rcases h with h | h
  · exact .inl (k _ _ h)
  · exact .inr h
theorem sqF_keep {a : Addr} {vs : List V} (k : ∀ a ob vs, H a = some (.frz ob (.lst vs)) → H' a = some (.frz ob (.lst vs))) (h : SqF g.K H a vs) : SqF g.K H' a vs := by
  rcases h with ⟨ob, h⟩ | h
  · exact .inl ⟨ob, k _ _ _ h⟩
  · exact .inr h
mutual
theorem KRep.keep (k : ∀ a vs, Rd H a (.tup vs) → Rd H' a (.tup vs)) : ∀ {q : NestedKey} {v : V}, KRep g.K H q v → KRep g.K H' q v
  | _, _, .none => .none
  | _, _, .num i => .num i
  | _, _, .text x => .text x
  | _, _, .tup h hs => .tup (sqT_keep k h) (KReps.keep k hs)
theorem KReps.keep (k : ∀ a vs, Rd H a (.tup vs) → Rd H' a (.tup vs)) : ∀ {qs : List NestedKey} {vs : List V}, KReps g.K H qs vs → KReps g.K H' qs vs
  | _, _, .nil => .nil
  | _, _, .cons h hs => .cons (KRep.keep k h) (KReps.keep k hs)
end
theorem OwnP.mono {o : Bool} {a : Addr} {fs fp : List Addr} (hz : ∀ a, Z a → Z' a) (h : OwnP Z o a fs fp) : OwnP Z' o a fs fp := by
  rcases h with h | ⟨h1, h2, h3, h4⟩
  · exact .inl h
  · exact .inr ⟨h1, h2, h3, hz _ h4⟩
theorem OwnP.at {o : Bool} {a : Addr} {fs fp : List Addr} {u : HO} (k : Kp Z fp H H') (w : OwnP Z o a fs fp) (h : H a = some u) (n : NT u) : H' a = some u := by
  rcases w with ⟨_, e⟩ | ⟨_, _, _, hz⟩
  · exact k.own _ _ (by rw [e]; exact List.mem_cons_self) h n
  · exact k.z _ _ hz h n
theorem OwnP.sub {o : Bool} {a : Addr} {fs fp : List Addr} (w : OwnP Z o a fs fp) : ∀ b ∈ fs, b ∈ fp := fun b hb => by
  rcases w with ⟨_, e⟩ | ⟨_, e, _, _⟩
  · rw [e]; exact List.mem_cons_of_mem _ hb
  · rw [e] at hb; cases hb
mutual
theorem Rep.keep (hz : ∀ a, Z a → Z' a) : ∀ {d : D} {v : V} {fp : List Addr}, Rep g Z H d v fp → Kp Z fp H H' → Rep g Z' H' d v fp
  | _, _, _, .non, _ => .non
  | _, _, _, .bl b, _ => .bl b
  | _, _, _, .int i, _ => .int i
  | _, _, _, .str x, _ => .str x
  | _, _, _, .tup h hs, k => .tup (sqT_keep k.tup h) (Reps.keep hz hs k)
  | _, _, _, .lst h hs w, k => .lst (w.at k h nt_lst) (Reps.keep hz hs (k.sub w.sub)) (w.mono hz)
  | _, _, _, .lstR h hs, k => .lstR (sqF_keep k.frz h) (Reps.keep hz hs k)
  | _, _, _, .dK h e hs w, k => .dK (w.at k h nt_dK) e (Reps.keep hz hs k.out) (w.mono hz)
  | _, _, _, .dN h e ne hk hs w, k => .dN (w.at k h nt_raw) e ne (fun p hp => ⟨KRep.keep k.tup (hk p hp).1, (hk p hp).2⟩) (Reps.keep hz hs k.out) (w.mono hz)
  | _, _, _, .exc0 e, k => .exc0 e
  | _, _, _, .excD e c h l hs, k => .excD e c (k.xd _ _ h) l (Reps.keep hz hs k.out)
  | _, _, _, .ins c h z l hs, k => .ins c (k.z _ _ z h nt_ins) (hz _ z) l (Reps.keep hz hs k.out)
  | _, _, _, .box b h e hs z, k => .box b (k.z _ _ z h nt_frz) e (Reps.keep hz hs k.out) (hz _ z)
  | _, _, _, @Rep.opq _ _ _ _ q _ _ _ e i n c p, k => .opq e i n c (q.keep (fun a o z h f => ⟨hz a z, k.z a o z h f.1⟩) k.tup p)
theorem Reps.keep (hz : ∀ a, Z a → Z' a) : ∀ {ds : List D} {vs : List V} {fp : List Addr}, Reps g Z H ds vs fp → Kp Z fp H H' → Reps g Z' H' ds vs fp
  | _, _, _, .nil, _ => .nil
  | _, _, _, .cons h hs, k => .cons (Rep.keep hz h (k.sub fun _ hb => List.mem_append_left _ hb)) (Reps.keep hz hs (k.sub fun _ hb => List.mem_append_right _ hb))
end
theorem Rep.same {d : D} {v : V} {fp : List Addr} (r : Rep g Z H d v fp) (hz : ∀ a, Z a → Z' a) (s : Same H H') : Rep g Z' H' d v fp := r.keep hz (.of_same s)
theorem Reps.same {d : List D} {v : List V} {fp : List Addr} (r : Reps g Z H d v fp) (hz : ∀ a, Z a → Z' a) (s : Same H H') : Reps g Z' H' d v fp := r.keep hz (.of_same s)
mutual
theorem Rep.clean : ∀ {d : D} {v : V} {fp : List Addr}, Rep g Z H d v fp → clean d = true → fp = []
  | _, _, _, .non, _ => rfl
  | _, _, _, .bl b, _ => rfl
  | _, _, _, .int i, _ => rfl
  | _, _, _, .str x, _ => rfl
  | _, _, _, .tup h hs, c => Reps.clean hs (by simpa [DI.clean] using c)
  | _, _, _, .lst h hs w, c => by
    simp only [DI.clean, Bool.and_eq_true, Bool.not_eq_true'] at c
    rcases w with ⟨e, _⟩ | ⟨_, _, e, _⟩
    · rw [c.1] at e; cases e
    · exact e
  | _, _, _, .lstR h hs, _ => rfl
  | _, _, _, .dK h e hs w, c => by
    simp only [DI.clean, Bool.not_eq_true'] at c
    rcases w with ⟨e, _⟩ | ⟨_, _, e, _⟩
    · rw [c] at e; cases e
    · exact e
  | _, _, _, .dN h e ne hk hs w, c => by
    simp only [DI.clean, Bool.not_eq_true'] at c
    rcases w with ⟨e, _⟩ | ⟨_, _, e, _⟩
    · rw [c] at e; cases e
    · exact e
  | _, _, _, .exc0 e, _ => rfl
  | _, _, _, .excD e c h l hs, _ => rfl
  | _, _, _, .ins c h z l hs, _ => rfl
  | _, _, _, .box b h e hs z, _ => rfl
  | _, _, _, .opq _ _ _ _ _, _ => rfl
theorem Reps.clean : ∀ {ds : List D} {vs : List V} {fp : List Addr}, Reps g Z H ds vs fp → cleanL ds = true → fp = []
  | _, _, _, .nil, _ => rfl
  | _, _, _, .cons h hs, c => by
    simp only [cleanL, Bool.and_eq_true] at c
    rw [Rep.clean h c.1, Reps.clean hs c.2]
    rfl
end
mutual
/-- frozen: its addresses are in the zone from now on -/
theorem Rep.frz (hz : ∀ a, Z a → Z' a) : ∀ {d : D} {v : V} {fp : List Addr}, Rep g Z H d v fp → (∀ a ∈ fp, Z' a) → Rep g Z' H (frz d) v []
  | _, _, _, .non, _ => .non
  | _, _, _, .bl b, _ => .bl b
  | _, _, _, .int i, _ => .int i
  | _, _, _, .str x, _ => .str x
  | _, _, _, .tup h hs, k => .tup h (Reps.frz hz hs k)
  | _, _, _, .lst h hs w, k => by
    refine .lst h (Reps.frz hz hs fun a ha => k a (w.sub a ha)) (.inr ⟨rfl, rfl, rfl, ?_⟩)
    rcases w with ⟨_, e⟩ | ⟨_, _, _, z⟩
    · exact k _ (by rw [e]; exact List.mem_cons_self)
    · exact hz _ z
  | _, _, _, .lstR h hs, k => .lstR h (Reps.frz hz hs k)
  | _, _, _, .dK h e hs w, k => by
    refine .dK h e (hs.same hz fun _ _ e => e) (.inr ⟨rfl, rfl, rfl, ?_⟩)
    rcases w with ⟨_, e⟩ | ⟨_, _, _, z⟩
    · exact k _ (by rw [e]; exact List.mem_cons_self)
    · exact hz _ z
  | _, _, _, .dN h e ne hk hs w, k => by
    refine .dN h e ne hk (hs.same hz fun _ _ e => e) (.inr ⟨rfl, rfl, rfl, ?_⟩)
    rcases w with ⟨_, e⟩ | ⟨_, _, _, z⟩
    · exact k _ (by rw [e]; exact List.mem_cons_self)
    · exact hz _ z
  | _, _, _, .exc0 e, k => by rw [DI.frz, DI.frzL]; exact .exc0 e
  | _, _, _, .excD e c h l hs, k => by rw [DI.frz]; exact .excD e c h l (Reps.frz hz hs fun a ha => nomatch ha)
  | _, _, _, .ins c h z l hs, k => by rw [DI.frz]; exact .ins c h (hz _ z) l (Reps.frz hz hs fun a ha => nomatch ha)
  | _, _, _, .box b h e hs z, k => by rw [DI.frz, frzL, DI.frz, frzL]; exact .box b h e (hs.same hz fun _ _ e => e) (hz _ z)
  | _, _, _, @Rep.opq _ _ _ _ q _ _ _ e i n c p, k => by rw [DI.frz, frzL, frz_clean _ c, frzL]; exact .opq e i n c (q.keep (fun a o z h f => ⟨hz a z, h⟩) (fun _ _ h => h) p)
theorem Reps.frz (hz : ∀ a, Z a → Z' a) : ∀ {ds : List D} {vs : List V} {fp : List Addr}, Reps g Z H ds vs fp → (∀ a ∈ fp, Z' a) → Reps g Z' H (frzL ds) vs []
  | _, _, _, .nil, _ => .nil
  | _, _, _, .cons h hs, k => .cons (f := []) (fs := []) (Rep.frz hz h fun a ha => k a (List.mem_append_left _ ha)) (Reps.frz hz hs fun a ha => k a (List.mem_append_right _ ha))
end
mutual
/-- no frozen thing within: the zone doesn't matter -/
theorem Rep.unzone : ∀ {d : D} {v : V} {fp : List Addr}, Rep g Z H d v fp → noFrz d = true → Rep g Z' H d v fp
  | _, _, _, .non, _ => .non
  | _, _, _, .bl b, _ => .bl b
  | _, _, _, .int i, _ => .int i
  | _, _, _, .str x, _ => .str x
  | _, _, _, .tup h hs, c => .tup h (Reps.unzone hs (by simpa [noFrz] using c))
  | _, _, _, .lst h hs w, c => by
    simp only [noFrz, Bool.and_eq_true] at c
    refine .lst h (Reps.unzone hs c.2) ?_
    rcases w with w | ⟨e, _⟩
    · exact .inl w
    · rw [c.1] at e; cases e
  | _, _, _, .lstR h hs, c => by simp [noFrz] at c
  | _, _, _, .dK h e hs w, c => by
    simp only [noFrz, noFrzK_map, Bool.and_eq_true] at c
    refine .dK h e (Reps.unzone hs c.2) ?_
    rcases w with w | ⟨e, _⟩
    · exact .inl w
    · rw [c.1] at e; cases e
  | _, _, _, .dN h e ne hk hs w, c => by
    simp only [noFrz, noFrzK_map, Bool.and_eq_true] at c
    refine .dN h e ne hk (Reps.unzone hs c.2) ?_
    rcases w with w | ⟨e, _⟩
    · exact .inl w
    · rw [c.1] at e; cases e
  | _, _, _, .exc0 e, c => by simp [noFrz] at c
  | _, _, _, .excD e c' h l hs, c => by simp [noFrz] at c
  | _, _, _, .ins c' h z l hs, c => by simp [noFrz] at c
  | _, _, _, .box b h e hs z, c => by simp [noFrz] at c
  | _, _, _, .opq _ _ _ _ _, c => by simp [noFrz] at c
theorem Reps.unzone : ∀ {ds : List D} {vs : List V} {fp : List Addr}, Reps g Z H ds vs fp → noFrzL ds = true → Reps g Z' H ds vs fp
  | _, _, _, .nil, _ => .nil
  | _, _, _, .cons h hs, c => by
    simp only [noFrzL, Bool.and_eq_true] at c
    exact .cons (Rep.unzone h c.1) (Reps.unzone hs c.2)
end
end
end DI
namespace DI
open PySem PySem.Spec PyProof.Rows L2
def ExR (g : Gv) (c : Nat) (fs : List D) (cls : Value) (d : Option Addr) (H : Hp) : Prop :=
  ∃ C ns, g.cls c = some (C, ns) ∧ cls = .ref C ∧ ((ns = [] ∧ fs = [] ∧ d = none) ∨
    (ns ≠ [] ∧ ∃ dd vs, d = some dd ∧ H dd = some (.xd (ns.zip vs)) ∧ vs.length = ns.length ∧ Reps g (fun _ => False) H fs vs []))
structure Zx (Z Z' : Addr → Prop) (H H' : Hp) : Prop where
  le : ∀ a, Z a → Z' a
  new : ∀ a, Z' a → Z a ∨ H a = none
  inn : ∀ a, Z' a → H' a ≠ none
theorem same_refl (H : Hp) : Same H H := fun _ _ e => e
theorem same_trans {H H1 H2 : Hp} (a : Same H H1) (b : Same H1 H2) : Same H H2 := fun x o e => b x o (a x o e)
theorem same_none {H H' : Hp} (s : Same H H') {a : Addr} (h : H' a = none) : H a = none := by
  cases e : H a with
  | none => rfl
  | some o => rw [s a o e] at h; cases h
theorem same_upd {H : Hp} {p : Addr} {o : HO} (h : H p = none) : Same H (upd H p o) := fun b x e => by
  rw [upd_ne (ne_of_none e h)]
  exact e
theorem Zx.refl {Z : Addr → Prop} {H : Hp} (h : ∀ a, Z a → H a ≠ none) : Zx Z Z H H := ⟨fun _ z => z, fun _ z => .inl z, h⟩
theorem Zx.trans {Z Z1 Z2 : Addr → Prop} {H H1 H2 : Hp} (s : Same H H1) (a : Zx Z Z1 H H1) (b : Zx Z1 Z2 H1 H2) : Zx Z Z2 H H2 :=
  ⟨fun x z => b.le x (a.le x z), fun x z => by
    rcases b.new x z with h | h
    · exact a.new x h
    · exact .inr (same_none s h), b.inn⟩
theorem Zx.stay {Z : Addr → Prop} {H H' : Hp} (h : ∀ a, Z a → H a ≠ none) (s : Same H H') : Zx Z Z H H' := ⟨fun _ z => z, fun _ z => .inl z, fun a z e => h a z (same_none s e)⟩
structure PostE (g : Gv) (b : Bool) (Z Z' : Addr → Prop) (H H' : Hp) (d : D) (v : V) (fp : List Addr) : Prop where
  same : Same H H'
  zx : Zx Z Z' H H'
  rep : Rep g Z' H' d v fp
  own : b = true → fp.Nodup ∧ ∀ a ∈ fp, H a = none ∧ ¬ Z' a
structure SR (g : Gv) (H0 : Hp) (Z : Addr → Prop) (fps : List (List Addr)) (σl : Sl) (σ : L2.St) (H : Hp) : Prop where
  len : σl.length = σ.length
  lenf : fps.length = σ.length
  slot : ∀ (i : Nat) (d : D), σl[i]? = some (some d) → ∃ v fp, σ[i]? = some (some v) ∧ fps[i]? = some fp ∧ Rep g Z H d v fp
  gone : ∀ (i : Nat), σl[i]? = some none → fps[i]? = some []
  nd : fps.flatten.Nodup
  own : ∀ a ∈ fps.flatten, ¬ Z a ∧ H0 a = none ∧ H a ≠ none
  z : ∀ a, Z a → H a ≠ none
  same : Same H0 H
section
variable {g : Gv} {W : L2.WX} {Z Z1 Z' : Addr → Prop} {H0 H H1 H' : Hp} {fps : List (List Addr)} {σl : Sl} {σ : L2.St}
theorem SR.step (r : SR g H0 Z fps σl σ H) (s : Same H H1) (z : Zx Z Z1 H H1) : SR g H0 Z1 fps σl σ H1 where
  len := r.len
  lenf := r.lenf
  slot := fun i d e => by
    obtain ⟨v, fp, e1, e2, rp⟩ := r.slot i d e
    exact ⟨v, fp, e1, e2, rp.same z.le s⟩
  gone := r.gone
  nd := r.nd
  own := fun a ha => by
    obtain ⟨h1, h2, h3⟩ := r.own a ha
    refine ⟨fun q => ?_, h2, fun e => h3 (same_none s e)⟩
    rcases z.new a q with q | q
    · exact h1 q
    · exact h3 q
  z := z.inn
  same := same_trans r.same s
theorem PostE.pre {b : Bool} {d : D} {v : V} {fp : List Addr} (s : Same H H1) (z : Zx Z Z1 H H1) (p : PostE g b Z1 Z' H1 H' d v fp) : PostE g b Z Z' H H' d v fp :=
  ⟨same_trans s p.same, z.trans s p.zx, p.rep, fun e => ⟨(p.own e).1, fun a ha => ⟨same_none s ((p.own e).2 a ha).1, ((p.own e).2 a ha).2⟩⟩⟩
theorem PostE.borrow {b : Bool} {d : D} {v : V} {fp : List Addr} (p : PostE g b Z Z' H H' d v fp) : PostE g false Z Z' H H' d v fp := ⟨p.same, p.zx, p.rep, fun e => by cases e⟩
def Out {α : Type} (g : Gv) (W : L2.WX) (Z : Addr → Prop) (σ : L2.St) (H : Hp) (r : R α) (P : α → Prop) : Prop :=
  match r with
  | .ok a => P a
  | .err c fs => ∀ H' Z' cls d, Same H H' → Zx Z Z' H H' → ExR g c fs cls d H' → W cls d σ H'
  | .bad => False
theorem Out.bind {α β : Type} {r : R α} {k : α → R β} {P : β → Prop} (h : Out g W Z σ H (r.bind k) P) : Out g W Z σ H r fun a => Out g W Z σ H (k a) P := by
  cases r with
  | ok a => exact h
  | err c fs => exact h
  | bad => exact h
theorem Out.imp {α : Type} {r : R α} {P P' : α → Prop} (h : Out g W Z σ H r P) (hp : ∀ a, P a → P' a) : Out g W Z σ H r P' := by
  cases r with
  | ok a => exact hp a h
  | err c fs => exact h
  | bad => exact h
theorem Out.step {α : Type} {r : R α} {P P' : α → Prop} (h : Out g W Z σ H r P) (s : Same H H1) (z : Zx Z Z1 H H1) (hp : ∀ a, P a → P' a) : Out g W Z1 σ H1 r P' := by
  cases r with
  | ok a => exact hp a h
  | err c fs => exact fun H' Z' cls d s' z' e => h H' Z' cls d (same_trans s s') (z.trans s z') e
  | bad => exact h
theorem Out.guard {α : Type} {c : Prop} [Decidable c] {r : R α} {P : α → Prop} (h : Out g W Z σ H (if c then r else .bad) P) : c ∧ Out g W Z σ H r P := by
  by_cases hc : c
  · rw [if_pos hc] at h; exact ⟨hc, h⟩
  · rw [if_neg hc] at h; exact h.elim
theorem Out.okOf {α : Type} {r : R α} {P : α → Prop} (h : Out g W Z σ H r P) (hn : ∀ c fs, r ≠ .err c fs) : ∃ a, r = .ok a ∧ P a := by
  cases r with
  | ok a => exact ⟨a, rfl, h⟩
  | err c fs => exact absurd rfl (hn c fs)
  | bad => exact h.elim
def tI (g : Gv) (W : L2.WX) (b : Bool) (f : Sl → R D) : TE := fun σ H Q => ∃ H0 Z fps σl, SR g H0 Z fps σl σ H ∧ Out g W Z σ H (f σl) fun d => ∀ v H' Z' fp, PostE g b Z Z' H H' d v fp → Q v H'
structure PostA (g : Gv) (b : Bool) (Z Z' : Addr → Prop) (H H' : Hp) (ds : List D) (vs : List V) (fp : List Addr) : Prop where
  same : Same H H'
  zx : Zx Z Z' H H'
  rep : Reps g Z' H' ds vs fp
  own : b = true → fp.Nodup ∧ ∀ a ∈ fp, H a = none ∧ ¬ Z' a
def tIA (g : Gv) (W : L2.WX) (b : Bool) (f : Sl → R D) : TA := fun σ H Q => ∃ H0 Z fps σl, SR g H0 Z fps σl σ H ∧ Out g W Z σ H (f σl) fun d => ∃ ds, d = .tup ds ∧ ∀ vs H' Z' fp, PostA g b Z Z' H H' ds vs fp → Q vs H'
def tIT (g : Gv) (W : L2.WX) (f : Sl → R D) : TT := fun σ H Q => ∃ H0 Z fps σl, SR g H0 Z fps σl σ H ∧ Out g W Z σ H (f σl) fun d => ∃ b, d = .bl b ∧ ∀ H' Z', Same H H' → Zx Z Z' H H' → Q b H'
end
theorem _root_.L2.PE.imp {X : Cx} {e : Expr} {t t' : TE} (h : PE X e t) (hi : ∀ σ H Q, t' σ H Q → t σ H Q) : PE X e t' := ⟨fun pins s σ H Q I q => h.run pins s σ H Q I (hi _ _ _ q)⟩
theorem _root_.L2.PT.imp {X : Cx} {e : Expr} {t t' : TT} (h : PT X e t) (hi : ∀ σ H Q, t' σ H Q → t σ H Q) : PT X e t' := ⟨fun pins s σ H Q I q => h.run pins s σ H Q I (hi _ _ _ q)⟩
theorem _root_.L2.PW.imp {X : Cx} {e : Expr} {t t' : TT} (h : PW X e t) (hi : ∀ σ H Q, t' σ H Q → t σ H Q) : PW X e t' := ⟨fun wh pins s σ H Q I q => h.run wh pins s σ H Q I (hi _ _ _ q)⟩
theorem _root_.L2.PA.imp {X : Cx} {e : List Expr} {t t' : TA} (h : PA X e t) (hi : ∀ σ H Q, t' σ H Q → t σ H Q) : PA X e t' := ⟨fun pos pins s σ H Q I q => h.run pos pins s σ H Q I (hi _ _ _ q)⟩
theorem _root_.L2.PS.imp {X : Cx} {e : Stmt} {t t' : TS} (h : PS X e t) (hi : ∀ D σ H, t' D σ H → t D σ H) : PS X e t' := ⟨fun pins s σ H Q I q => h.run pins s σ H Q I (hi _ _ _ q)⟩
theorem _root_.L2.PSs.imp {X : Cx} {e : List Stmt} {t t' : TS} (h : PSs X e t) (hi : ∀ D σ H, t' D σ H → t D σ H) : PSs X e t' := ⟨fun pins s σ H Q I q => h.run pins s σ H Q I (hi _ _ _ q)⟩
theorem _root_.L2.PI.imp {X : Cx} {tg e : Expr} {t t' : TI} (h : PI X tg e t) (hi : ∀ σ H Q, t' σ H Q → t σ H Q) : PI X tg e t' := ⟨fun pins s σ H Q I q => h.run pins s σ H Q I (hi _ _ _ q)⟩
structure Gof (g : Gv) (X : Cx) : Prop where
  P : X.prog = g.P
  w : X.w = g.w
  K : X.K = g.K
section
variable {X : Cx} {g : Gv} {W : L2.WX} {a b c : Expr} {fa fb fc : Sl → R D} {ba bb bc : Bool} {pos : Pos}
def OpD (g : Gv) (W : L2.WX) (bo : Bool) (r : R2) (h : D → D → R D) : Prop := ∀ (Z : Addr → Prop) (σ : L2.St) (H : Hp) (x y : D) (v u : V) (fx fy : List Addr) (Q : VK), (∀ a, Z a → H a ≠ none) → Rep g Z H x v fx → Rep g Z H y u fy →
  Out g W Z σ H (h x y) (fun d => ∀ v H' Z' fp, PostE g bo Z Z' H H' d v fp → Q v H') → r v u H Q
theorem tOp_of {r : R2} {h : D → D → R D} {bo : Bool} (hr : OpD g W bo r h) {σ : L2.St} {H : Hp} {Q : VK} (q : tI g W bo (fun σ => (fa σ).bind fun x => (fb σ).bind fun y => h x y) σ H Q) :
    tOp r (tI g W ba fa) (tI g W bb fb) σ H Q := by
  obtain ⟨H0, Z, fps, σl, sr, o⟩ := q
  refine ⟨H0, Z, fps, σl, sr, o.bind.imp fun x h v1 H1 Z1 fp1 p1 => ?_⟩
  refine ⟨H0, Z1, fps, σl, sr.step p1.same p1.zx, h.bind.step p1.same p1.zx fun y h2 v2 H2 Z2 fp2 p2 => ?_⟩
  have s2 := same_trans p1.same p2.same
  have z2 := p1.zx.trans p1.same p2.zx
  exact hr Z2 σ H2 x y v1 v2 fp1 fp2 Q p2.zx.inn (p1.rep.same p2.zx.le p2.same) p2.rep (h2.step s2 z2 fun d q v H' Z' fp p => q v H' Z' fp (p.pre s2 z2))
theorem se_bin {op : Operator} {r : R2} {h : D → D → R D} {bo : Bool} (ho : OpR X (binaryOp op) r) (hr : OpD g W bo r h) (ha : PE X a (tI g W ba fa)) (hb : PE X b (tI g W bb fb)) :
    PE X (.BinOp a op b pos) (tI g W bo fun σ => (fa σ).bind fun x => (fb σ).bind fun y => h x y) := (pe_op ho ha hb).imp fun _ _ _ q => tOp_of hr q
theorem se_cmp {op : CmpOp} {r : R2} {h : D → D → R D} {bo : Bool} (ho : OpR X (compareOp op) r) (hr : OpD g W bo r h) (ha : PE X a (tI g W ba fa)) (hb : PE X b (tI g W bb fb)) (hm : behindInMarks op b = false) :
    PE X (.Compare a [op] [b] pos) (tI g W bo fun σ => (fa σ).bind fun x => (fb σ).bind fun y => h x y) := (pe_cmpR ho ha hb hm).imp fun _ _ _ q => tOp_of hr q
theorem st_cmp {op : CmpOp} {r : R2} {h : D → D → R D} (ho : OpR X (compareOp op) r) (hr : OpD g W true r h) (ha : PE X a (tI g W ba fa)) (hb : PE X b (tI g W bb fb)) (hm : behindInMarks op b = false) :
    PT X (.Compare a [op] [b] pos) (tIT g W fun σ => (fa σ).bind fun x => (fb σ).bind fun y => h x y) := (pt_cmpR ho ha hb hm).imp fun σ H Q q => by
  refine tOp_of (bo := true) hr (Q := fun x H' => ∃ k, x = .bl k ∧ Q k H') ?_
  obtain ⟨H0, Z, fps, σl, sr, o⟩ := q
  refine ⟨H0, Z, fps, σl, sr, o.imp fun d ⟨k, e, q⟩ v H' Z' fp p => ?_⟩
  subst e
  have rp := p.rep
  cases rp
  exact ⟨k, rfl, q H' Z' p.same p.zx⟩
theorem se_ix {r : R2} {h : D → D → R D} {bo : Bool} (ho : IxR X r) (hr : OpD g W bo r h) (ha : PE X a (tI g W ba fa)) (hb : PE X b (tI g W bb fb)) (hs : PlainIx b) :
    PE X (.Subscript a b pos) (tI g W bo fun σ => (fa σ).bind fun x => (fb σ).bind fun y => h x y) := (pe_ix ho ha hb hs).imp fun _ _ _ q => tOp_of hr q
theorem post_sc {Z : Addr → Prop} {H : Hp} {d : D} {v : V} {bo : Bool} (hz : ∀ a, Z a → H a ≠ none) (r : Rep g Z H d v []) : PostE g bo Z Z H H d v [] :=
  ⟨same_refl H, .refl hz, r, fun _ => ⟨List.nodup_nil, fun _ h => nomatch h⟩⟩
theorem post_new {Z : Addr → Prop} {H : Hp} {d : D} {p : Addr} {o : HO} {fp : List Addr} {bo : Bool} (hz : ∀ a, Z a → H a ≠ none) (hp : H p = none) (r : Rep g Z (upd H p o) d (.ref p) fp) (hf : fp = [] ∨ fp = [p]) : PostE g bo Z Z H (upd H p o) d (.ref p) fp :=
  ⟨same_upd hp, .stay hz (same_upd hp), r, fun _ => by
    rcases hf with rfl | rfl
    · exact ⟨List.nodup_nil, fun _ h => nomatch h⟩
    · refine ⟨by simp, fun a ha => ?_⟩
      have e : a = p := by simpa using ha
      subst e
      exact ⟨hp, fun z => hz _ z hp⟩⟩
variable {Z : Addr → Prop} {H : Hp} {v u : V} {fp : List Addr}
theorem rep_int {i : Int} (r : Rep g Z H (.int i) v fp) : v = .int i ∧ fp = [] := by cases r; exact ⟨rfl, rfl⟩
theorem rep_bl {i : Bool} (r : Rep g Z H (.bl i) v fp) : v = .bl i ∧ fp = [] := by cases r; exact ⟨rfl, rfl⟩
theorem rep_str {i : Str} (r : Rep g Z H (.str i) v fp) : v = .str i ∧ fp = [] := by cases r; exact ⟨rfl, rfl⟩
theorem rep_non (r : Rep g Z H .non v fp) : v = .non ∧ fp = [] := by cases r; exact ⟨rfl, rfl⟩
theorem rep_tup {xs : List D} (r : Rep g Z H (.tup xs) v fp) : ∃ a vs, v = .ref a ∧ SqT g.K H a vs ∧ Reps g Z H xs vs fp := by
  cases r with
  | tup h hs => exact ⟨_, _, rfl, h, hs⟩
theorem Reps.get {xs : List D} {vs : List V} : ∀ {fp : List Addr}, Reps g Z H xs vs fp → ∀ (i : Nat) (x : D), xs[i]? = some x → ∃ v f, vs[i]? = some v ∧ Rep g Z H x v f ∧ (∀ a ∈ f, a ∈ fp) ∧ (fp.Nodup → f.Nodup) := by
  induction xs generalizing vs with
  | nil => intro fp _ i x e; simp at e
  | cons y ys ih =>
    intro fp r i x e
    cases r with
    | cons h hs =>
      cases i with
      | zero =>
        simp at e; subst e
        exact ⟨_, _, rfl, h, fun a ha => List.mem_append_left _ ha, fun n => (List.nodup_append.mp n).1⟩
      | succ i =>
        obtain ⟨v, f, e1, r1, s1, n1⟩ := ih hs i x (by simpa using e)
        exact ⟨v, f, by simpa using e1, r1, fun a ha => List.mem_append_right _ (s1 a ha), fun n => n1 (List.nodup_append.mp n).2.1⟩
theorem Reps.length : ∀ {xs : List D} {vs : List V} {fp : List Addr}, Reps g Z H xs vs fp → xs.length = vs.length
  | _, _, _, .nil => rfl
  | _, _, _, .cons _ t => by rw [List.length_cons, List.length_cons, Reps.length t]
theorem Reps.append : ∀ {xs ys : List D} {vs us : List V} {f1 f2 : List Addr}, Reps g Z H xs vs f1 → Reps g Z H ys us f2 → Reps g Z H (xs ++ ys) (vs ++ us) (f1 ++ f2)
  | _, _, _, _, _, _, .nil, s => s
  | _, _, _, _, _, _, .cons r t, s => by
    rw [List.append_assoc]
    exact .cons r (Reps.append t s)
theorem Reps.drop0 : ∀ {xs : List D} {vs : List V} (n : Nat), Reps g Z H xs vs [] → Reps g Z H (xs.drop n) (vs.drop n) []
  | xs, vs, 0, r => r
  | [], _, _ + 1, r => by cases r; exact .nil
  | x :: xs, _, n + 1, r => by
    generalize hf : ([] : List Addr) = f at r
    cases r with
    | cons h hs =>
      obtain ⟨e1, e2⟩ := List.append_eq_nil_iff.mp hf.symm
      subst e1 e2
      exact Reps.drop0 n hs
theorem Reps.take0 : ∀ {xs : List D} {vs : List V} (n : Nat), Reps g Z H xs vs [] → Reps g Z H (xs.take n) (vs.take n) []
  | xs, vs, 0, r => .nil
  | [], _, _ + 1, r => by cases r; exact .nil
  | x :: xs, _, n + 1, r => by
    generalize hf : ([] : List Addr) = f at r
    cases r with
    | cons h hs =>
      obtain ⟨e1, e2⟩ := List.append_eq_nil_iff.mp hf.symm
      subst e1 e2
      exact .cons (f := []) (fs := []) h (Reps.take0 n hs)
theorem Reps.to0 {xs : List D} {vs : List V} {fp : List Addr} (r : Reps g Z H xs vs fp) (c : cleanL xs = true) : Reps g Z H xs vs [] := by
  have e := r.clean c
  subst e
  exact r
theorem Rep.to0 {x : D} {v : V} {fp : List Addr} (r : Rep g Z H x v fp) (c : DI.clean x = true) : Rep g Z H x v [] := by
  have e := Rep.clean r c
  subst e
  exact r
mutual
theorem Rep.there : ∀ {d : D} {v : V} {fp : List Addr}, Rep g Z H d v fp → ∀ a ∈ fp, H a ≠ none
  | _, _, _, .non, _, h => nomatch h
  | _, _, _, .bl b, _, h => nomatch h
  | _, _, _, .int i, _, h => nomatch h
  | _, _, _, .str x, _, h => nomatch h
  | _, _, _, .tup _ hs, a, h => Reps.there hs a h
  | _, _, _, .lst e hs w, a, h => by
    rcases w with ⟨_, q⟩ | ⟨_, _, q, _⟩
    · rw [q] at h
      rcases List.mem_cons.mp h with rfl | h
      · rw [e]; exact Option.some_ne_none _
      · exact Reps.there hs a h
    · rw [q] at h; cases h
  | _, _, _, .lstR h hs, _, h' => nomatch h'
  | _, _, _, .dK e _ hs w, a, h => by
    rcases w with ⟨_, q⟩ | ⟨_, _, q, _⟩
    · rw [q] at h
      rw [List.mem_singleton.mp h, e]; exact Option.some_ne_none _
    · rw [q] at h; cases h
  | _, _, _, .dN e _ _ _ hs w, a, h => by
    rcases w with ⟨_, q⟩ | ⟨_, _, q, _⟩
    · rw [q] at h
      rw [List.mem_singleton.mp h, e]; exact Option.some_ne_none _
    · rw [q] at h; cases h
  | _, _, _, .exc0 _, _, h' => nomatch h'
  | _, _, _, .excD _ _ _ _ _, _, h' => nomatch h'
  | _, _, _, .ins _ _ _ _ _, _, h' => nomatch h'
  | _, _, _, .box _ _ _ _ _, _, h' => nomatch h'
  | _, _, _, .opq _ _ _ _ _, _, h' => nomatch h'
theorem Reps.there : ∀ {d : List D} {v : List V} {fp : List Addr}, Reps g Z H d v fp → ∀ a ∈ fp, H a ≠ none
  | _, _, _, .nil, _, h => nomatch h
  | _, _, _, .cons r hs, a, h => by
    rcases List.mem_append.mp h with h | h
    · exact Rep.there r a h
    · exact Reps.there hs a h
end
end
end DI
namespace DI
open PySem PySem.Spec PyProof.Rows L2
section
variable {g : Gv} {Z : Addr → Prop} {H : Hp}
mutual
theorem Rep.dp : ∀ {d : D} {v : V} {fp : List Addr} {p : PyData}, Rep g Z H d v fp → py d = some p → Dp g.K H v p
  | _, _, _, _, .non, e => by cases e; exact .non
  | _, _, _, _, .bl b, e => by cases e; exact .bl b
  | _, _, _, _, .int i, e => by cases e; exact .int i
  | _, _, _, _, .str x, e => by cases e; exact .str x
  | _, _, _, _, .tup h hs, e => by
    obtain ⟨ds, e1, rfl⟩ := Option.map_eq_some_iff.mp (show (pyL _).map PyData.tuple = some _ from e)
    exact .tup h (Reps.dp hs e1)
  | _, _, _, _, .lst h hs w, e => by
    obtain ⟨ds, e1, rfl⟩ := Option.map_eq_some_iff.mp (show (pyL _).map PyData.list = some _ from e)
    exact .lst (.of h) (Reps.dp hs e1)
  | _, _, _, _, .lstR h hs, e => by
    obtain ⟨ds, e1, rfl⟩ := Option.map_eq_some_iff.mp (show (pyL _).map PyData.list = some _ from e)
    exact .lst h.sqL (Reps.dp hs e1)
  | _, _, _, _, .dK h e hs w, q => by simp [py] at q
  | _, _, _, _, .dN h e ne hk hs w, q => by simp [py] at q
  | _, _, _, _, .exc0 _, q => by simp [py] at q
  | _, _, _, _, .excD _ _ _ _ _, q => by simp [py] at q
  | _, _, _, _, .ins _ _ _ _ _, q => by simp [py] at q
  | _, _, _, _, .box _ _ _ _ _, q => by simp [py] at q
  | _, _, _, _, .opq _ _ _ _ _, q => by simp [py] at q
theorem Reps.dp : ∀ {d : List D} {v : List V} {fp : List Addr} {p : List PyData}, Reps g Z H d v fp → pyL d = some p → DpAll g.K H v p
  | _, _, _, _, .nil, e => by cases e; exact .nil
  | _, _, _, _, .cons (x := x) (xs := xs) h hs, e => by
    have e : ((py x).bind fun d => (pyL xs).map fun ds => d :: ds) = some _ := e
    obtain ⟨d, e1, e2⟩ := Option.bind_eq_some_iff.mp e
    obtain ⟨ds, e3, rfl⟩ := Option.map_eq_some_iff.mp e2
    exact .cons (Rep.dp h e1) (Reps.dp hs e3)
end
theorem rep_own {xs : List D} {v : V} {fp : List Addr} (r : Rep g Z H (.lst true xs) v fp) : ∃ l vs fs, v = .ref l ∧ H l = some (.lst vs) ∧ Reps g Z H xs vs fs ∧ fp = l :: fs := by
  cases r with
  | lst h hs w =>
    rcases w with ⟨_, e⟩ | ⟨e, _⟩
    · exact ⟨_, _, _, rfl, h, hs, e⟩
    · cases e
theorem rep_lst' {o : Bool} {xs : List D} {v : V} {fp : List Addr} (r : Rep g Z H (.lst o xs) v fp) : ∃ a vs fs, v = .ref a ∧ SqL g.K H a vs ∧ Reps g Z H xs vs fs ∧ (∀ b ∈ fs, b ∈ fp) := by
  cases r with
  | lst h hs w => exact ⟨_, _, _, rfl, .of h, hs, w.sub⟩
  | lstR h hs => exact ⟨_, _, _, rfl, h.sqL, hs, fun _ h => nomatch h⟩
end
section
variable {X : Cx}
def rCatR : R2 := fun x y H Q => ∃ l b xs zs, x = .ref l ∧ y = .ref b ∧ Rd H l (.lst xs) ∧ Rd H b (.lst zs) ∧ xs.length + zs.length ≤ sizeLine ∧ ∀ p, H p = none → Q (.ref p) (upd H p (.lst (xs ++ zs)))
theorem op_catR : OpR X (binaryOp .Add) rCatR := by
  intro pins s σ H x y v u Q I rx ry h
  obtain ⟨l, b, xs, zs, rfl, rfl, hH, hB, hz, q⟩ := h
  cases rx
  cases ry
  obtain ⟨z, its, n, r, e⟩ := hH.ok I.hok
  obtain ⟨z2, its2, n2, r2, e2⟩ := hB.ok I.hok
  have hl := r.length
  have hl2 := r2.length
  refine PySem.P.add_list e e2 ?_ (by rw [List.size_toArray, List.size_toArray]; omega)
  have ea : its.toArray ++ its2.toArray = (its ++ its2).toArray := by simp
  rw [ea]
  exact ⟨.ref _, _, I.lnew (t' := s.toks) (r.append r2) (by rw [List.length_append]; omega), rfl, q _ I.fresh⟩
def rRepR : R2 := fun x y H Q => ∃ l k xs, x = .ref l ∧ y = .int k ∧ Rd H l (.lst xs) ∧ -(2 ^ 63) ≤ k ∧ k < 2 ^ 63 ∧ xs.length * k.toNat ≤ sizeLine ∧
  ∀ p, H p = none → Q (.ref p) (upd H p (.lst (List.replicate k.toNat xs).flatten))
theorem op_repR : OpR X (binaryOp .Mult) rRepR := by
  intro pins s σ H x y v u Q I rx ry h
  obtain ⟨l, k, xs, rfl, rfl, hH, h1, h2, hz, q⟩ := h
  cases rx
  obtain ⟨t, rfl⟩ := ry
  obtain ⟨z, its, n, r, e⟩ := hH.ok I.hok
  have hl := r.length
  have hlen : its.toArray.size * k.toNat ≤ sizeLine := by rw [List.size_toArray, ← hl]; exact hz
  have hcap : ¬ its.toArray.size * k.toNat > (2 ^ 63 - 1) / 8 := by
    have : (sizeLine : Nat) ≤ (2 ^ 63 - 1) / 8 := by decide
    omega
  have hfit : ¬ (!Builtin.List.listFitsIndex k) = true := by
    rw [fitsIndex_both h1 h2]
    exact Bool.false_ne_true
  have hlong : ¬ Builtin.List.listTooLong (its.toArray.size * k.toNat) = true := by
    rw [notLongL hlen]
    exact Bool.false_ne_true
  have hnew : List.foldl (fun x1 x2 => x1 ++ x2) #[] (List.replicate (if its.toArray.isEmpty = true then 0 else k.toNat) its.toArray) = (List.replicate k.toNat its).flatten.toArray := by
    have f0 : ∀ m : Nat, List.foldl (fun x1 x2 => x1 ++ x2) #[] (List.replicate m its.toArray) = (List.replicate m its).flatten.toArray := fun m => by
      have := foldl_rep its m []
      rw [List.nil_append] at this
      exact this
    rw [f0]
    cases its with
    | nil => simp
    | cons a r' => rw [if_neg (by simp)]
  refine wpAny_binaryOp_repeat_ref (T := "list") (U := "int") (by decide) ⟨_, e, rfl⟩ (fun s' => typeIs_int s' k t) noFill_list_mul F.fills_int_mul F.slot_int_rmul repeat_list F.slot_int_index.lookup
    (call_meets F.slot_int_rmul (typeIs_int s k t) F.entry_int_rmul (F.args_int_rmul_2 _ _) (int___rmul___int_list k t l its.toArray n)
      ⟨e, rfl, ⟨_, e, rfl⟩, call_meets F.slot_list_mul ⟨_, e, rfl⟩ F.entry_list_mul (F.args_list_mul_2 _ _) (AutoListH.list___mul___list_int_3 l its.toArray n k t hfit hcap hlong) ⟨e, ?_⟩⟩)
  rw [hnew]
  exact ⟨.ref _, _, I.lnew (t' := s.toks) (r.rep k.toNat) (by rw [PyProof.Rows.lm_len_rep_flat, Nat.mul_comm]; exact hz), rfl, q _ I.fresh⟩
def rInT (K : PySem.W.Frag) (neg : Bool) : R2 := fun x y H Q => ∃ d ds, Dp K H x d ∧ Dp K H y (.tuple ds) ∧ SeqAt.shaped d = true ∧ SeqAt.shaped (.list ds) = true ∧ Q (.bl (if neg = true then !ds.any fun z => PyData.eqv z d else ds.any fun z => PyData.eqv z d)) H
theorem in_tup_raw (hu : X.A.units + 65 < cLine) {pins : List (Addr × Obj)} {s : Shared} {σ : L2.St} {H : Hp} {x y : V} {v u : Value} {d : PyData} {ds : List PyData} (I : Inv X pins σ H s) (rx : RelV x v) (ry : RelV y u) (hd : Dp X.K H x d) (he : Dp X.K H y (.tuple ds))
    (sd : SeqAt.shaped d = true) (se : SeqAt.shaped (.list ds) = true) : ∃ (a : Addr) (its : List Value), u = .ref a ∧ IsTup s.heap a its.toArray ∧ (∀ w ∈ its.toArray, SeqAt.EqAt X.A.in1 s w v (PyData.eqv (SeqAt.readOf s.heap w) d)) ∧ (its.toArray.any fun w => PyData.eqv (SeqAt.readOf s.heap w) d) = ds.any fun z => PyData.eqv z d := by
  cases he with
  | tup hs ha =>
    cases ry
    obtain ⟨its, rv, ht, hlen⟩ := I.tuple hs
    obtain ⟨bs, r1⟩ := Dp.reads I d x v hd rx
    obtain ⟨as, h4⟩ := Dp.readsAll I ds _ its ha rv
    have hxs : PyData.canLayAll0 ds = true := SeqAt.canLay_of_shaped se
    have hroom : X.A.units + 1 + min (PyData.depthAll ds) d.depth < cLine := room_in_shaped sd hu
    have hmap : its.map (SeqAt.readOf s.heap) = ds := SeqAt.readsAll_map ds its as hxs h4
    refine ⟨_, its, rfl, ht, SeqAt.items_eqAt (vs := its.toArray) (show ReadsAll s.heap its.toArray.toList ds as from h4) r1 hxs (SeqAt.canLay_of_shaped sd) hroom, ?_⟩
    rw [← hmap, List.any_map]
    simp [Function.comp_def]
theorem op_inT (hu : X.A.units + 65 < cLine) : OpR X (compareOp .In) (rInT X.K false) := by
  intro pins s σ H x y v u Q I rx ry h
  obtain ⟨d, ds, hd, he, sd, se, q⟩ := h
  obtain ⟨a, its, rfl, ht, hq, e⟩ := in_tup_raw hu I rx ry hd he sd se
  refine SeqAt.in_tupleAt _ ht hq ⟨.bl _, H, I, rfl, ?_⟩
  rw [e]
  exact q
theorem op_notInT (hu : X.A.units + 65 < cLine) : OpR X (compareOp .NotIn) (rInT X.K true) := by
  intro pins s σ H x y v u Q I rx ry h
  obtain ⟨d, ds, hd, he, sd, se, q⟩ := h
  obtain ⟨a, its, rfl, ht, hq, e⟩ := in_tup_raw hu I rx ry hd he sd se
  refine SeqAt.notIn_tupleAt _ ht hq ⟨.bl _, H, I, rfl, ?_⟩
  rw [e]
  exact q
end
section
variable {X : Cx} {g : Gv} {W : L2.WX}
theorem cleanL_append {xs ys : List D} (a : cleanL xs = true) (b : cleanL ys = true) : cleanL (xs ++ ys) = true := by
  rw [cleanL_all] at a b ⊢
  rw [List.all_append, a, b]
  rfl
theorem reps_rep {Z : Addr → Prop} {H : Hp} {xs : List D} {vs : List V} (r : Reps g Z H xs vs []) : ∀ k : Nat, Reps g Z H (List.replicate k xs).flatten (List.replicate k vs).flatten []
  | 0 => .nil
  | k + 1 => by
    rw [List.replicate_succ, List.replicate_succ, List.flatten_cons, List.flatten_cons]
    exact r.append (reps_rep r k)
theorem own_new {Z : Addr → Prop} {p : Addr} : OwnP Z true p [] [p] := .inl ⟨rfl, rfl⟩
def rAddD (K : PySem.W.Frag) : R2 := fun x y H Q => (rI0 fun i j => .int (i + j)) x y H Q ∨ ((∃ i j, x = .str i ∧ y = .str j ∧ i.length + j.length ≤ sizeLine ∧ Q (.str (i ++ j)) H) ∨ (rCatR x y H Q ∨ rCatA K x y H Q))
theorem opr_add : OpR X (binaryOp .Add) (rAddD X.K) := op_add.or (op_add_str.or (op_catR.or op_catA))
theorem opd_add : OpD g W true (rAddD g.K) (binD .add) := by
  intro Z σ H x y v u fx fy Q hz rx ry o
  cases x with
  | int i =>
    cases y with
    | int j =>
      obtain ⟨rfl, _⟩ := rep_int rx
      obtain ⟨rfl, _⟩ := rep_int ry
      exact .inl ⟨i, j, rfl, rfl, o _ H Z [] (post_sc hz (.int _))⟩
    | _ => exact o.elim
  | str i =>
    cases y with
    | str j =>
      obtain ⟨rfl, _⟩ := rep_str rx
      obtain ⟨rfl, _⟩ := rep_str ry
      obtain ⟨hl, o⟩ := Out.guard o
      exact .inr (.inl ⟨i, j, rfl, rfl, hl, o _ H Z [] (post_sc hz (.str _))⟩)
    | _ => exact o.elim
  | lst o1 xs =>
    cases y with
    | lst o2 ys =>
      cases o1 with
      | false => exact o.elim
      | true =>
      cases o2 with
      | false => exact o.elim
      | true =>
      obtain ⟨hl, o⟩ := Out.guard o
      obtain ⟨a, vs, f1, rfl, h1, r1, _⟩ := rep_own rx
      obtain ⟨b, us, f2, rfl, h2, r2, _⟩ := rep_own ry
      obtain ⟨hc, hn⟩ := hl
      rw [Bool.and_eq_true] at hc
      have c1 := r1.to0 hc.1
      have c2 := r2.to0 hc.2
      refine .inr (.inr (.inl ⟨a, b, vs, us, rfl, rfl, .inl h1, .inl h2, by rw [← r1.length, ← r2.length]; exact hn, fun p hp => o _ _ Z [p] (post_new hz hp ?_ (.inr rfl))⟩))
      exact .lst upd_same ((c1.append c2).same (fun _ z => z) (same_upd hp)) own_new
    | _ => cases o1 <;> exact o.elim
  | tup xs =>
    cases y with
    | tup ys =>
      obtain ⟨hl, o⟩ := Out.guard o
      obtain ⟨a, vs, rfl, h1, r1⟩ := rep_tup rx
      obtain ⟨b, us, rfl, h2, r2⟩ := rep_tup ry
      obtain ⟨hc, hn⟩ := hl
      rw [Bool.and_eq_true] at hc
      have c1 := r1.to0 hc.1
      have c2 := r2.to0 hc.2
      have c3 := c1.append c2
      refine .inr (.inr (.inr ⟨a, b, vs, us, rfl, rfl, h1, h2, by rw [← r1.length, ← r2.length]; exact hn, fun e => ?_, fun _ e => ?_, fun _ _ p hp => ?_⟩))
      · subst e
        refine o _ H Z [] (post_sc hz (.tup h2 ?_))
        cases c1
        exact c2
      · subst e
        refine o _ H Z [] (post_sc hz (.tup h1 ?_))
        cases c2
        rw [List.append_nil]
        exact c1
      · exact o _ _ Z [] (post_new hz hp (.tup (.of upd_same) (c3.same (fun _ z => z) (same_upd hp))) (.inl rfl))
    | _ => exact o.elim
  | _ => exact o.elim
theorem opd_sub : OpD g W true (rI0 fun i j => .int (i - j)) (binD .sub) := by
  intro Z σ H x y v u fx fy Q hz rx ry o
  cases x with
  | int i =>
    cases y with
    | int j =>
      obtain ⟨rfl, _⟩ := rep_int rx
      obtain ⟨rfl, _⟩ := rep_int ry
      exact ⟨i, j, rfl, rfl, o _ H Z [] (post_sc hz (.int _))⟩
    | _ => exact o.elim
  | _ => exact o.elim
def rMulD : R2 := fun x y H Q => rI CMul (fun i j => .int (i * j)) x y H Q ∨ rRepR x y H Q
theorem opr_mul : OpR X (binaryOp .Mult) rMulD := op_mul.or op_repR
theorem cmul_of {i j : Int} (h : (small64 i || small64 j) = true) : CMul i j := by
  unfold small64 at h
  simp only [Bool.or_eq_true, Bool.and_eq_true, decide_eq_true_eq, lim64_eq] at h
  exact h
theorem opd_mul : OpD g W true rMulD (binD .mul) := by
  intro Z σ H x y v u fx fy Q hz rx ry o
  cases x with
  | int i =>
    cases y with
    | int j =>
      obtain ⟨rfl, _⟩ := rep_int rx
      obtain ⟨rfl, _⟩ := rep_int ry
      obtain ⟨hl, o⟩ := Out.guard o
      exact .inl ⟨i, j, rfl, rfl, cmul_of hl, o _ H Z [] (post_sc hz (.int _))⟩
    | _ => exact o.elim
  | lst o1 xs =>
    cases y with
    | int k =>
      cases o1 with
      | false => exact o.elim
      | true =>
      obtain ⟨hl, o⟩ := Out.guard o
      obtain ⟨hc, h12, h3⟩ := hl
      unfold small62 at h12
      simp only [Bool.and_eq_true, decide_eq_true_eq, lim62_eq] at h12
      obtain ⟨h1, h2⟩ := h12
      obtain ⟨a, vs, f1, rfl, hr, r1, _⟩ := rep_own rx
      obtain ⟨rfl, _⟩ := rep_int ry
      refine .inr ⟨a, k, vs, rfl, rfl, .inl hr, by omega, by omega, by rw [← r1.length]; exact h3, fun p hp => o _ _ Z [p] (post_new hz hp ?_ (.inr rfl))⟩
      exact .lst upd_same ((reps_rep (r1.to0 hc) k.toNat).same (fun _ z => z) (same_upd hp)) own_new
    | _ => cases o1 <;> exact o.elim
  | _ => exact o.elim
theorem opd_fdiv : OpD g W true (rI CDivW fun i j => .int (i / j)) (binD .fdiv) := by
  intro Z σ H x y v u fx fy Q hz rx ry o
  cases x with
  | int i =>
    cases y with
    | int j =>
      obtain ⟨rfl, _⟩ := rep_int rx
      obtain ⟨rfl, _⟩ := rep_int ry
      obtain ⟨hl, o⟩ := Out.guard o
      exact ⟨i, j, rfl, rfl, hl, o _ H Z [] (post_sc hz (.int _))⟩
    | _ => exact o.elim
  | _ => exact o.elim
theorem opd_mod : OpD g W true (rI (fun _ j => 0 < j) fun i j => .int (i % j)) (binD .mod) := by
  intro Z σ H x y v u fx fy Q hz rx ry o
  cases x with
  | int i =>
    cases y with
    | int j =>
      obtain ⟨rfl, _⟩ := rep_int rx
      obtain ⟨rfl, _⟩ := rep_int ry
      obtain ⟨hl, o⟩ := Out.guard o
      exact ⟨i, j, rfl, rfl, hl, o _ H Z [] (post_sc hz (.int _))⟩
    | _ => exact o.elim
  | _ => exact o.elim
theorem opd_pow : OpD g W true (rI CPow fun i j => .int (i ^ j.toNat)) (binD .pow) := by
  intro Z σ H x y v u fx fy Q hz rx ry o
  cases x with
  | int i =>
    cases y with
    | int j =>
      obtain ⟨rfl, _⟩ := rep_int rx
      obtain ⟨rfl, _⟩ := rep_int ry
      obtain ⟨hl, o⟩ := Out.guard o
      exact ⟨i, j, rfl, rfl, hl, o _ H Z [] (post_sc hz (.int _))⟩
    | _ => exact o.elim
  | _ => exact o.elim
end
end DI
namespace DI
open PySem PySem.Spec PyProof.Rows L2
section
variable {g : Gv} {Z : Addr → Prop} {H : Hp}
def atN (xs : List (NestedKey × Addr × V)) (k : NestedKey) : Option V := (xs.find? fun p => decide (p.1 = k)).map (·.2.2)
def putN (xs : List (NestedKey × Addr × V)) (k : NestedKey) (b : Addr) (v : V) : List (NestedKey × Addr × V) :=
  if (xs.any fun p => decide (p.1 = k)) = true then xs.map (fun p => if p.1 = k then (p.1, p.2.1, v) else p) else xs ++ [(k, b, v)]
abbrev PN : List (NestedKey × Addr × V) → List (NestedKey × Addr × Value) → Prop := Paired fun p q => p.1 = q.1 ∧ p.2.1 = q.2.1 ∧ RelV p.2.2 q.2.2
theorem PN.val {xs : List (NestedKey × Addr × V)} {ys : List (NestedKey × Addr × Value)} (r : PN xs ys) (k : NestedKey) : RelO (atN xs k) ((atKey ys k).map (·.2)) := by
  induction r with
  | nil => exact True.intro
  | @cons p q ps qs h t ih =>
    obtain ⟨h1, _, h2⟩ := h
    by_cases e : p.1 = k
    · have e' : q.1 = k := h1.symm.trans e
      have b : atKey (q :: qs) k = some q.2 := by simp [atKey, List.find?_cons, e']
      have c : atN (p :: ps) k = some p.2.2 := by simp [atN, List.find?_cons, e]
      rw [b, c]; exact h2
    · have e' : ¬ q.1 = k := fun z => e (h1.trans z)
      have b : atKey (q :: qs) k = atKey qs k := by simp [atKey, List.find?_cons, e']
      have c : atN (p :: ps) k = atN ps k := by simp [atN, List.find?_cons, e]
      rw [b, c]; exact ih
theorem PN.any {xs : List (NestedKey × Addr × V)} {ys : List (NestedKey × Addr × Value)} (r : PN xs ys) (k : NestedKey) : (xs.any fun p => decide (p.1 = k)) = (atKey ys k).isSome := by
  have h := (r.val k).isSome_eq
  rw [Option.isSome_map] at h
  rw [← h]
  unfold atN
  rw [Option.isSome_map, Bool.eq_iff_iff, List.any_eq_true, List.find?_isSome]
theorem PN.keys {xs : List (NestedKey × Addr × V)} {ys : List (NestedKey × Addr × Value)} (r : PN xs ys) : ys.map (·.1) = xs.map (·.1) := by
  induction r with
  | nil => rfl
  | cons hq t ih => rw [List.map_cons, List.map_cons, ih, hq.1]
theorem PN.length {xs : List (NestedKey × Addr × V)} {ys : List (NestedKey × Addr × Value)} (r : PN xs ys) : xs.length = ys.length := Paired.length r
theorem PN.repl {xs : List (NestedKey × Addr × V)} {ys : List (NestedKey × Addr × Value)} (r : PN xs ys) (k : NestedKey) {y : V} {u : Value} (ry : RelV y u) :
    PN (xs.map fun p => if p.1 = k then (p.1, p.2.1, y) else p) (ys.map (putAt k u)) := by
  induction r with
  | nil => exact .nil
  | @cons p q ps qs h t ih =>
    rw [List.map_cons, List.map_cons]
    refine .cons ?_ ih
    obtain ⟨h1, h2, h3⟩ := h
    unfold putAt
    by_cases e : p.1 = k
    · rw [if_pos e, if_pos (h1.symm.trans e)]; exact ⟨h1, h2, ry⟩
    · rw [if_neg e, if_neg (fun z => e (h1.trans z))]; exact ⟨h1, h2, h3⟩
theorem PN.put {xs : List (NestedKey × Addr × V)} {ys : List (NestedKey × Addr × Value)} (r : PN xs ys) (k : NestedKey) {b : Addr} {y : V} {u : Value} (ry : RelV y u) : PN (putN xs k b y) (storedH ys k b u) := by
  unfold putN storedH
  rw [r.any k]
  by_cases q : (atKey ys k).isSome = true
  · rw [if_pos q, if_pos q]; exact r.repl k ry
  · rw [if_neg q, if_neg q]; exact Paired.snoc r ⟨rfl, rfl, ry⟩
theorem reps_find {kvs : List (NestedKey × D)} {ws : List V} (r : Reps g Z H (kvs.map (·.2)) ws []) : ∀ {ks : List NestedKey}, ks = kvs.map (·.1) → ∀ (k : NestedKey),
    (match dget kvs k with | some d => ∃ v, ((ks.zip ws).find? fun p => decide (p.1 = k)).map (·.2) = some v ∧ Rep g Z H d v [] | none => ((ks.zip ws).find? fun p => decide (p.1 = k)) = none) := by
  induction kvs generalizing ws with
  | nil =>
    intro ks e k
    subst e
    simp [dget]
  | cons p r' ih =>
    intro ks e k
    subst e
    rw [List.map_cons] at r
    generalize hf : ([] : List Addr) = fp at r
    cases r with
    | cons h hs =>
      obtain ⟨e1, e2⟩ := List.append_eq_nil_iff.mp hf.symm
      subst e1 e2
      by_cases e : p.1 = k
      · have c : dget (p :: r') k = some p.2 := by simp [dget, List.find?_cons, e]
        rw [c]
        refine ⟨_, ?_, h⟩
        simp [List.find?_cons, e]
      · have c : dget (p :: r') k = dget r' k := by simp [dget, List.find?_cons, e]
        rw [c]
        have := ih hs rfl k
        simpa [List.find?_cons, e] using this
theorem zip_find_K {kv : List (Key × V)} : ∀ (q : Key), (((kv.map fun p => nk p.1).zip (kv.map (·.2))).find? fun p => decide (p.1 = nk q)).map (·.2) = valV kv q := by
  induction kv with
  | nil => intro q; rfl
  | cons p r ih =>
    intro q
    rw [List.map_cons, List.map_cons, List.zip_cons_cons]
    by_cases e : p.1 = q
    · rw [valV_pos e]; simp [List.find?_cons, e]
    · have e' : ¬ nk p.1 = nk q := fun z => e (by
        cases h1 : p.1 <;> cases h2 : q <;> rw [h1, h2] at z <;> simp [nk] at z <;> rw [z])
      rw [valV_neg e, List.find?_cons]
      simp only [decide_eq_false e']
      exact ih q
theorem zip_find_N {xs : List (NestedKey × Addr × V)} : ∀ (k : NestedKey), (((xs.map (·.1)).zip (xs.map (·.2.2))).find? fun p => decide (p.1 = k)).map (·.2) = atN xs k := by
  induction xs with
  | nil => intro q; rfl
  | cons p r ih =>
    intro k
    rw [List.map_cons, List.map_cons, List.zip_cons_cons]
    by_cases e : p.1 = k
    · simp [atN, List.find?_cons, e]
    · have := ih k
      simp only [atN] at this ⊢
      simpa [List.find?_cons, e] using this
theorem dget_K {kv : List (Key × V)} {kvs : List (NestedKey × D)} (e : (kv.map fun p => nk p.1) = kvs.map (·.1)) (r : Reps g Z H (kvs.map (·.2)) (kv.map (·.2)) []) (q : Key) :
    match dget kvs (nk q) with | some d => ∃ v, valV kv q = some v ∧ Rep g Z H d v [] | none => valV kv q = none := by
  have h := reps_find r e (nk q)
  cases hd : dget kvs (nk q) with
  | some d =>
    rw [hd] at h
    obtain ⟨v, h1, h2⟩ := h
    exact ⟨v, by rw [← zip_find_K]; exact h1, h2⟩
  | none =>
    rw [hd] at h
    show valV kv q = none
    rw [← zip_find_K, show (((kv.map fun p => nk p.1).zip (kv.map (·.2))).find? fun p => decide (p.1 = nk q)) = none from h]
    rfl
theorem dget_N {xs : List (NestedKey × Addr × V)} {kvs : List (NestedKey × D)} (e : xs.map (·.1) = kvs.map (·.1)) (r : Reps g Z H (kvs.map (·.2)) (xs.map (·.2.2)) []) (k : NestedKey) :
    match dget kvs k with | some d => ∃ v, atN xs k = some v ∧ Rep g Z H d v [] | none => atN xs k = none := by
  have h := reps_find r e k
  cases hd : dget kvs k with
  | some d =>
    rw [hd] at h
    obtain ⟨v, h1, h2⟩ := h
    exact ⟨v, by rw [← zip_find_N]; exact h1, h2⟩
  | none =>
    rw [hd] at h
    show atN xs k = none
    rw [← zip_find_N, show (((xs.map (·.1)).zip (xs.map (·.2.2))).find? fun p => decide (p.1 = k)) = none from h]
    rfl
end
section
variable {g : Gv} {Z : Addr → Prop} {H : Hp}
mutual
theorem Rep.krep : ∀ {d : D} {v : V} {fp : List Addr} {k : NestedKey}, Rep g Z H d v fp → key d = some k → KRep g.K H k v
  | _, _, _, _, .non, e => by cases e; exact .none
  | _, _, _, _, .bl b, e => by cases e
  | _, _, _, _, .int i, e => by cases e; exact .num i
  | _, _, _, _, .str x, e => by cases e; exact .text x
  | _, _, _, _, .tup h hs, e => by
    obtain ⟨ds, e1, rfl⟩ := Option.map_eq_some_iff.mp (show (keyL _).map NestedKey.tup = some _ from e)
    exact .tup h (Reps.krep hs e1)
  | _, _, _, _, .lst h hs w, e => by simp [key] at e
  | _, _, _, _, .lstR h hs, e => by simp [key] at e
  | _, _, _, _, .dK h e hs w, q => by simp [key] at q
  | _, _, _, _, .dN h e ne hk hs w, q => by simp [key] at q
  | _, _, _, _, .exc0 _, q => by simp [key] at q
  | _, _, _, _, .excD _ _ _ _ _, q => by simp [key] at q
  | _, _, _, _, .ins _ _ _ _ _, q => by simp [key] at q
  | _, _, _, _, .box _ _ _ _ _, q => by simp [key] at q
  | _, _, _, _, .opq _ _ _ _ _, q => by simp [key] at q
theorem Reps.krep : ∀ {d : List D} {v : List V} {fp : List Addr} {k : List NestedKey}, Reps g Z H d v fp → keyL d = some k → KReps g.K H k v
  | _, _, _, _, .nil, e => by cases e; exact .nil
  | _, _, _, _, .cons (x := x) (xs := xs) h hs, e => by
    have e : ((key x).bind fun d => (keyL xs).map fun ds => d :: ds) = some _ := e
    obtain ⟨d, e1, e2⟩ := Option.bind_eq_some_iff.mp e
    obtain ⟨ds, e3, rfl⟩ := Option.map_eq_some_iff.mp e2
    exact .cons (Rep.krep h e1) (Reps.krep hs e3)
end
mutual
theorem KRep.is {X : Cx} {pins : List (Addr × Obj)} {σ : L2.St} {s : Shared} (I : Inv X pins σ H s) : ∀ {k : NestedKey} {v : V} {u : Value}, KRep X.K H k v → RelV v u → NestedIs s.heap k u
  | _, _, _, .none, r => by cases r; exact .none
  | _, _, _, .num i, r => by obtain ⟨t, rfl⟩ := r; exact .int i t
  | _, _, _, .text x, r => by obtain ⟨t, rfl⟩ := r; exact .text x t
  | _, _, _, .tup h hs, r => by
    cases r
    obtain ⟨its, rv, ⟨o, ho, hc, n, hd⟩, _⟩ := I.tuple h
    exact .tup ho hc hd (KReps.is I hs rv)
theorem KReps.is {X : Cx} {pins : List (Addr × Obj)} {σ : L2.St} {s : Shared} (I : Inv X pins σ H s) : ∀ {k : List NestedKey} {v : List V} {u : List Value}, KReps X.K H k v → Vals v u → NestedAll s.heap k u
  | _, _, _, .nil, r => by cases r; exact .nil
  | _, _, _, .cons h hs, r => by
    cases r with
    | cons r1 r2 => exact .cons (KRep.is I h r1) (KReps.is I hs r2)
end
theorem keyIn_ok {x : D} {kvs : List (NestedKey × D)} {k : NestedKey} (h : keyIn x kvs = .ok k) : key x = some k ∧
    ((isLeafKey k = true ∧ leafD x = true ∧ ∀ p ∈ kvs, isLeafKey p.1 = true) ∨ (isTupKey k = true ∧ k.depth ≤ 8 ∧ ∀ p ∈ kvs, isTupKey p.1 = true)) := by
  unfold keyIn at h
  cases e : key x with
  | none => rw [e] at h; cases h
  | some k' =>
    rw [e] at h
    simp only at h
    split at h
    · rename_i hc
      cases h
      refine ⟨rfl, ?_⟩
      unfold keysWith at hc
      simp only [Bool.and_eq_true, Bool.or_eq_true, List.all_eq_true, decide_eq_true_eq] at hc
      obtain ⟨h1, h2⟩ := hc
      rcases h1 with ⟨a, b⟩ | ⟨⟨a, b⟩, c⟩
      · rcases h2 with h2 | h2
        · cases k <;> simp [isLeafKey, isTupKey] at a h2
        · exact .inl ⟨a, h2, b⟩
      · exact .inr ⟨a, b, c⟩
    · cases h
theorem keyIn_err {x : D} {kvs : List (NestedKey × D)} : ∀ c fs, keyIn x kvs ≠ .err c fs := fun c fs h => by
  unfold keyIn at h
  split at h
  · split at h <;> cases h
  · cases h
theorem leaf_rep {x : D} {v : V} {fp : List Addr} {k : NestedKey} (r : Rep g Z H x v fp) (hk : key x = some k) (hl : leafD x = true) : ∃ q, k = nk q ∧ v = kV q := by
  cases r with
  | int i => cases hk; exact ⟨.inl i, rfl, rfl⟩
  | str i => cases hk; exact ⟨.inr i, rfl, rfl⟩
  | _ => simp [leafD] at hl
theorem tup_rep {x : D} {v : V} {fp : List Addr} {k : NestedKey} (r : Rep g Z H x v fp) (hk : key x = some k) (hl : isTupKey k = true) : ∃ b, v = .ref b := by
  cases r with
  | tup h hs => exact ⟨_, rfl⟩
  | non => cases hk; simp [isTupKey] at hl
  | bl b => cases hk
  | int b => cases hk; simp [isTupKey] at hl
  | str b => cases hk; simp [isTupKey] at hl
  | _ => simp [key] at hk
end
structure NV (g : Gv) (Z : Addr → Prop) (H : Hp) (h : Heap) (a : Addr) (kvs : List (NestedKey × D)) (xs : List (NestedKey × Addr × V)) (ys : List (NestedKey × Addr × Value)) : Prop where
  keys : xs.map (·.1) = kvs.map (·.1)
  krep : ∀ p ∈ xs, KRep g.K H p.1 (.ref p.2.1) ∧ p.1.depth ≤ 8
  vals : Reps g Z H (kvs.map (·.2)) (xs.map (·.2.2)) []
  pair : PN xs ys
  dict : h.DictOfH (nestedKind g.P g.w) a ys
  len : xs.length ≤ sizeLine
  nosys : (a == sysModules) = false
section
variable {X : Cx} {g : Gv} {Z : Addr → Prop} {H : Hp} {pins : List (Addr × Obj)} {σ : L2.St} {s : Shared}
theorem nv_of (G : Gof g X) (I : Inv X pins σ H s) {o : Bool} {kvs : List (NestedKey × D)} {v : V} {fp : List Addr} (r : Rep g Z H (.dct o kvs) v fp) (ht : ∀ p ∈ kvs, isTupKey p.1 = true) :
    ∃ a xs ys, v = .ref a ∧ NV g Z H s.heap a kvs xs ys ∧ Mut (H a) := by
  cases r with
  | @dK a kv _ _ _ h e hs w =>
    have ek : kvs = [] := by
      cases kvs with
      | nil => rfl
      | cons p r =>
        cases kv with
        | nil => simp at e
        | cons q r' =>
          rw [List.map_cons, List.map_cons] at e
          have e1 : nk q.1 = p.1 := (List.cons.inj e).1
          have := ht p List.mem_cons_self
          rw [← e1] at this
          cases hq : q.1 <;> rw [hq] at this <;> simp [nk, isTupKey] at this
    subst ek
    have ev : kv = [] := by simpa using e
    subst ev
    obtain ⟨z, hd, vs, rel, ob, es, ep, h1, h2, h3, h4⟩ := dk_of I.hok h
    cases rel
    have hes : es.toList = [] := by
      obtain ⟨_, hp, _⟩ := h4
      generalize es.toList = l at hp ⊢
      cases hp
      rfl
    exact ⟨a, [], [], rfl, ⟨rfl, (fun p hp => nomatch hp), .nil, .nil, ⟨ob, es, ep, h1, h2, h3, hes, (fun x hx => nomatch hx), List.nodup_nil⟩, Nat.zero_le _, hd⟩, by rw [h]; exact True.intro⟩
  | @dN a ob xs _ _ _ h e ne hk hs w =>
    obtain ⟨⟨hl, hd, hn, ys, hp, es, ep, h1, h2, h3, h4⟩, _⟩ := I.hok a _ h
    rw [G.P.symm, G.w.symm] at h4
    refine ⟨a, xs, ys, rfl, ⟨e, hk, hs, hp, ⟨ob, es, ep, h1, h2, h3, by rw [← G.P, ← G.w]; exact h4, fun x hx => ?_, ?_⟩, hl, hd⟩, by rw [h]; exact True.intro⟩
    · have all : ∀ {l : List (NestedKey × Addr × V)} {m : List (NestedKey × Addr × Value)}, PN l m → (∀ p ∈ l, KRep g.K H p.1 (.ref p.2.1) ∧ p.1.depth ≤ 8) → ∀ x ∈ m, (nestedKind g.P g.w).is s.heap x.1 x.2.1 := by
        intro l m q
        induction q with
        | nil => intro _ x hx; exact nomatch hx
        | @cons p q ps qs hq t ih =>
          intro hk x hx
          rcases List.mem_cons.mp hx with e | hx
          · subst e
            obtain ⟨k1, k2⟩ := hk p List.mem_cons_self
            refine ⟨?_, by rw [← hq.1]; exact k2⟩
            rw [← hq.1, ← hq.2.1]
            exact KRep.is (v := .ref p.2.1) (u := .ref p.2.1) I (by rw [G.K]; exact k1) rfl
          · exact ih (fun p hp => hk p (List.mem_cons_of_mem _ hp)) x hx
      exact all hp hk x hx
    · have em : ys.map (·.1) = xs.map (·.1) := PN.keys hp
      rw [em]
      exact hn
theorem NV.look {h : Heap} {a : Addr} {kvs : List (NestedKey × D)} {xs : List (NestedKey × Addr × V)} {ys : List (NestedKey × Addr × Value)} (n : NV g Z H h a kvs xs ys) (k : NestedKey) :
    match dget kvs k with | some d => ∃ v p, atKey ys k = some p ∧ RelV v p.2 ∧ Rep g Z H d v [] | none => atKey ys k = none := by
  have h1 := dget_N n.keys n.vals k
  have h2 := n.pair.val k
  cases hd : dget kvs k with
  | some d =>
    rw [hd] at h1
    obtain ⟨v, e, r⟩ := h1
    rw [e] at h2
    cases hk : atKey ys k with
    | none => rw [hk] at h2; exact h2.elim
    | some p => rw [hk] at h2; exact ⟨v, p, rfl, h2, r⟩
  | none =>
    rw [hd] at h1
    have h1 : atN xs k = none := h1
    rw [h1] at h2
    cases hk : atKey ys k with
    | none => rfl
    | some p => rw [hk] at h2; exact h2.elim
theorem NV.isSome {h : Heap} {a : Addr} {kvs : List (NestedKey × D)} {xs : List (NestedKey × Addr × V)} {ys : List (NestedKey × Addr × Value)} (n : NV g Z H h a kvs xs ys) (k : NestedKey) : (atKey ys k).isSome = (dget kvs k).isSome := by
  have h1 := n.look k
  cases hd : dget kvs k with
  | some d =>
    rw [hd] at h1
    obtain ⟨v, p, e, _⟩ := h1
    rw [e]; rfl
  | none =>
    rw [hd] at h1
    rw [show atKey ys k = none from h1]; rfl
end
section
variable {X : Cx} {g : Gv} {Z : Addr → Prop} {H : Hp} {pins : List (Addr × Obj)} {σ : L2.St} {s : Shared} {A : Around} {E : Value → Shared → Prop}
structure DV (g : Gv) (Z : Addr → Prop) (H : Hp) (x : D) (kvs : List (NestedKey × D)) (k : NestedKey) (y d : V) : Prop where
  key : ∃ fp, Rep g Z H x y fp
  dict : ∃ o fp, Rep g Z H (.dct o kvs) d fp
  ok : keyIn x kvs = .ok k
theorem dv_leaf {x : D} {kvs : List (NestedKey × D)} {k : NestedKey} {y d : V} (I : Inv X pins σ H s) (v : DV g Z H x kvs k y d) (hl : isLeafKey k = true) (hx : leafD x = true) (ha : ∀ p ∈ kvs, isLeafKey p.1 = true) :
    ∃ a kv q o fp, d = .ref a ∧ H a = some (.dK kv) ∧ k = nk q ∧ y = kV q ∧ (kv.map fun p => nk p.1) = kvs.map (·.1) ∧ Reps g Z H (kvs.map (·.2)) (kv.map (·.2)) [] ∧ OwnP Z o a [] fp := by
  obtain ⟨⟨fp, ry⟩, ⟨o, fq, rd⟩, ok⟩ := v
  obtain ⟨hk, _⟩ := keyIn_ok ok
  obtain ⟨q, e1, e2⟩ := leaf_rep ry hk hx
  cases rd with
  | dK h e hs w => exact ⟨_, _, q, _, _, rfl, h, e1, e2, e, hs, w⟩
  | @dN a _ xs _ _ _ h e ne hk' hs w =>
    exfalso
    cases xs with
    | nil => exact ne rfl
    | cons p r =>
      have e3 : p.1 ∈ kvs.map (·.1) := by rw [← e]; exact List.mem_map.mpr ⟨p, List.mem_cons_self, rfl⟩
      obtain ⟨q', hq, e4⟩ := List.mem_map.mp e3
      have l1 := ha q' hq
      rw [e4] at l1
      have l2 := (hk' p List.mem_cons_self).1
      generalize hv : V.ref p.2.1 = vv at l2
      generalize hp1 : p.1 = kk at l1 l2
      cases l2 <;> simp [isLeafKey] at l1 <;> cases hv
theorem dct_in (hu : A.units + 70 < cLine) (G : Gof g X) (I : Inv X pins σ H s) {x : D} {kvs : List (NestedKey × D)} {k : NestedKey} {y d : V} {u r : Value} {Q : Value → Shared → Prop} (v : DV g Z H x kvs k y d) (ry : RelV y u) (rd : RelV d r)
    (h : ∀ s', Inv X pins σ H s' → Q (.bool (dget kvs k).isSome) s') : wpAny (model X.prog X.w) A (compareOp .In u r) Q E s := by
  rcases (keyIn_ok v.ok).2 with ⟨hl, hx, ha⟩ | ⟨ht, hd8, ha⟩
  · obtain ⟨a, kv, q, o, fp, rfl, ha', e1, rfl, ek, rv, _⟩ := dv_leaf I v hl hx ha
    cases rd
    refine d_in (by omega) I (DGet.k (k := q) ha') ry fun s' I' => ?_
    have hq := dget_K ek rv q
    rw [e1] at h
    have e2 : (valV kv q).isSome = (dget kvs (nk q)).isSome := by
      cases hdg : dget kvs (nk q) with
      | some d => rw [hdg] at hq; obtain ⟨v', e3, _⟩ := hq; rw [e3]; rfl
      | none => rw [hdg] at hq; rw [show valV kv q = none from hq]; rfl
    rw [e2]
    exact h s' I'
  · obtain ⟨fq, rk⟩ := v.key
    obtain ⟨o, fp, rdd⟩ := v.dict
    have hk := (keyIn_ok v.ok).1
    obtain ⟨b, rfl⟩ := tup_rep rk hk ht
    obtain ⟨a, xs, ys, rfl, nv, _⟩ := nv_of G I rdd ha
    cases rd
    cases ry
    rw [← nv.isSome k] at h
    have hkey : (nestedKind X.prog X.w).is s.heap k b := ⟨KRep.is (v := .ref b) (u := .ref b) I (by rw [G.K]; exact rk.krep hk) rfl, hd8⟩
    refine wpAny_in_heap (knd := nestedKind X.prog X.w) (show A.units + 1 + 8 < cLine by omega) hkey nv.nosys (by rw [G.P, G.w]; exact nv.dict) (h _ (I.tok _))
theorem dct_notIn (hu : A.units + 70 < cLine) (G : Gof g X) (I : Inv X pins σ H s) {x : D} {kvs : List (NestedKey × D)} {k : NestedKey} {y d : V} {u r : Value} {Q : Value → Shared → Prop} (v : DV g Z H x kvs k y d) (ry : RelV y u) (rd : RelV d r)
    (h : ∀ s', Inv X pins σ H s' → Q (.bool (!(dget kvs k).isSome)) s') : wpAny (model X.prog X.w) A (compareOp .NotIn u r) Q E s := by
  rcases (keyIn_ok v.ok).2 with ⟨hl, hx, ha⟩ | ⟨ht, hd8, ha⟩
  · obtain ⟨a, kv, q, o, fp, rfl, ha', e1, rfl, ek, rv, _⟩ := dv_leaf I v hl hx ha
    cases rd
    refine d_notIn (by omega) I (DGet.k (k := q) ha') ry fun s' I' => ?_
    have hq := dget_K ek rv q
    rw [e1] at h
    have e2 : (valV kv q).isSome = (dget kvs (nk q)).isSome := by
      cases hdg : dget kvs (nk q) with
      | some d => rw [hdg] at hq; obtain ⟨v', e3, _⟩ := hq; rw [e3]; rfl
      | none => rw [hdg] at hq; rw [show valV kv q = none from hq]; rfl
    rw [e2]
    exact h s' I'
  · obtain ⟨fq, rk⟩ := v.key
    obtain ⟨o, fp, rdd⟩ := v.dict
    have hk := (keyIn_ok v.ok).1
    obtain ⟨b, rfl⟩ := tup_rep rk hk ht
    obtain ⟨a, xs, ys, rfl, nv, _⟩ := nv_of G I rdd ha
    cases rd
    cases ry
    rw [← nv.isSome k] at h
    have hkey : (nestedKind X.prog X.w).is s.heap k b := ⟨KRep.is (v := .ref b) (u := .ref b) I (by rw [G.K]; exact rk.krep hk) rfl, hd8⟩
    refine wpAny_notIn_heap (knd := nestedKind X.prog X.w) (show A.units + 1 + 8 < cLine by omega) hkey nv.nosys (by rw [G.P, G.w]; exact nv.dict) (h _ (I.tok _))
theorem dct_get (hu : A.units + 70 < cLine) (G : Gof g X) (I : Inv X pins σ H s) {x z : D} {kvs : List (NestedKey × D)} {k : NestedKey} {y d : V} {u r : Value} {Q : Value → Shared → Prop} (v : DV g Z H x kvs k y d) (ry : RelV y u) (rd : RelV d r)
    (hz : dget kvs k = some z) (h : ∀ s' v' u', Inv X pins σ H s' → Rep g Z H z v' [] → RelV v' u' → Q u' s') : wpAny (model X.prog X.w) A (getItem r u) Q E s := by
  rcases (keyIn_ok v.ok).2 with ⟨hl, hx, ha⟩ | ⟨ht, hd8, ha⟩
  · obtain ⟨a, kv, q, o, fp, rfl, ha', e1, rfl, ek, rv, _⟩ := dv_leaf I v hl hx ha
    cases rd
    have hq := dget_K ek rv q
    rw [← e1, hz] at hq
    obtain ⟨v', e3, r3⟩ := hq
    refine d_getItem (by omega) I (y := kV q) (v := v') (by rw [← e3]; exact DGet.k (k := q) ha') ry fun u' s' I' r' => ?_
    exact h s' v' u' I' r3 r'
  · obtain ⟨fq, rk⟩ := v.key
    obtain ⟨o, fp, rdd⟩ := v.dict
    have hk := (keyIn_ok v.ok).1
    obtain ⟨b, rfl⟩ := tup_rep rk hk ht
    obtain ⟨a, xs, ys, rfl, nv, _⟩ := nv_of G I rdd ha
    cases rd
    cases ry
    have hl := nv.look k
    rw [hz] at hl
    obtain ⟨v', p, e3, r3, r4⟩ := hl
    have hkey : (nestedKind X.prog X.w).is s.heap k b := ⟨KRep.is (v := .ref b) (u := .ref b) I (by rw [G.K]; exact rk.krep hk) rfl, hd8⟩
    refine wpAny_getItem_heap (knd := nestedKind X.prog X.w) (show A.units + 1 + 8 < cLine by omega) hkey (by rw [G.P, G.w]; exact nv.dict) e3 (h _ v' p.2 (I.tok _) r4 r3)
end
end DI
namespace DI
open PySem PySem.Spec PyProof.Rows L2
section
variable {X : Cx} {g : Gv} {W : L2.WX}
def blR (r : R Bool) : R D := r.bind fun b => .ok (.bl b)
theorem Out.bl {Z : Addr → Prop} {σ : L2.St} {H : Hp} {r : R Bool} {Q : VK} {bo : Bool} (hz : ∀ a, Z a → H a ≠ none) (hn : ∀ c fs, r ≠ .err c fs) (o : Out g W Z σ H (blR r) (fun d => ∀ v H' Z' fp, PostE g bo Z Z' H H' d v fp → Q v H')) : ∃ b, r = .ok b ∧ Q (.bl b) H := by
  cases r with
  | ok b => exact ⟨b, rfl, o _ H Z [] (post_sc hz (.bl b))⟩
  | err c fs => exact absurd rfl (hn c fs)
  | bad => exact o.elim
theorem eqD_err {x y : D} : ∀ c fs, eqD x y ≠ .err c fs := fun c fs h => by
  unfold eqD at h
  split at h
  · split at h <;> cases h
  · cases h
theorem eqD_ok {x y : D} {b : Bool} (h : eqD x y = .ok b) : ∃ d e, py x = some d ∧ py y = some e ∧ SeqAt.shaped d = true ∧ SeqAt.shaped e = true ∧ PyData.eqv d e = b := by
  unfold eqD at h
  split at h
  · rename_i d e h1 h2
    split at h
    · rename_i hc
      rw [Bool.and_eq_true] at hc
      cases h
      exact ⟨d, e, h1, h2, hc.1, hc.2, rfl⟩
    · cases h
  · cases h
theorem memS_err {x : D} {ys : List D} : ∀ c fs, memS x ys ≠ .err c fs := fun c fs h => by
  unfold memS at h
  split at h
  · split at h <;> cases h
  · cases h
theorem memS_ok {x : D} {ys : List D} {b : Bool} (h : memS x ys = .ok b) : ∃ d ds, py x = some d ∧ pyL ys = some ds ∧ SeqAt.shaped d = true ∧ SeqAt.shaped (.list ds) = true ∧ (ds.any fun z => PyData.eqv z d) = b := by
  unfold memS at h
  split at h
  · rename_i d ds h1 h2
    split at h
    · rename_i hc
      rw [Bool.and_eq_true] at hc
      cases h
      exact ⟨d, ds, h1, h2, hc.1, hc.2, rfl⟩
    · cases h
  · cases h
theorem opd_eq (G : Gof g X) : OpD g W true (rEqD X.K) (fun x y => blR (cmpD .eq x y)) := by
  intro Z σ H x y v u fx fy Q hz rx ry o
  obtain ⟨b, h, q⟩ := Out.bl hz (fun c fs => eqD_err c fs) o
  obtain ⟨d, e, h1, h2, s1, s2, rfl⟩ := eqD_ok h
  rw [G.K]
  exact ⟨d, e, rx.dp h1, ry.dp h2, s1, s2, q⟩
theorem neD_err {r : R Bool} (hn : ∀ c fs, r ≠ .err c fs) : ∀ c fs, (r.bind fun b => .ok (!b)) ≠ (R.err c fs : R Bool) := fun c fs h => by
  cases r with
  | ok b => cases h
  | err c fs => exact hn c fs rfl
  | bad => cases h
theorem notR_ok {r : R Bool} {b : Bool} (h : (r.bind fun b => .ok (!b)) = (R.ok b : R Bool)) : r = .ok (!b) := by
  cases r with
  | ok c =>
    have h : (R.ok (!c) : R Bool) = .ok b := h
    injection h with h
    rw [← h, Bool.not_not]
  | err c fs => cases h
  | bad => cases h
theorem opd_ne (G : Gof g X) : OpD g W true (rNeD X.K) (fun x y => blR (cmpD .ne x y)) := by
  intro Z σ H x y v u fx fy Q hz rx ry o
  obtain ⟨b, h, q⟩ := Out.bl hz (neD_err fun c fs => eqD_err c fs) o
  obtain ⟨d, e, h1, h2, s1, s2, e3⟩ := eqD_ok (notR_ok h)
  rw [G.K]
  refine ⟨d, e, rx.dp h1, ry.dp h2, s1, s2, ?_⟩
  rw [e3, Bool.not_not]
  exact q
theorem opd_ord {op : Cop} {p : Int → Int → Bool} (hp : ∀ i j, cmpD op (.int i) (.int j) = .ok (p i j)) (hb : ∀ x y, (∀ i j, x = D.int i → y = D.int j → False) → cmpD op x y = .bad) : OpD g W true (rI0 fun i j => .bl (p i j)) (fun x y => blR (cmpD op x y)) := by
  intro Z σ H x y v u fx fy Q hz rx ry o
  have bad : (∀ i j, x = D.int i → y = D.int j → False) → (rI0 fun i j => .bl (p i j)) v u H Q := fun h => by
    have o : Out g W Z σ H (blR (cmpD op x y)) _ := o
    rw [hb x y h] at o
    exact o.elim
  cases x with
  | int i =>
    cases y with
    | int j =>
      obtain ⟨rfl, _⟩ := rep_int rx
      obtain ⟨rfl, _⟩ := rep_int ry
      have o : Out g W Z σ H (blR (cmpD op (.int i) (.int j))) _ := o
      rw [hp] at o
      exact ⟨i, j, rfl, rfl, o _ H Z [] (post_sc hz (.bl _))⟩
    | _ => exact bad fun _ _ _ e => by cases e
  | _ => exact bad fun _ _ e => by cases e
theorem opd_lt : OpD g W true (rI0 fun i j => .bl (decide (i < j))) (fun x y => blR (cmpD .lt x y)) := opd_ord (fun _ _ => rfl) fun x y h => by
  cases x <;> cases y <;> first | rfl | exact (h _ _ rfl rfl).elim
theorem opd_le : OpD g W true (rI0 fun i j => .bl (decide (i ≤ j))) (fun x y => blR (cmpD .le x y)) := opd_ord (fun _ _ => rfl) fun x y h => by
  cases x <;> cases y <;> first | rfl | exact (h _ _ rfl rfl).elim
theorem opd_gt : OpD g W true (rI0 fun i j => .bl (decide (j < i))) (fun x y => blR (cmpD .gt x y)) := opd_ord (p := fun i j => decide (j < i)) (fun _ _ => rfl) fun x y h => by
  cases x <;> cases y <;> first | rfl | exact (h _ _ rfl rfl).elim
theorem opd_ge : OpD g W true (rI0 fun i j => .bl (decide (j ≤ i))) (fun x y => blR (cmpD .ge x y)) := opd_ord (p := fun i j => decide (j ≤ i)) (fun _ _ => rfl) fun x y h => by
  cases x <;> cases y <;> first | rfl | exact (h _ _ rfl rfl).elim
theorem non_iff {Z : Addr → Prop} {H : Hp} {x : D} {v : V} {f : List Addr} (r : Rep g Z H x v f) : decide (v = .non) = isNon x := by
  cases r <;> first | rfl | exact decide_eq_false (fun e => nomatch e)
theorem opd_isN : OpD g W true (fun x y H Q => y = .non ∧ Q (.bl (decide (x = .non))) H) (fun x y => blR (cmpD .isN x y)) := by
  intro Z σ H x y v u fx fy Q hz rx ry o
  cases y with
  | non =>
    obtain ⟨rfl, _⟩ := rep_non ry
    refine ⟨rfl, ?_⟩
    rw [non_iff rx]
    exact o _ H Z [] (post_sc hz (.bl _))
  | _ => exact o.elim
theorem opd_notN : OpD g W true (fun x y H Q => y = .non ∧ Q (.bl (!decide (x = .non))) H) (fun x y => blR (cmpD .notN x y)) := by
  intro Z σ H x y v u fx fy Q hz rx ry o
  cases y with
  | non =>
    obtain ⟨rfl, _⟩ := rep_non ry
    refine ⟨rfl, ?_⟩
    rw [non_iff rx]
    exact o _ H Z [] (post_sc hz (.bl _))
  | _ => exact o.elim
def rInDct (g : Gv) (neg : Bool) : R2 := fun x y H Q => ∃ Z dx kvs k, DV g Z H dx kvs k x y ∧ Q (.bl (if neg = true then !(dget kvs k).isSome else (dget kvs k).isSome)) H
theorem op_inDct (hu : X.A.units + 70 < cLine) (G : Gof g X) : OpR X (compareOp .In) (rInDct g false) := by
  intro pins s σ H x y v u Q I rx ry h
  obtain ⟨Z, dx, kvs, k, dv, q⟩ := h
  exact dct_in hu G I dv rx ry fun s' I' => ⟨.bl _, H, I', rfl, q⟩
theorem op_notInDct (hu : X.A.units + 70 < cLine) (G : Gof g X) : OpR X (compareOp .NotIn) (rInDct g true) := by
  intro pins s σ H x y v u Q I rx ry h
  obtain ⟨Z, dx, kvs, k, dv, q⟩ := h
  exact dct_notIn hu G I dv rx ry fun s' I' => ⟨.bl _, H, I', rfl, q⟩
def rMem (X : Cx) (g : Gv) : R2 := fun x y H Q => rInD X.K x y H Q ∨ (rInT X.K false x y H Q ∨ (rInDct g false x y H Q ∨ ∃ i j, x = .str i ∧ y = .str j ∧ Q (.bl (!(Builtin.Str.occurrences j i 0 j.length 1).isEmpty)) H))
def rNMem (X : Cx) (g : Gv) : R2 := fun x y H Q => rNotInD X.K x y H Q ∨ (rInT X.K true x y H Q ∨ (rInDct g true x y H Q ∨ ∃ i j, x = .str i ∧ y = .str j ∧ Q (.bl (!(!(Builtin.Str.occurrences j i 0 j.length 1).isEmpty))) H))
theorem opr_mem (hu : X.A.units + 70 < cLine) (G : Gof g X) : OpR X (compareOp .In) (rMem X g) := (op_inD (by omega)).or ((op_inT (by omega)).or ((op_inDct hu G).or op_in_str))
theorem opr_nmem (hu : X.A.units + 70 < cLine) (G : Gof g X) : OpR X (compareOp .NotIn) (rNMem X g) := (op_notInD (by omega)).or ((op_notInT (by omega)).or ((op_notInDct hu G).or op_notin_str))
theorem memD_err {x y : D} : ∀ c fs, memD x y ≠ .err c fs := fun c fs h => by
  unfold memD at h
  split at h
  · exact memS_err c fs h
  · exact memS_err c fs h
  · rename_i kvs
    cases e : keyIn x kvs with
    | ok k => rw [e] at h; cases h
    | err c fs => exact keyIn_err c fs e
    | bad => rw [e] at h; cases h
  · split at h <;> cases h
  · cases h
theorem opd_mem (G : Gof g X) : OpD g W true (rMem X g) (fun x y => blR (cmpD .mem x y)) := by
  intro Z σ H x y v u fx fy Q hz rx ry o
  obtain ⟨b, h, q⟩ := Out.bl hz (fun c fs => memD_err c fs) o
  have h : memD x y = .ok b := h
  cases y with
  | lst o' ys =>
    obtain ⟨d, ds, h1, h2, s1, s2, rfl⟩ := memS_ok (show memS x ys = .ok b from h)
    refine .inl ⟨d, ds, by rw [G.K]; exact rx.dp h1, by rw [G.K]; exact ry.dp (by simp [py, h2]), s1, s2, q⟩
  | tup ys =>
    obtain ⟨d, ds, h1, h2, s1, s2, rfl⟩ := memS_ok (show memS x ys = .ok b from h)
    refine .inr (.inl ⟨d, ds, by rw [G.K]; exact rx.dp h1, by rw [G.K]; exact ry.dp (by simp [py, h2]), s1, s2, q⟩)
  | dct o' kvs =>
    have h : ((keyIn x kvs).bind fun k => R.ok (dget kvs k).isSome) = .ok b := h
    cases e : keyIn x kvs with
    | ok k =>
      rw [e] at h
      cases h
      exact .inr (.inr (.inl ⟨Z, x, kvs, k, ⟨⟨_, rx⟩, ⟨_, _, ry⟩, e⟩, q⟩))
    | err c fs => exact absurd e (keyIn_err c fs)
    | bad => rw [e] at h; cases h
  | str z =>
    cases x with
    | str i =>
      obtain ⟨rfl, _⟩ := rep_str rx
      obtain ⟨rfl, _⟩ := rep_str ry
      cases h
      exact .inr (.inr (.inr ⟨i, z, rfl, rfl, q⟩))
    | _ => cases h
  | _ => cases h
theorem opd_nmem (G : Gof g X) : OpD g W true (rNMem X g) (fun x y => blR (cmpD .nmem x y)) := by
  intro Z σ H x y v u fx fy Q hz rx ry o
  obtain ⟨b, h, q⟩ := Out.bl hz (neD_err fun c fs => memD_err c fs) o
  have h : memD x y = .ok (!b) := notR_ok h
  obtain ⟨b', rfl⟩ : ∃ b', b = !b' := ⟨!b, (Bool.not_not b).symm⟩
  rw [Bool.not_not] at h
  cases y with
  | lst o' ys =>
    obtain ⟨d, ds, h1, h2, s1, s2, rfl⟩ := memS_ok (show memS x ys = .ok b' from h)
    refine .inl ⟨d, ds, by rw [G.K]; exact rx.dp h1, by rw [G.K]; exact ry.dp (by simp [py, h2]), s1, s2, q⟩
  | tup ys =>
    obtain ⟨d, ds, h1, h2, s1, s2, rfl⟩ := memS_ok (show memS x ys = .ok b' from h)
    refine .inr (.inl ⟨d, ds, by rw [G.K]; exact rx.dp h1, by rw [G.K]; exact ry.dp (by simp [py, h2]), s1, s2, q⟩)
  | dct o' kvs =>
    have h : ((keyIn x kvs).bind fun k => R.ok (dget kvs k).isSome) = .ok b' := h
    cases e : keyIn x kvs with
    | ok k =>
      rw [e] at h
      cases h
      exact .inr (.inr (.inl ⟨Z, x, kvs, k, ⟨⟨_, rx⟩, ⟨_, _, ry⟩, e⟩, q⟩))
    | err c fs => exact absurd e (keyIn_err c fs)
    | bad => rw [e] at h; cases h
  | str z =>
    cases x with
    | str i =>
      obtain ⟨rfl, _⟩ := rep_str rx
      obtain ⟨rfl, _⟩ := rep_str ry
      cases h
      exact .inr (.inr (.inr ⟨i, z, rfl, rfl, q⟩))
    | _ => cases h
  | _ => cases h
def rIxDct (g : Gv) : R2 := fun x y H Q => ∃ Z dx kvs k z, DV g Z H dx kvs k y x ∧ dget kvs k = some z ∧ ∀ v', Rep g Z H z v' [] → Q v' H
theorem dct_typeIs {Z : Addr → Prop} {H : Hp} {pins : List (Addr × Obj)} {σ : L2.St} {s : Shared} (I : Inv X pins σ H s) {o : Bool} {kvs : List (NestedKey × D)} {v : V} {u : Value} {fp : List Addr} (r : Rep g Z H (.dct o kvs) v fp) (ru : RelV v u) :
    s.TypeIs u "dict" ∧ ∀ b, u = .ref b → ∃ ob, s.heap.get? b = some ob ∧ ob.dict = none := by
  cases r with
  | dK h e hs w =>
    cases ru
    obtain ⟨_, _, vs, _, dd⟩ := dk_rd I.hok (.inl h)
    refine ⟨dd.typeIs, fun b q => ?_⟩
    cases q
    obtain ⟨ob, _, _, h1, h2, _⟩ := dd
    exact ⟨ob, h1, h2.2.1⟩
  | dN h e ne hk hs w =>
    cases ru
    obtain ⟨⟨_, _, _, ys, _, es, ep, h1, h2, _⟩, _⟩ := I.hok _ _ h
    refine ⟨⟨_, h1, h2.1⟩, fun b q => ?_⟩
    cases q
    exact ⟨_, h1, h2.2.1⟩
theorem ix_dct (hu : X.A.units + 70 < cLine) (G : Gof g X) : IxR X (rIxDct g) := by
  intro value slice pins s σ H x y v u Q I rx ry h hs
  obtain ⟨Z, dx, kvs, k, z, dv, hz, q⟩ := h
  obtain ⟨o, fp, rd⟩ := dv.dict
  have ht := (dct_typeIs I rd rx).1
  unfold subscriptTail
  refine wpAny_bind ?_
  rw [getitemInPython_of_ne ht.not_modules]
  refine wpAny_bind (wpAny_specialOf ht PySem.F.slot_dict_getitem.lookup ?_)
  have fin : wpAny (model X.prog X.w) X.A (subscripted slice false v u) (fun r s₃ => wpAny (model X.prog X.w) X.A (letTemporaryGo value v r >>= fun _ => pure r) (EP X pins σ Q) X.xe s₃) X.xe s := by
    rw [hs]
    refine wpAny_operating (dct_get hu G I dv ry rx hz fun s' v' u' I' r' ru => wpAny_bind (wpAny_letTemporaryGo (wpAny_pure ⟨v', H, I', ru, q v' r'⟩)))
  first
    | exact wpAny_pure (wpAny_bind fin)
    | exact wpAny_bind (wpAny_pure (wpAny_bind fin))
    | exact wpAny_bind fin
def rIdx (X : Cx) (g : Gv) : R2 := fun x y H Q => rIx X.K x y H Q ∨ rIxDct g x y H Q
theorem ixr_all (hu : X.A.units + 70 < cLine) (G : Gof g X) : IxR X (rIdx X g) := ix_seq.or (ix_dct hu G)
theorem atI_map {α β : Type} {f : α → β} {xs : List α} {i : Int} : L2.atI (xs.map f) i = (L2.atI xs i).map f := by
  unfold L2.atI
  rw [List.length_map]
  cases ixN xs.length i with
  | none => rfl
  | some j => simp
theorem reps_at {Z : Addr → Prop} {H : Hp} {xs : List D} {vs : List V} {fp : List Addr} (r : Reps g Z H xs vs fp) {i : Int} {x : D} (h : L2.atI xs i = some x) : ∃ v f, L2.atI vs i = some v ∧ Rep g Z H x v f ∧ (∀ a ∈ f, a ∈ fp) ∧ (fp.Nodup → f.Nodup) := by
  unfold L2.atI at h ⊢
  rw [← r.length]
  obtain ⟨j, e1, e2⟩ := Option.bind_eq_some_iff.mp h
  obtain ⟨v, f, e3, r3, s3, n3⟩ := r.get j x e2
  exact ⟨v, f, by rw [e1]; exact e3, r3, s3, n3⟩
theorem ofR_out {α : Type} {Z : Addr → Prop} {σ : L2.St} {H : Hp} {o : Option α} {P : α → Prop} (h : Out g W Z σ H (ofR o) P) : ∃ a, o = some a ∧ P a := by
  cases o with
  | some a => exact ⟨a, rfl, h⟩
  | none => exact h.elim
theorem opd_idx (G : Gof g X) : OpD g W false (rIdx X g) idxD := by
  intro Z σ H x y v u fx fy Q hz rx ry o
  cases x with
  | lst o' xs =>
    cases y with
    | int i =>
      obtain ⟨z, e, q⟩ := ofR_out (show Out g W Z σ H (ofR (L2.atI xs i)) _ from o)
      obtain ⟨a, vs, fs, rfl, hq, rs, sub⟩ := rep_lst' rx
      obtain ⟨rfl, _⟩ := rep_int ry
      obtain ⟨w, f, e2, r2, _⟩ := reps_at rs e
      exact .inl (.inl ⟨a, vs, i, w, rfl, rfl, by rw [G.K]; exact hq, e2, q w H Z f ⟨same_refl H, .refl hz, r2, fun e => by cases e⟩⟩)
    | _ => exact o.elim
  | tup xs =>
    cases y with
    | int i =>
      obtain ⟨z, e, q⟩ := ofR_out (show Out g W Z σ H (ofR (L2.atI xs i)) _ from o)
      obtain ⟨a, vs, rfl, hq, rs⟩ := rep_tup rx
      obtain ⟨rfl, _⟩ := rep_int ry
      obtain ⟨w, f, e2, r2, _⟩ := reps_at rs e
      exact .inl (.inr (.inl ⟨a, vs, i, w, rfl, rfl, by rw [G.K]; exact hq, e2, q w H Z f ⟨same_refl H, .refl hz, r2, fun e => by cases e⟩⟩))
    | _ => exact o.elim
  | str z =>
    cases y with
    | int i =>
      obtain ⟨hl, o⟩ := Out.guard (show Out g W Z σ H (if z.length ≤ sizeLine then ofR ((L2.atI z.cps.toList i).map oneOf) else .bad) _ from o)
      obtain ⟨d, e, q⟩ := ofR_out o
      obtain ⟨c, e1, rfl⟩ := Option.map_eq_some_iff.mp e
      obtain ⟨rfl, _⟩ := rep_str rx
      obtain ⟨rfl, _⟩ := rep_int ry
      exact .inl (.inr (.inr ⟨z, i, c, rfl, rfl, hl, e1, q _ H Z [] (post_sc hz (.str _))⟩))
    | _ => exact o.elim
  | dct o' kvs =>
    have o : Out g W Z σ H ((keyIn y kvs).bind fun k => ofR (dget kvs k)) _ := o
    cases e : keyIn y kvs with
    | ok k =>
      rw [e] at o
      obtain ⟨z, e2, q⟩ := ofR_out (show Out g W Z σ H (ofR (dget kvs k)) _ from o)
      exact .inr ⟨Z, y, kvs, k, z, ⟨⟨_, ry⟩, ⟨_, _, rx⟩, e⟩, e2, fun v' r' => q v' H Z [] (post_sc hz r')⟩
    | err c fs => exact absurd e (keyIn_err c fs)
    | bad => rw [e] at o; exact o.elim
  | _ => exact o.elim
end
end DI
namespace DI
open PySem PySem.Spec PyProof.Rows L2
section
variable {X : Cx} {g : Gv} {W : L2.WX} {a b c : Expr} {fa fb fc : Sl → R D} {ba bb bc : Bool} {pos : Pos}
theorem tIT_tB {f : Sl → R D} {bo : Bool} {σ : L2.St} {H : Hp} {Q : Bool → Hp → Prop} (q : tIT g W f σ H Q) : tB (tI g W bo f) σ H Q := by
  obtain ⟨H0, Z, fps, σl, sr, o⟩ := q
  refine ⟨H0, Z, fps, σl, sr, o.imp fun d ⟨k, e, q⟩ v H' Z' fp p => ?_⟩
  subst e
  have rp := p.rep
  cases rp
  exact ⟨k, rfl, q H' Z' p.same p.zx⟩
theorem se_var {i : Nat} {x : Str} (hN : X.N[i]? = some x) (hv : Vis X.env.scope x) (hd : (x == ("__debug__" : Str)) = false) (hcd : (x == ("__classdict__" : Str)) = false) : PE X (.Name x pos) (tI g W false fun σ => getS σ i) := (pe_var hN hv hd hcd).imp fun σ H Q q => by
  obtain ⟨H0, Z, fps, σl, sr, o⟩ := q
  have o : Out g W Z σ H (getS σl i) _ := o
  unfold getS at o
  cases e : σl[i]? with
  | none => rw [e] at o; exact o.elim
  | some w =>
    cases w with
    | none => rw [e] at o; exact o.elim
    | some d =>
      rw [e] at o
      obtain ⟨v, fp, e1, e2, r⟩ := sr.slot i d e
      exact ⟨v, e1, o v H Z fp ⟨same_refl H, .refl sr.z, r, fun e => by cases e⟩⟩
theorem se_con {e : Expr} {v : V} {d : D} {bo : Bool} (h : PE X e (tC v)) (hr : ∀ (Z : Addr → Prop) (H : Hp), Rep g Z H d v []) : PE X e (tI g W bo fun _ => .ok d) := h.imp fun σ H Q q => by
  obtain ⟨H0, Z, fps, σl, sr, o⟩ := q
  exact o v H Z [] (post_sc sr.z (hr Z H))
theorem se_neg (ha : PE X a (tI g W ba fa)) {bo : Bool} : PE X (.UnaryOp .USub a pos) (tI g W bo fun σ => (fa σ).bind fun x => (intOf x).bind fun i => .ok (.int (-i))) := (pe_un un_neg ha).imp fun σ H Q q => by
  obtain ⟨H0, Z, fps, σl, sr, o⟩ := q
  refine ⟨H0, Z, fps, σl, sr, o.bind.imp fun x h v1 H1 Z1 fp1 p1 => ?_⟩
  cases x with
  | int i =>
    obtain ⟨rfl, _⟩ := rep_int p1.rep
    exact ⟨i, rfl, h _ H1 Z1 [] ((post_sc p1.zx.inn (.int _)).pre p1.same p1.zx)⟩
  | _ => exact h.elim
theorem se_not (ha : PE X a (tI g W ba fa)) {bo : Bool} : PE X (.UnaryOp .Not a pos) (tI g W bo fun σ => (fa σ).bind fun x => (boolOf x).bind fun i => .ok (.bl (!i))) := (pe_not ha).imp fun σ H Q q => by
  obtain ⟨H0, Z, fps, σl, sr, o⟩ := q
  refine ⟨H0, Z, fps, σl, sr, o.bind.imp fun x h v1 H1 Z1 fp1 p1 => ?_⟩
  cases x with
  | bl i =>
    obtain ⟨rfl, _⟩ := rep_bl p1.rep
    exact ⟨i, rfl, h _ H1 Z1 [] ((post_sc p1.zx.inn (.bl _)).pre p1.same p1.zx)⟩
  | _ => exact h.elim
theorem st_not (ha : PT X a (tIT g W fa)) : PT X (.UnaryOp .Not a pos) (tIT g W fun σ => (fa σ).bind fun x => (boolOf x).bind fun i => .ok (.bl (!i))) := (pt_not ha).imp fun σ H Q q => by
  obtain ⟨H0, Z, fps, σl, sr, o⟩ := q
  refine ⟨H0, Z, fps, σl, sr, o.bind.imp fun x h => ?_⟩
  cases x with
  | bl i =>
    obtain ⟨k, e, q⟩ := h
    cases e
    exact ⟨i, rfl, fun H' Z' s z => q H' Z' s z⟩
  | _ => exact h.elim
theorem se_and {rest : List Expr} (ha : PE X a (tI g W ba fa)) (hb : PE X (.BoolOp .And (b :: rest) pos) (tI g W bb fb)) : PE X (.BoolOp .And (a :: b :: rest) pos) (tI g W false fun σ => (fa σ).bind fun x => (boolOf x).bind fun r => if r = true then (fb σ).bind fun y => (boolOf y).bind fun r => .ok (.bl r) else .ok (.bl false)) := (pe_and ha hb).imp fun σ H Q q => by
  obtain ⟨H0, Z, fps, σl, sr, o⟩ := q
  refine ⟨H0, Z, fps, σl, sr, o.bind.imp fun x h v1 H1 Z1 fp1 p1 => ?_⟩
  cases x with
  | bl i =>
    obtain ⟨rfl, _⟩ := rep_bl p1.rep
    refine ⟨i, rfl, ?_⟩
    cases i with
    | true =>
      have h : Out g W Z σ H ((fb σl).bind fun y => (boolOf y).bind fun r => R.ok (D.bl r)) _ := h
      refine ⟨H0, Z1, fps, σl, sr.step p1.same p1.zx, h.bind.step p1.same p1.zx fun y h2 v2 H2 Z2 fp2 p2 => ?_⟩
      cases y with
      | bl j => exact h2 v2 H2 Z2 fp2 ((p2.borrow).pre p1.same p1.zx)
      | _ => exact h2.elim
    | false => exact h _ H1 Z1 [] ((post_sc p1.zx.inn (.bl _)).pre p1.same p1.zx)
  | _ => exact h.elim
theorem se_or {rest : List Expr} (ha : PE X a (tI g W ba fa)) (hb : PE X (.BoolOp .Or (b :: rest) pos) (tI g W bb fb)) : PE X (.BoolOp .Or (a :: b :: rest) pos) (tI g W false fun σ => (fa σ).bind fun x => (boolOf x).bind fun r => if r = true then .ok (.bl true) else (fb σ).bind fun y => (boolOf y).bind fun r => .ok (.bl r)) := (pe_or ha hb).imp fun σ H Q q => by
  obtain ⟨H0, Z, fps, σl, sr, o⟩ := q
  refine ⟨H0, Z, fps, σl, sr, o.bind.imp fun x h v1 H1 Z1 fp1 p1 => ?_⟩
  cases x with
  | bl i =>
    obtain ⟨rfl, _⟩ := rep_bl p1.rep
    refine ⟨i, rfl, ?_⟩
    cases i with
    | false =>
      have h : Out g W Z σ H ((fb σl).bind fun y => (boolOf y).bind fun r => R.ok (D.bl r)) _ := h
      refine ⟨H0, Z1, fps, σl, sr.step p1.same p1.zx, h.bind.step p1.same p1.zx fun y h2 v2 H2 Z2 fp2 p2 => ?_⟩
      cases y with
      | bl j => exact h2 v2 H2 Z2 fp2 ((p2.borrow).pre p1.same p1.zx)
      | _ => exact h2.elim
    | true => exact h _ H1 Z1 [] ((post_sc p1.zx.inn (.bl _)).pre p1.same p1.zx)
  | _ => exact h.elim
theorem sw_and {rest : List Expr} (ha : PT X a (tIT g W fa)) (hb : PW X (.BoolOp .And (b :: rest) pos) (tIT g W fb)) : PW X (.BoolOp .And (a :: b :: rest) pos) (tIT g W fun σ => (fa σ).bind fun x => (boolOf x).bind fun r => if r = true then (fb σ).bind fun y => (boolOf y).bind fun r => .ok (.bl r) else .ok (.bl false)) := (pw_and ha hb).imp fun σ H Q q => by
  obtain ⟨H0, Z, fps, σl, sr, o⟩ := q
  refine ⟨H0, Z, fps, σl, sr, o.bind.imp fun x h => ?_⟩
  cases x with
  | bl i =>
    refine ⟨i, rfl, fun H1 Z1 s1 z1 => ?_⟩
    cases i with
    | true =>
      have h : Out g W Z σ H ((fb σl).bind fun y => (boolOf y).bind fun r => R.ok (D.bl r)) _ := h
      refine ⟨H0, Z1, fps, σl, sr.step s1 z1, h.bind.step s1 z1 fun y h2 => ?_⟩
      cases y with
      | bl j =>
        obtain ⟨k, e, q⟩ := h2
        cases e
        exact ⟨j, rfl, fun H' Z' s z => q H' Z' (same_trans s1 s) (z1.trans s1 z)⟩
      | _ => exact h2.elim
    | false =>
      obtain ⟨k, e, q⟩ := h
      cases e
      exact q H1 Z1 s1 z1
  | _ => exact h.elim
theorem sw_or {rest : List Expr} (ha : PT X a (tIT g W fa)) (hb : PW X (.BoolOp .Or (b :: rest) pos) (tIT g W fb)) : PW X (.BoolOp .Or (a :: b :: rest) pos) (tIT g W fun σ => (fa σ).bind fun x => (boolOf x).bind fun r => if r = true then .ok (.bl true) else (fb σ).bind fun y => (boolOf y).bind fun r => .ok (.bl r)) := (pw_or ha hb).imp fun σ H Q q => by
  obtain ⟨H0, Z, fps, σl, sr, o⟩ := q
  refine ⟨H0, Z, fps, σl, sr, o.bind.imp fun x h => ?_⟩
  cases x with
  | bl i =>
    refine ⟨i, rfl, fun H1 Z1 s1 z1 => ?_⟩
    cases i with
    | false =>
      have h : Out g W Z σ H ((fb σl).bind fun y => (boolOf y).bind fun r => R.ok (D.bl r)) _ := h
      refine ⟨H0, Z1, fps, σl, sr.step s1 z1, h.bind.step s1 z1 fun y h2 => ?_⟩
      cases y with
      | bl j =>
        obtain ⟨k, e, q⟩ := h2
        cases e
        exact ⟨j, rfl, fun H' Z' s z => q H' Z' (same_trans s1 s) (z1.trans s1 z)⟩
      | _ => exact h2.elim
    | true =>
      obtain ⟨k, e, q⟩ := h
      cases e
      exact q H1 Z1 s1 z1
  | _ => exact h.elim
theorem sa_nil {bo : Bool} : PA X [] (tIA g W bo fun _ => .ok (.tup [])) := pa_nil.imp fun σ H Q q => by
  obtain ⟨H0, Z, fps, σl, sr, o⟩ := q
  obtain ⟨ds, e, q⟩ := o
  cases e
  exact q [] H Z [] ⟨same_refl H, .refl sr.z, .nil, fun _ => ⟨List.nodup_nil, fun _ h => nomatch h⟩⟩
theorem starE {e : Expr} {es : List Expr} {env : Env} (h : (match e with | .Starred _ _ => false | _ => true) = true) : starEach (e :: es) env = (false, eval e env) :: starEach es env := by
  cases e <;> first | rfl | cases h
theorem sa_cons {es : List Expr} (ha : PE X a (tI g W ba fa)) (hb : PA X es (tIA g W bb fb)) (hs : starEach (a :: es) X.env = (false, eval a X.env) :: starEach es X.env) : PA X (a :: es) (tIA g W false fun σ => (fa σ).bind fun x => (fb σ).bind fun r => (tupOf r).bind fun xs => .ok (.tup (x :: xs))) := (pa_cons ha hb hs).imp fun σ H Q q => by
  obtain ⟨H0, Z, fps, σl, sr, o⟩ := q
  refine ⟨H0, Z, fps, σl, sr, o.bind.imp fun x h v1 H1 Z1 fp1 p1 => ?_⟩
  refine ⟨H0, Z1, fps, σl, sr.step p1.same p1.zx, h.bind.step p1.same p1.zx fun y h2 => ?_⟩
  cases y with
  | tup ds =>
    obtain ⟨ds', e, q⟩ := h2
    cases e
    exact ⟨ds, rfl, fun vs H2 Z2 fp2 p2 => q (v1 :: vs) H2 Z2 (fp1 ++ fp2) ⟨same_trans p1.same p2.same, p1.zx.trans p1.same p2.zx, .cons (p1.rep.same p2.zx.le p2.same) p2.rep, fun e => by cases e⟩⟩
  | _ => exact h2.elim
theorem sa_ocons {es : List Expr} {r : Bool} (hr : r = false → ba = true) (ha : PE X a (tI g W ba fa)) (hb : PA X es (tIA g W true fb)) (hs : starEach (a :: es) X.env = (false, eval a X.env) :: starEach es X.env) :
    PA X (a :: es) (tIA g W true fun σ => (fa σ).bind fun x => (ownIf r x).bind fun x => (fb σ).bind fun r => (tupOf r).bind fun xs => .ok (.tup (x :: xs))) := (pa_cons ha hb hs).imp fun σ H Q q => by
  obtain ⟨H0, Z, fps, σl, sr, o⟩ := q
  refine ⟨H0, Z, fps, σl, sr, o.bind.imp fun x h v1 H1 Z1 fp1 p1 => ?_⟩
  obtain ⟨hc, h⟩ := Out.guard (show Out g W Z σ H (if (!r || clean x) = true then R.ok x else .bad) _ from h.bind)
  have own1 : fp1.Nodup ∧ ∀ a ∈ fp1, H a = none ∧ ¬ Z1 a := by
    cases r with
    | false => exact p1.own (hr rfl)
    | true =>
      have e := Rep.clean p1.rep (by simpa using hc)
      subst e
      exact ⟨List.nodup_nil, fun _ h => nomatch h⟩
  have h : Out g W Z σ H ((fb σl).bind fun r => (tupOf r).bind fun xs => R.ok (D.tup (x :: xs))) _ := h
  refine ⟨H0, Z1, fps, σl, sr.step p1.same p1.zx, h.bind.step p1.same p1.zx fun y h2 => ?_⟩
  cases y with
  | tup ds =>
    obtain ⟨ds', e, q⟩ := h2
    cases e
    refine ⟨ds, rfl, fun vs H2 Z2 fp2 p2 => q (v1 :: vs) H2 Z2 (fp1 ++ fp2) ⟨same_trans p1.same p2.same, p1.zx.trans p1.same p2.zx, .cons (p1.rep.same p2.zx.le p2.same) p2.rep, fun _ => ?_⟩⟩
    obtain ⟨n2, o2⟩ := p2.own rfl
    refine ⟨List.nodup_append.mpr ⟨own1.1, n2, fun x hx y hy e => ?_⟩, fun a ha => ?_⟩
    · subst e
      exact Rep.there p1.rep x hx (o2 x hy).1
    · rcases List.mem_append.mp ha with ha | ha
      · refine ⟨(own1.2 a ha).1, fun z => ?_⟩
        rcases p2.zx.new a z with z | z
        · exact (own1.2 a ha).2 z
        · exact Rep.there p1.rep a ha z
      · exact ⟨same_none p1.same (o2 a ha).1, (o2 a ha).2⟩
  | _ => exact h2.elim
theorem se_tup {es : List Expr} {k : Nat} (h : PA X es (tIA g W true fa)) : PE X (.Tuple es k pos) (tI g W true fun σ => (fa σ).bind fun r => (tupOf r).bind fun xs => if xs.length ≤ sizeLine then .ok (.tup xs) else .bad) := (pe_tup h).imp fun σ H Q q => by
  obtain ⟨H0, Z, fps, σl, sr, o⟩ := q
  refine ⟨H0, Z, fps, σl, sr, o.bind.imp fun x h => ?_⟩
  cases x with
  | tup ds =>
    refine ⟨ds, rfl, fun vs H1 Z1 fp1 p1 => ?_⟩
    obtain ⟨hl, h⟩ := Out.guard (show Out g W Z σ H (if ds.length ≤ sizeLine then R.ok (D.tup ds) else .bad) _ from h)
    refine ⟨by rw [← p1.rep.length]; exact hl, fun p hp => h _ _ Z1 fp1 ⟨same_trans p1.same (same_upd hp), p1.zx.trans p1.same (.stay p1.zx.inn (same_upd hp)), .tup (.of upd_same) (p1.rep.same (fun _ z => z) (same_upd hp)), fun _ => p1.own rfl⟩⟩
  | _ => exact h.elim
theorem se_lst {es : List Expr} (h : PA X es (tIA g W true fa)) : PE X (.List es pos) (tI g W true fun σ => (fa σ).bind fun r => (tupOf r).bind fun xs => if xs.length ≤ sizeLine then .ok (.lst true xs) else .bad) := (pe_lst h).imp fun σ H Q q => by
  obtain ⟨H0, Z, fps, σl, sr, o⟩ := q
  refine ⟨H0, Z, fps, σl, sr, o.bind.imp fun x h => ?_⟩
  cases x with
  | tup ds =>
    refine ⟨ds, rfl, fun vs H1 Z1 fp1 p1 => ?_⟩
    obtain ⟨hl, h⟩ := Out.guard (show Out g W Z σ H (if ds.length ≤ sizeLine then R.ok (D.lst true ds) else .bad) _ from h)
    refine ⟨by rw [← p1.rep.length]; exact hl, fun p hp => h _ _ Z1 (p :: fp1) ⟨same_trans p1.same (same_upd hp), p1.zx.trans p1.same (.stay p1.zx.inn (same_upd hp)), .lst upd_same (p1.rep.same (fun _ z => z) (same_upd hp)) (.inl ⟨rfl, rfl⟩), fun _ => ?_⟩⟩
    obtain ⟨n1, o1⟩ := p1.own rfl
    refine ⟨List.nodup_cons.mpr ⟨fun m => Reps.there p1.rep p m hp, n1⟩, fun a ha => ?_⟩
    rcases List.mem_cons.mp ha with rfl | ha
    · exact ⟨same_none p1.same hp, fun z => p1.zx.inn a z hp⟩
    · exact o1 a ha
  | _ => exact h.elim
def rSlAll (X : Cx) : V → Option Int → Option Int → Hp → VK → Prop := fun x lo hi H Q => rSlL X.K x lo hi H Q ∨ (rSlA X.K x lo hi H Q ∨ rSlS x lo hi H Q)
theorem slr_all : SlR X (rSlAll X) := sl_list.or (sl_tupA.or sl_str)
theorem cutV_nil {Z : Addr → Prop} {H : Hp} {xs : List D} {vs : List V} (r : Reps g Z H xs vs []) (lo hi : Option Int) : Reps g Z H (cutL xs lo hi) (cutV vs lo hi) [] := by
  unfold cutL cutV
  rw [r.length]
  exact (r.drop0 _).take0 _
theorem cutL_all {α : Type} (xs : List α) (lo hi : Option Int) (h : HT.sIx xs.length 0 lo = 0 ∧ HT.sIx xs.length xs.length hi = xs.length) : cutL xs lo hi = xs := by
  unfold cutL
  rw [h.1, h.2, List.drop_zero, Nat.sub_zero, List.take_length]
theorem slD_out {σ : L2.St} {Z : Addr → Prop} {H : Hp} {x : D} {v : V} {fx : List Addr} {lo hi : Option Int} {Q : VK} (G : Gof g X) (hz : ∀ a, Z a → H a ≠ none) (rx : Rep g Z H x v fx)
    (o : Out g W Z σ H (slD x lo hi) fun d => ∀ v H' Z' fp, PostE g true Z Z' H H' d v fp → Q v H') : rSlAll X v lo hi H Q := by
  cases x with
  | lst o' xs =>
    obtain ⟨hc, o⟩ := Out.guard (show Out g W Z σ H (if cleanL xs = true then R.ok (D.lst true (cutL xs lo hi)) else .bad) _ from o)
    obtain ⟨a, vs, fs, rfl, hq, rs, sub⟩ := rep_lst' rx
    refine .inl ⟨a, vs, rfl, by rw [G.K]; exact hq, fun p hp => o _ _ Z [p] (post_new hz hp (.lst upd_same ((cutV_nil (rs.to0 hc) lo hi).same (fun _ z => z) (same_upd hp)) own_new) (.inr rfl))⟩
  | tup xs =>
    obtain ⟨hc, o⟩ := Out.guard (show Out g W Z σ H (if cleanL xs = true then R.ok (D.tup (cutL xs lo hi)) else .bad) _ from o)
    obtain ⟨a, vs, rfl, hq, rs⟩ := rep_tup rx
    refine .inr (.inl ⟨a, vs, rfl, by rw [G.K]; exact hq, fun h => ?_, fun _ p hp => o _ _ Z [] (post_new hz hp (.tup (.of upd_same) ((cutV_nil (rs.to0 hc) lo hi).same (fun _ z => z) (same_upd hp))) (.inl rfl))⟩)
    rw [← rs.length] at h
    refine o _ H Z [] (post_sc hz (.tup hq ?_))
    rw [cutL_all xs lo hi h]
    exact rs.to0 hc
  | str z =>
    obtain ⟨hc, o⟩ := Out.guard (show Out g W Z σ H (if z.length ≤ sizeLine then R.ok (D.str (L2.cutS z lo hi)) else .bad) _ from o)
    obtain ⟨rfl, _⟩ := rep_str rx
    exact .inr (.inr ⟨z, rfl, hc, o _ H Z [] (post_sc hz (.str _))⟩)
  | _ => exact o.elim
def tPO (g : Gv) (W : L2.WX) (f : Sl → R D) (n : Bool) : TO := fun σ H Q => ∃ H0 Z fps σl, SR g H0 Z fps σl σ H ∧ Out g W Z σ H (f σl) fun d => Out g W Z σ H (partD (if n = true then none else some d)) fun i => ∀ H' Z', Same H H' → Zx Z Z' H H' → Q i H'
theorem po_e (ha : PE X a (tI g W ba fa)) : PO X (some a) (tPO g W fa false) := by
  refine ⟨fun pins s σ H Q I h => (po_some ha).run pins s σ H Q I ?_⟩
  obtain ⟨H0, Z, fps, σl, sr, o⟩ := h
  refine ⟨H0, Z, fps, σl, sr, o.imp fun x h v1 H1 Z1 fp1 p1 => ?_⟩
  cases x with
  | int i =>
    obtain ⟨rfl, _⟩ := rep_int p1.rep
    exact ⟨i, rfl, h H1 Z1 p1.same p1.zx⟩
  | _ => exact h.elim
theorem po_n : PO X none (tPO g W (fun _ => .ok .non) true) := by
  refine ⟨fun pins s σ H Q I h => po_none.run pins s σ H Q I ?_⟩
  obtain ⟨H0, Z, fps, σl, sr, o⟩ := h
  exact o H Z (same_refl H) (.refl sr.z)
theorem se_sl {lo hi : Option Expr} {p2 : Pos} {nb nc : Bool} (G : Gof g X) (ha : PE X a (tI g W ba fa)) (hl : PO X lo (tPO g W fb nb)) (hh : PO X hi (tPO g W fc nc)) :
    PE X (.Subscript a (.Slice lo hi none p2) pos) (tI g W true fun σ => (fa σ).bind fun x => (fb σ).bind fun l => (partD (if nb = true then none else some l)).bind fun l => (fc σ).bind fun h => (partD (if nc = true then none else some h)).bind fun h => slD x l h) :=
  (pe_slice slr_all ha hl hh).imp fun σ H Q q => by
    obtain ⟨H0, Z, fps, σl, sr, o⟩ := q
    refine ⟨H0, Z, fps, σl, sr, o.bind.imp fun x h v1 H1 Z1 fp1 p1 => ?_⟩
    refine ⟨H0, Z1, fps, σl, sr.step p1.same p1.zx, h.bind.step p1.same p1.zx fun l h2 => ?_⟩
    refine h2.bind.step p1.same p1.zx fun lo' h3 H2 Z2 s2 z2 => ?_
    have s12 := same_trans p1.same s2
    have z12 := p1.zx.trans p1.same z2
    refine ⟨H0, Z2, fps, σl, sr.step s12 z12, h3.bind.step s12 z12 fun l' h4 => ?_⟩
    refine h4.bind.step s12 z12 fun hi' h5 H3 Z3 s3 z3 => ?_
    have s13 := same_trans s12 s3
    have z13 := z12.trans s12 z3
    exact slD_out G z3.inn (p1.rep.same (fun a z => z3.le a (z2.le a z)) (same_trans s2 s3)) (h5.step s13 z13 fun d q v H' Z' fp p => q v H' Z' fp (p.pre s13 z13))
end
end DI
namespace DI
open PySem PySem.Spec PyProof.Rows L2
section
variable {X : Cx} {g : Gv} {W : L2.WX} {a b c : Expr} {fa fb fc : Sl → R D} {ba bb bc : Bool} {pos : Pos}
theorem tChain_of {r r' : R2} {o o' : Cop} (hr : OpD g W true r (fun x y => blR (cmpD o x y))) (hr' : OpD g W true r' (fun x y => blR (cmpD o' x y))) {σ : L2.St} {H : Hp} {Q : VK}
    (q : tI g W true (fun σ => (fa σ).bind fun x => (fb σ).bind fun y => (cmpD o x y).bind fun r => if r = true then (fc σ).bind fun z => (cmpD o' y z).bind fun r => .ok (.bl r) else .ok (.bl false)) σ H Q) :
    tChain r r' (tI g W ba fa) (tI g W bb fb) (tI g W bc fc) σ H Q := by
  obtain ⟨H0, Z, fps, σl, sr, q⟩ := q
  refine ⟨H0, Z, fps, σl, sr, q.bind.imp fun x h v1 H1 Z1 fp1 p1 => ?_⟩
  refine ⟨H0, Z1, fps, σl, sr.step p1.same p1.zx, h.bind.step p1.same p1.zx fun y h2 v2 H2 Z2 fp2 p2 => ?_⟩
  have s2 := same_trans p1.same p2.same
  have z2 := p1.zx.trans p1.same p2.zx
  refine hr Z2 σ H2 x y v1 v2 fp1 fp2 _ p2.zx.inn (p1.rep.same p2.zx.le p2.same) p2.rep ?_
  have h3 := h2.bind.step (P' := fun k => Out g W Z σ H (if k = true then (fc σl).bind fun z => (cmpD o' y z).bind fun r => .ok (.bl r) else .ok (.bl false)) fun d => ∀ v H' Z' fp, PostE g true Z Z' H H' d v fp → Q v H') s2 z2 (fun _ h => h)
  show Out g W Z2 σ H2 (blR (cmpD o x y)) _
  unfold blR
  cases hc : cmpD o x y with
  | ok k =>
    rw [hc] at h3
    have h3 : Out g W Z σ H (if k = true then (fc σl).bind fun z => (cmpD o' y z).bind fun r => .ok (.bl r) else .ok (.bl false)) fun d => ∀ v H' Z' fp, PostE g true Z Z' H H' d v fp → Q v H' := h3
    intro v H3 Z3 fp3 p3
    have rp := p3.rep
    cases rp
    refine ⟨k, rfl, ?_⟩
    have s3 := same_trans s2 p3.same
    have z3 := z2.trans s2 p3.zx
    cases k with
    | true =>
      have h3 : Out g W Z σ H ((fc σl).bind fun z => (cmpD o' y z).bind fun r => R.ok (D.bl r)) _ := h3
      refine ⟨H0, Z3, fps, σl, sr.step s3 z3, h3.bind.step s3 z3 fun z h4 v4 H4 Z4 fp4 p4 => ?_⟩
      have s4 := same_trans s3 p4.same
      have z4 := z3.trans s3 p4.zx
      refine hr' Z4 σ H4 y z v2 v4 fp2 fp4 Q p4.zx.inn (p2.rep.same (fun a h => p4.zx.le a (p3.zx.le a h)) (same_trans p3.same p4.same)) p4.rep ?_
      exact h4.step s4 z4 fun d q v H' Z' fp p => q v H' Z' fp (p.pre s4 z4)
    | false => exact h3 _ H3 Z3 [] ((post_sc p3.zx.inn (.bl _)).pre s3 z3)
  | err c fs =>
    rw [hc] at h3
    exact h3
  | bad =>
    rw [hc] at h3
    exact h3
theorem se_chn {op op' : CmpOp} {r r' : R2} {o o' : Cop} (ho : OpR X (compareOp op) r) (ho' : OpR X (compareOp op') r') (hr : OpD g W true r (fun x y => blR (cmpD o x y))) (hr' : OpD g W true r' (fun x y => blR (cmpD o' x y)))
    (ha : PE X a (tI g W ba fa)) (hb : PE X b (tI g W bb fb)) (hc : PE X c (tI g W bc fc)) (hm : lastMarks [op, op'] [b, c] = false) :
    PE X (.Compare a [op, op'] [b, c] pos) (tI g W true (fun σ => (fa σ).bind fun x => (fb σ).bind fun y => (cmpD o x y).bind fun r => if r = true then (fc σ).bind fun z => (cmpD o' y z).bind fun r => .ok (.bl r) else .ok (.bl false))) :=
  (pe_chain ho ho' ha hb hc hm).imp fun _ _ _ q => tChain_of hr hr' q
def OpC (g : Gv) (W : L2.WX) (bo : Bool) (r : List V → Hp → VK → Prop) (h : List D → R D) : Prop := ∀ (Z : Addr → Prop) (σ : L2.St) (H : Hp) (ds : List D) (vs : List V) (fp : List Addr) (Q : VK), (∀ a, Z a → H a ≠ none) → Reps g Z H ds vs fp →
  Out g W Z σ H (h ds) (fun d => ∀ v H' Z' fp, PostE g bo Z Z' H H' d v fp → Q v H') → r vs H Q
theorem tCB_of {r : List V → Hp → VK → Prop} {h : List D → R D} {bo : Bool} (hr : OpC g W bo r h) {σ : L2.St} {H : Hp} {Q : VK} (q : tI g W bo (fun σ => (fa σ).bind fun r => (tupOf r).bind fun ds => h ds) σ H Q) : tCB r (tIA g W ba fa) σ H Q := by
  obtain ⟨H0, Z, fps, σl, sr, q⟩ := q
  refine ⟨H0, Z, fps, σl, sr, q.bind.imp fun x o => ?_⟩
  cases x with
  | tup ds =>
    have o : Out g W Z σ H (h ds) _ := o
    exact ⟨ds, rfl, fun vs H1 Z1 fp1 p1 => hr Z1 σ H1 ds vs fp1 Q p1.zx.inn p1.rep (o.step p1.same p1.zx fun d q v H' Z' fp p => q v H' Z' fp (p.pre p1.same p1.zx))⟩
  | _ => exact o.elim
theorem se_callB {x : Str} {p : Pos} {e : Expr} {es : List Expr} {id : String} {r : List V → Hp → VK → Prop} {h : List D → R D} {bo : Bool} (hc : CallR X (.builtin id) r) (hr : OpC g W bo r h) (hg : Gl X x) (hm : X.mg x = none) (hv : bootBuiltins x = some (.builtin id))
    (ha : PA X (e :: es) (tIA g W ba fa)) (hn : x ≠ "__name__") (hdb : (x == ("__debug__" : Str)) = false) (he : starEach (e :: es) X.env = (false, eval e X.env) :: starEach es X.env) (hpl : (backTo pos (starEach es X.env)).any (·.1) = false) :
    PE X (.Call (.Name x p) (e :: es) [] pos) (tI g W bo fun σ => (fa σ).bind fun r => (tupOf r).bind fun ds => h ds) := (pe_callB hc hg hm hv ha hn hdb he hpl).imp fun _ _ _ q => tCB_of hr q
theorem se_callTy {x : Str} {p : Pos} {e : Expr} {es : List Expr} {T : String} {r : List V → Hp → VK → Prop} {h : List D → R D} {bo : Bool} (hc : CallR X (.type T) r) (hr : OpC g W bo r h) (hg : Gl X x) (hm : X.mg x = none) (hv : bootBuiltins x = some (.type T))
    (ha : PA X (e :: es) (tIA g W ba fa)) (hn : x ≠ "__name__") (hdb : (x == ("__debug__" : Str)) = false) (he : starEach (e :: es) X.env = (false, eval e X.env) :: starEach es X.env) (hpl : (backTo pos (starEach es X.env)).any (·.1) = false) :
    PE X (.Call (.Name x p) (e :: es) [] pos) (tI g W bo fun σ => (fa σ).bind fun r => (tupOf r).bind fun ds => h ds) := (pe_callTy hc hg hm hv ha hn hdb he hpl).imp fun _ _ _ q => tCB_of hr q
def spI (g : Gv) (n : Nat) (h : List D → R D) : Sp := fun vs H Q E => ∃ (Z : Addr → Prop) (ds : List D), (∀ a, Z a → H a ≠ none) ∧ Reps g Z H ds vs [] ∧ ds.length = n ∧
  Out g (fun cls d _ H => E cls d H) Z [] H (h ds) fun d => ∀ v H' Z' fp, PostE g true Z Z' H H' d v fp → Q v H'
theorem frzL_length (ds : List D) : (frzL ds).length = ds.length := by rw [frzL_map, List.length_map]
theorem call_sp {n : Nat} {h : List D → R D} {Z Z1 : Addr → Prop} {H H1 : Hp} {σ : L2.St} {ds : List D} {vs : List V} {fp1 : List Addr} {Q : VK} {bo : Bool} (p1 : PostA g ba Z Z1 H H1 ds vs fp1) (hn : ds.length = n)
    (o : Out g W Z σ H ((h (frzL ds)).bind fun d => if (cleanL ds || noFrz d) = true then .ok d else .bad) fun d => ∀ v H' Z' fp, PostE g bo Z Z' H H' d v fp → Q v H') :
    spI g n h vs H1 Q (fun cls d H => W cls d σ H) := by
  refine ⟨fun a => Z1 a ∨ a ∈ fp1, frzL ds, fun a ha => ?_, p1.rep.frz (fun a z => .inl z) (fun a m => .inr m), by rw [frzL_length]; exact hn, ?_⟩
  · rcases ha with z | m
    · exact p1.zx.inn a z
    · exact Reps.there p1.rep a m
  · cases hh : h (frzL ds) with
    | ok d =>
      rw [hh] at o
      obtain ⟨hc, o⟩ := Out.guard (show Out g W Z σ H (if (cleanL ds || noFrz d) = true then R.ok d else .bad) _ from o)
      intro v H' Z' fp p2
      refine o v H' (fun a => Z1 a ∨ (Z' a ∧ H1 a = none)) fp ⟨same_trans p1.same p2.same, ⟨fun a z => .inl (p1.zx.le a z), fun a z => ?_, fun a z => ?_⟩, ?_, fun _ => ⟨(p2.own rfl).1, fun a ha => ?_⟩⟩
      · rcases z with z | ⟨_, z⟩
        · exact p1.zx.new a z
        · exact .inr (same_none p1.same z)
      · rcases z with z | ⟨z, _⟩
        · exact fun e => p1.zx.inn a z (same_none p2.same e)
        · exact p2.zx.inn a z
      · rw [Bool.or_eq_true] at hc
        rcases hc with hc | hc
        · have e := p1.rep.clean hc
          subst e
          refine p2.rep.same (fun a z => ?_) (same_refl H')
          rcases p2.zx.new a z with (q | q) | q
          · exact .inl q
          · exact nomatch q
          · exact .inr ⟨z, q⟩
        · exact p2.rep.unzone hc
      · obtain ⟨h1, h2⟩ := (p2.own rfl).2 a ha
        refine ⟨same_none p1.same h1, fun z => ?_⟩
        rcases z with z | ⟨z, _⟩
        · exact p1.zx.inn a z h1
        · exact h2 z
    | err c fs =>
      rw [hh] at o
      intro H' Z' cls d s z e
      refine o H' (fun a => Z1 a ∨ (Z' a ∧ H1 a = none)) cls d (same_trans p1.same s) ⟨fun a z => .inl (p1.zx.le a z), fun a z => ?_, fun a z' => ?_⟩ e
      · rcases z with z | ⟨_, z⟩
        · exact p1.zx.new a z
        · exact .inr (same_none p1.same z)
      · rcases z' with z' | ⟨z', _⟩
        · exact fun e => p1.zx.inn a z' (same_none s e)
        · exact z.inn a z'
    | bad =>
      rw [hh] at o
      exact o.elim
theorem se_call {x : Str} {p : Pos} {e : Expr} {es : List Expr} {k n : Nat} {f : Addr} {fd : FuncData} {ps : List Str} {h : List D → R D} (F : FnOk X.prog X.w X.K X.mg X.base (L2.CX X.prog X.w) k f fd ps (spI g n h)) (hr : Room k X.A) (hg : Gl X x) (hm : X.mg x = some (.ref f))
    (hk : PySem.W.keepIn X.K (.ref f) = true) (hb : Binds X.K fd ps []) (tk : Takes X W) (ha : PA X (e :: es) (tIA g W ba fa)) (hlen : ∀ σ ds, fa σ = .ok (.tup ds) → ds.length = n) (hdb : (x == ("__debug__" : Str)) = false) (he : starEach (e :: es) X.env = (false, eval e X.env) :: starEach es X.env) (hpl : (backTo pos (starEach es X.env)).any (·.1) = false) :
    PE X (.Call (.Name x p) (e :: es) [] pos) (tI g W true fun σ => (fa σ).bind fun r => (tupOf r).bind fun ds => (h (frzL ds)).bind fun d => if (cleanL ds || noFrz d) = true then .ok d else .bad) :=
  (pe_callSD (dvs := []) (E := fun σ cls d H => W cls d σ H) F hr hg hm hk hb .nil (fun σ => passAt tk σ) ha hdb he hpl).imp fun σ H Q q => by
    obtain ⟨H0, Z, fps, σl, sr, q⟩ := q
    refine ⟨H0, Z, fps, σl, sr, ?_⟩
    have q := Out.bind q
    cases hx : fa σl with
    | ok x =>
      rw [hx] at q
      cases x with
      | tup ds =>
        refine ⟨ds, rfl, fun vs H1 Z1 fp1 p1 => ?_⟩
        show spI g n h (vs ++ []) H1 Q _
        rw [List.append_nil]
        exact call_sp p1 (hlen σl ds hx) q
      | _ => exact q.elim
    | err c fs => rw [hx] at q; exact q
    | bad => rw [hx] at q; exact q.elim
theorem reps1 {Z : Addr → Prop} {H : Hp} {x : D} {vs : List V} {fp : List Addr} (r : Reps g Z H [x] vs fp) : ∃ v, vs = [v] ∧ Rep g Z H x v fp := by
  cases r with
  | cons h hs =>
    cases hs
    exact ⟨_, rfl, by rw [List.append_nil]; exact h⟩
theorem reps2 {Z : Addr → Prop} {H : Hp} {x y : D} {vs : List V} {fp : List Addr} (r : Reps g Z H [x, y] vs fp) : ∃ v u f f', vs = [v, u] ∧ Rep g Z H x v f ∧ Rep g Z H y u f' := by
  cases r with
  | cons h hs =>
    obtain ⟨u, rfl, h2⟩ := reps1 hs
    exact ⟨_, _, _, _, rfl, h, h2⟩
def rLenD (X : Cx) : List V → Hp → VK → Prop := fun xs H Q => (∃ p ys, xs = [.ref p] ∧ (SqL X.K H p ys ∨ SqT X.K H p ys) ∧ Q (.int ys.length) H) ∨ ((∃ z, xs = [.str z] ∧ z.length ≤ sizeLine ∧ Q (.int z.length) H) ∨
  ((∃ p kv, xs = [.ref p] ∧ Rd H p (.dK kv) ∧ Q (.int kv.length) H) ∨ ∃ p od ys, xs = [.ref p] ∧ H p = some (rawN X.prog X.w p od ys) ∧ (∀ q ∈ ys, KRep X.K H q.1 (.ref q.2.1) ∧ q.1.depth ≤ 8) ∧ Q (.int ys.length) H))
theorem call_len_dN : CallR X (.builtin "len") (fun xs H Q => ∃ p od ys, xs = [.ref p] ∧ H p = some (rawN X.prog X.w p od ys) ∧ (∀ q ∈ ys, KRep X.K H q.1 (.ref q.2.1) ∧ q.1.depth ≤ 8) ∧ Q (.int ys.length) H) := by
  intro pins s σ H xs us Q I r h
  obtain ⟨p, ob, ys, rfl, hp, hk, q⟩ := h
  obtain ⟨u, rfl, rx⟩ := L2.vals1 r
  cases rx
  obtain ⟨⟨hl, hd, hn, zs, hq, es, ep, h1, h2, h3, h4⟩, _⟩ := I.hok p _ hp
  have hl2 := PN.length hq
  have dd : s.heap.DictOfH (nestedKind X.prog X.w) p zs := by
    refine ⟨ob, es, ep, h1, h2, h3, h4, fun x hx => ?_, by rw [PN.keys hq]; exact hn⟩
    have all : ∀ {l : List (NestedKey × Addr × V)} {m : List (NestedKey × Addr × Value)}, PN l m → (∀ p ∈ l, KRep X.K H p.1 (.ref p.2.1) ∧ p.1.depth ≤ 8) → ∀ x ∈ m, (nestedKind X.prog X.w).is s.heap x.1 x.2.1 := by
      intro l m q
      induction q with
      | nil => intro _ x hx; exact nomatch hx
      | @cons p q ps qs hq t ih =>
        intro hk x hx
        rcases List.mem_cons.mp hx with e | hx
        · subst e
          obtain ⟨k1, k2⟩ := hk p List.mem_cons_self
          refine ⟨?_, by rw [← hq.1]; exact k2⟩
          rw [← hq.1, ← hq.2.1]
          exact KRep.is (v := .ref p.2.1) (u := .ref p.2.1) I k1 rfl
        · exact ih (fun p hp => hk p (List.mem_cons_of_mem _ hp)) x hx
    exact all hq hk x hx
  refine call_len_dictH hd dd (by rw [← hl2]; rw [sizeLine_eq] at hl; omega) ?_
  rw [← hl2]
  exact ⟨.int ((ys.length : Nat) : Int), H, I.tok _, ⟨_, rfl⟩, q⟩
theorem call_len_dK : CallR X (.builtin "len") (fun xs H Q => ∃ p kv, xs = [.ref p] ∧ Rd H p (.dK kv) ∧ Q (.int kv.length) H) := by
  intro pins s σ H xs us Q I r h
  obtain ⟨p, kv, rfl, hp, q⟩ := h
  obtain ⟨u, rfl, rx⟩ := L2.vals1 r
  cases rx
  exact d_len I hp fun t s' I' => ⟨.int kv.length, H, I', ⟨t, rfl⟩, q⟩
theorem cr_lenD : CallR X (.builtin "len") (rLenD X) := call_len_seq.or (call_len_str.or (call_len_dK.or call_len_dN))
theorem opc_len (G : Gof g X) : OpC g W true (rLenD X) (biD .len) := by
  intro Z σ H ds vs fp Q hz r o
  cases ds with
  | nil => exact o.elim
  | cons x r' =>
    cases r' with
    | cons y r' => cases x <;> exact o.elim
    | nil =>
      obtain ⟨v, rfl, rx⟩ := reps1 r
      cases x with
      | lst o' xs =>
        obtain ⟨a, ys, fs, rfl, hq, rs, _⟩ := rep_lst' rx
        have o : ∀ v H' Z' fp, PostE g true Z Z' H H' (.int xs.length) v fp → Q v H' := o
        rw [rs.length] at o
        exact .inl ⟨a, ys, rfl, .inl (by rw [G.K]; exact hq), o _ H Z [] (post_sc hz (.int _))⟩
      | tup xs =>
        obtain ⟨a, ys, rfl, hq, rs⟩ := rep_tup rx
        have o : ∀ v H' Z' fp, PostE g true Z Z' H H' (.int xs.length) v fp → Q v H' := o
        rw [rs.length] at o
        exact .inl ⟨a, ys, rfl, .inr (by rw [G.K]; exact hq), o _ H Z [] (post_sc hz (.int _))⟩
      | str z =>
        obtain ⟨hl, o⟩ := Out.guard (show Out g W Z σ H (if z.length ≤ sizeLine then R.ok (D.int z.length) else .bad) _ from o)
        obtain ⟨rfl, _⟩ := rep_str rx
        exact .inr (.inl ⟨z, rfl, hl, o _ H Z [] (post_sc hz (.int _))⟩)
      | dct o' kvs =>
        have o : ∀ v H' Z' fp, PostE g true Z Z' H H' (.int kvs.length) v fp → Q v H' := o
        have q := o _ H Z [] (post_sc hz (.int _))
        cases rx with
        | @dK a kv _ _ _ h e hs w =>
          have e2 : kvs.length = kv.length := by have := congrArg List.length e; simpa using this.symm
          rw [e2] at q
          exact .inr (.inr (.inl ⟨a, kv, rfl, .inl h, q⟩))
        | @dN a od xs _ _ _ h e ne hk hs w =>
          have e2 : kvs.length = xs.length := by have := congrArg List.length e; simpa using this.symm
          rw [e2] at q
          exact .inr (.inr (.inr ⟨a, od, xs, rfl, by rw [G.P, G.w]; exact h, by rw [G.K]; exact hk, q⟩))
      | _ => exact o.elim
end
end DI
namespace DI
open PySem PySem.Spec PyProof.Rows L2
section
variable {X : Cx} {g : Gv} {W : L2.WX}
theorem reps_bls {Z : Addr → Prop} {H : Hp} : ∀ {xs : List D} {vs : List V} {fp : List Addr} {ns : List Bool}, Reps g Z H xs vs fp → blsD xs = some ns → vs = ns.map V.bl
  | [], _, _, _, r, e => by cases r; cases e; rfl
  | x :: xs, _, _, _, r, e => by
    cases r with
    | cons h hs =>
      cases x with
      | bl i =>
        obtain ⟨ms, e1, rfl⟩ := Option.map_eq_some_iff.mp (show (blsD xs).map (i :: ·) = some _ from e)
        obtain ⟨rfl, _⟩ := rep_bl h
        rw [reps_bls hs e1]
        rfl
      | _ => cases e
theorem one_arg {h : List D → R D} {Z : Addr → Prop} {σ : L2.St} {H : Hp} {ds : List D} {vs : List V} {fp : List Addr} {P : D → Prop} (r : Reps g Z H ds vs fp) (o : Out g W Z σ H (h ds) P) (h0 : h [] = .bad) (h2 : ∀ x y r, h (x :: y :: r) = .bad) :
    ∃ x v, ds = [x] ∧ vs = [v] ∧ Rep g Z H x v fp ∧ Out g W Z σ H (h [x]) P := by
  cases ds with
  | nil => rw [h0] at o; exact o.elim
  | cons x r' =>
    cases r' with
    | nil =>
      obtain ⟨v, rfl, rx⟩ := reps1 r
      exact ⟨x, v, rfl, rfl, rx, o⟩
    | cons y r' => rw [h2] at o; exact o.elim
theorem two_args {h : List D → R D} {Z : Addr → Prop} {σ : L2.St} {H : Hp} {ds : List D} {vs : List V} {fp : List Addr} {P : D → Prop} (r : Reps g Z H ds vs fp) (o : Out g W Z σ H (h ds) P) (h0 : h [] = .bad) (h1 : ∀ x, h [x] = .bad) (h2 : ∀ x y z r, h (x :: y :: z :: r) = .bad) :
    ∃ x y v u f f', ds = [x, y] ∧ vs = [v, u] ∧ Rep g Z H x v f ∧ Rep g Z H y u f' ∧ Out g W Z σ H (h [x, y]) P := by
  cases ds with
  | nil => rw [h0] at o; exact o.elim
  | cons x r' =>
    cases r' with
    | nil => rw [h1] at o; exact o.elim
    | cons y r' =>
      cases r' with
      | nil =>
        obtain ⟨v, u, f, f', rfl, rx, ry⟩ := reps2 r
        exact ⟨x, y, v, u, f, f', rfl, rfl, rx, ry, o⟩
      | cons z r' => rw [h2] at o; exact o.elim
theorem opc_tuple (G : Gof g X) : OpC g W true (fun xs H Q => ∃ p ys, xs = [.ref p] ∧ ((SqL X.K H p ys ∧ ∀ l, H l = none → Q (.ref l) (upd H l (.tup ys))) ∨ (SqT X.K H p ys ∧ Q (.ref p) H))) (biD .tuple) := by
  intro Z σ H ds vs fp Q hz r o
  obtain ⟨x, v, rfl, rfl, rx, o⟩ := one_arg r o rfl (fun x _ _ => by cases x <;> rfl)
  cases x with
  | lst o' xs =>
    obtain ⟨hc, o⟩ := Out.guard (show Out g W Z σ H (if cleanL xs = true then R.ok (D.tup xs) else .bad) _ from o)
    obtain ⟨a, ys, fs, rfl, hq, rs, _⟩ := rep_lst' rx
    exact ⟨a, ys, rfl, .inl ⟨by rw [G.K]; exact hq, fun p hp => o _ _ Z [] (post_new hz hp (.tup (.of upd_same) ((rs.to0 hc).same (fun _ z => z) (same_upd hp))) (.inl rfl))⟩⟩
  | tup xs =>
    obtain ⟨hc, o⟩ := Out.guard (show Out g W Z σ H (if cleanL xs = true then R.ok (D.tup xs) else .bad) _ from o)
    obtain ⟨a, ys, rfl, hq, rs⟩ := rep_tup rx
    exact ⟨a, ys, rfl, .inr ⟨by rw [G.K]; exact hq, o _ H Z [] (post_sc hz (.tup hq (rs.to0 hc)))⟩⟩
  | _ => exact o.elim
theorem opc_list (G : Gof g X) : OpC g W true (fun xs H Q => ∃ p ys, xs = [.ref p] ∧ (SqL X.K H p ys ∨ SqT X.K H p ys) ∧ ∀ l, H l = none → Q (.ref l) (upd H l (.lst ys))) (biD .list) := by
  intro Z σ H ds vs fp Q hz r o
  obtain ⟨x, v, rfl, rfl, rx, o⟩ := one_arg r o rfl (fun x _ _ => by cases x <;> rfl)
  cases x with
  | lst o' xs =>
    obtain ⟨hc, o⟩ := Out.guard (show Out g W Z σ H (if cleanL xs = true then R.ok (D.lst true xs) else .bad) _ from o)
    obtain ⟨a, ys, fs, rfl, hq, rs, _⟩ := rep_lst' rx
    exact ⟨a, ys, rfl, .inl (by rw [G.K]; exact hq), fun p hp => o _ _ Z [p] (post_new hz hp (.lst upd_same ((rs.to0 hc).same (fun _ z => z) (same_upd hp)) own_new) (.inr rfl))⟩
  | tup xs =>
    obtain ⟨hc, o⟩ := Out.guard (show Out g W Z σ H (if cleanL xs = true then R.ok (D.lst true xs) else .bad) _ from o)
    obtain ⟨a, ys, rfl, hq, rs⟩ := rep_tup rx
    exact ⟨a, ys, rfl, .inr (by rw [G.K]; exact hq), fun p hp => o _ _ Z [p] (post_new hz hp (.lst upd_same ((rs.to0 hc).same (fun _ z => z) (same_upd hp)) own_new) (.inr rfl))⟩
  | _ => exact o.elim
def rIntD : List V → Hp → VK → Prop := fun xs H Q => ((∃ i, xs = [.int i] ∧ Q (.int i) H) ∨ ∃ k, xs = [.bl k] ∧ Q (.int (if k = true then 1 else 0)) H) ∨ ∃ a n, xs = [.str a] ∧ PySem.intText? a = some n ∧ a.length ≤ 640 ∧ Q (.int n) H
theorem cr_intD : CallR X (.type "int") rIntD := call_int1.or call_int_str
theorem opc_int : OpC g W true rIntD (biD .int) := by
  intro Z σ H ds vs fp Q hz r o
  obtain ⟨x, v, rfl, rfl, rx, o⟩ := one_arg r o rfl (fun x _ _ => by cases x <;> rfl)
  cases x with
  | int i =>
    obtain ⟨rfl, _⟩ := rep_int rx
    exact .inl (.inl ⟨i, rfl, o _ H Z [] (post_sc hz (.int _))⟩)
  | bl i =>
    obtain ⟨rfl, _⟩ := rep_bl rx
    exact .inl (.inr ⟨i, rfl, o _ H Z [] (post_sc hz (.int _))⟩)
  | str z =>
    obtain ⟨rfl, _⟩ := rep_str rx
    have o : Out g W Z σ H (match PySem.intText? z with | some n => if z.length ≤ 640 then R.ok (D.int n) else .bad | none => .bad) _ := o
    cases e : PySem.intText? z with
    | none => rw [e] at o; exact o.elim
    | some n =>
      rw [e] at o
      obtain ⟨hc, o⟩ := Out.guard o
      exact .inr ⟨z, n, rfl, e, hc, o _ H Z [] (post_sc hz (.int _))⟩
  | _ => exact o.elim
theorem opc_min : OpC g W true (fun xs H Q => ∃ i j, xs = [.int i, .int j] ∧ Q (.int (if j < i then j else i)) H) (biD .min) := by
  intro Z σ H ds vs fp Q hz r o
  obtain ⟨x, y, v, u, f, f', rfl, rfl, rx, ry, o⟩ := two_args r o rfl (fun x => by cases x <;> rfl) (fun x y _ _ => by cases x <;> cases y <;> rfl)
  cases x with
  | int i =>
    cases y with
    | int j =>
      obtain ⟨rfl, _⟩ := rep_int rx
      obtain ⟨rfl, _⟩ := rep_int ry
      exact ⟨i, j, rfl, o _ H Z [] (post_sc hz (.int _))⟩
    | _ => exact o.elim
  | _ => exact o.elim
theorem opc_max : OpC g W true (fun xs H Q => ∃ i j, xs = [.int i, .int j] ∧ Q (.int (if j > i then j else i)) H) (biD .max) := by
  intro Z σ H ds vs fp Q hz r o
  obtain ⟨x, y, v, u, f, f', rfl, rfl, rx, ry, o⟩ := two_args r o rfl (fun x => by cases x <;> rfl) (fun x y _ _ => by cases x <;> cases y <;> rfl)
  cases x with
  | int i =>
    cases y with
    | int j =>
      obtain ⟨rfl, _⟩ := rep_int rx
      obtain ⟨rfl, _⟩ := rep_int ry
      exact ⟨i, j, rfl, o _ H Z [] (post_sc hz (.int _))⟩
    | _ => exact o.elim
  | _ => exact o.elim
theorem opc_all (G : Gof g X) : OpC g W true (rAll X.K) (biD .all) := by
  intro Z σ H ds vs fp Q hz r o
  obtain ⟨x, v, rfl, rfl, rx, o⟩ := one_arg r o rfl (fun x _ _ => by cases x <;> rfl)
  cases x with
  | lst o' xs =>
    have o : Out g W Z σ H (match blsD xs with | some ns => R.ok (D.bl (ns.all id)) | none => .bad) _ := o
    cases e : blsD xs with
    | none => rw [e] at o; exact o.elim
    | some ns =>
      rw [e] at o
      obtain ⟨a, ys, fs, rfl, hq, rs, _⟩ := rep_lst' rx
      have e2 := reps_bls rs e
      subst e2
      exact ⟨a, ns, rfl, by rw [G.K]; exact hq, o _ H Z [] (post_sc hz (.bl _))⟩
  | _ => exact o.elim
def Ty.nm : Ty → String
  | .str => "str" | .int => "int" | .bool => "bool" | .tuple => "tuple" | .list => "list"
def rIsiD (K : PySem.W.Frag) (t : Ty) : List V → Hp → VK → Prop := fun xs H Q => rIsi K (xs ++ [.ty t.nm]) H Q
theorem ty_of (G : Gof g X) {Z : Addr → Prop} {H : Hp} {x : D} {v : V} {f : List Addr} {t : Ty} {b : Bool} (r : Rep g Z H x v f) (e : isTy t x = .ok b) : ∃ n, TyX X.K H v (.type n) ∧ kitB n t.nm = some b := by
  cases r with
  | non => exact ⟨_, .base .non, by cases t <;> cases e <;> decide +kernel⟩
  | bl y => exact ⟨_, .base (.bl y), by cases t <;> cases e <;> decide +kernel⟩
  | int y => exact ⟨_, .base (.int y), by cases t <;> cases e <;> decide +kernel⟩
  | str y => exact ⟨_, .base (.str y), by cases t <;> cases e <;> decide +kernel⟩
  | tup h hs =>
    refine ⟨"tuple", ?_, by cases t <;> cases e <;> decide +kernel⟩
    rcases h with (h | ⟨o, h⟩) | ⟨o, its, n, hk, hc, _⟩
    · exact .base (.tup h)
    · exact .fTuple h
    · exact .kTuple (by rw [G.K]; exact hk) hc
  | lst h hs w => exact ⟨"list", .base (.lst h), by cases t <;> cases e <;> decide +kernel⟩
  | lstR h hs =>
    rcases h with ⟨ob, h⟩ | ⟨o, its, n, hk, hc, _⟩
    · exact ⟨"list", .base (.frz h), by cases t <;> cases e <;> decide +kernel⟩
    · exact ⟨"list", .kList (by rw [G.K]; exact hk) hc, by cases t <;> cases e <;> decide +kernel⟩
  | dK h e2 hs w => cases t <;> cases e
  | dN h e2 ne hk hs w => cases t <;> cases e
  | exc0 _ => cases t <;> cases e
  | excD _ _ _ _ _ => cases t <;> cases e
  | ins _ _ _ _ _ => cases t <;> cases e
  | box _ _ _ _ _ => cases t <;> cases e
  | opq _ _ _ _ _ => cases t <;> cases e
theorem opc_isi (G : Gof g X) {t : Ty} : OpC g W true (rIsiD X.K t) (biD (.isi t)) := by
  intro Z σ H ds vs fp Q hz r o
  obtain ⟨x, v, rfl, rfl, rx, o⟩ := one_arg r o rfl (fun x _ _ => rfl)
  have o : Out g W Z σ H (blR (isTy t x)) _ := o
  obtain ⟨b, h, q⟩ := Out.bl hz (fun c fs h => by cases t <;> cases x <;> cases h) o
  obtain ⟨n, ty, k⟩ := ty_of G rx h
  exact ⟨v, .ty t.nm, .type n, .type t.nm, b, rfl, .ty _, ty, kit_ty k, q⟩
end
end DI
namespace DI
open PySem PySem.Spec PyProof.Rows L2
end DI
namespace PySem
open Sem (wp)
set_option maxHeartbeats 1000000 in
theorem di_enumerate_new1 {v : Value} {o : Obj} {H : Heap → Prop} (B : Begins v o H) :
    Meets (Builtin.«enumerate.__new__» ⟨[.type "enumerate", v], []⟩) (fun _ R s => H s.heap ∧
      R (.ok (.ret (.ref (s.heap.push o).objs.size))) { s with heap := (s.heap.push o).push { cls := .type "enumerate", data := .fields #[.none, .bool false, .ref s.heap.objs.size, rawInt 0, .none, .none] } }) :=
  .of_wp fun prog w A R s h => by
    obtain ⟨hp, g, d, tk, os⟩ := s; obtain ⟨h1, h⟩ := h
    have hsub := sub_enumerate
    have q1 : ∀ {A' : Around} {E : Value → Shared → Prop} {Q : Value → Shared → Prop}, Q (.ref hp.objs.size) ⟨hp.push o, g, d, tk, os⟩ → wpAny (model prog w) A' (pyIter v) Q E ⟨hp, g, d, tk, os⟩ :=
      fun q => B.iter prog w _ _ ⟨hp, g, d, tk, os⟩ _ h1 q
    wp_walk using q1
    refine wpAny_stack_any fun st => wpAny_pure ?_
    split
    · rename_i c _ _ _ _ _
      cases (c == Value.type "enumerate")
      · wp_walk using q1
        exact ⟨_, rfl, h⟩
      · wp_walk using q1
        exact ⟨_, rfl, h⟩
    · wp_walk using q1
      exact ⟨_, rfl, h⟩
end PySem
namespace DI
open PySem PySem.Spec PyProof.Rows L2
theorem enum1_begins {prog : Program} {w : World} {A : Around} {E : Value → Shared → Prop} {s : Shared} {v : Value} {o : Obj} {H : Heap → Prop} {Q : Value → Shared → Prop} (B : Begins v o H) (h1 : H s.heap)
    (h : ∀ h', IsEnum h' (s.heap.objs.size + 1) s.heap.objs.size 0 .none → h'.get? s.heap.objs.size = some o → h'.objs.size = s.heap.objs.size + 2 →
      (∀ b o, s.heap.get? b = some o → h'.get? b = some o) → Q (.ref (s.heap.objs.size + 1)) { s with heap := h' }) :
    wpAny (model prog w) A (call (.type "enumerate") [v]) Q E s := by
  refine callType_new F.called_enumerate (by decide) (F.typeCall_enumerate_1 _) (F.newCall_enumerate_1 _) (fun obj => F.args_object_init_2 obj _) F.entry_enumerate_new
    (di_enumerate_new1 B) ⟨h1, ?_⟩
  have hz : (s.heap.push o).objs.size = s.heap.objs.size + 1 := Heap.size_push ..
  show _ ∧ _
  rw [hz]
  have he : IsEnum ((s.heap.push o).push { cls := .type "enumerate", data := .fields #[.none, .bool false, .ref s.heap.objs.size, rawInt 0, .none, .none] }) (s.heap.objs.size + 1) s.heap.objs.size 0 .none := by
    have := Heap.get?_push_size (s.heap.push o) (o := { cls := .type "enumerate", data := .fields #[.none, .bool false, .ref s.heap.objs.size, rawInt 0, .none, .none] }) rfl
    rw [hz] at this; exact this
  refine ⟨⟨_, he, rfl⟩, h _ he (Heap.get?_push_of_some _ (Heap.get?_push_size _ B.free)) (by rw [Heap.size_push, hz]) fun b o x => Heap.get?_push_of_some _ (Heap.get?_push_of_some _ x)⟩
inductive SK where
  | l (a : Addr) | t (a : Addr) | s (z : Str)
def SK.val : SK → V
  | .l a => .ref a | .t a => .ref a | .s z => .str z
def chV (z : Str) : List V := z.cps.toList.map fun c => V.str ⟨#[c]⟩
def SK.at (K : PySem.W.Frag) (H : Hp) : SK → List V → Prop
  | .l a, xs => SqL K H a xs
  | .t a, xs => SqT K H a xs
  | .s z, xs => xs = chV z
def SK.it (it : Addr) (i : Nat) (h : Heap) : SK → Prop
  | .l a => h.IsListIter it a i ∧ a ≠ it
  | .t a => h.IsTupleIter it a i ∧ a ≠ it
  | .s z => ∃ t, h.IsStrIter it (strIterType z) z t i
theorem SK.it_obj {it : Addr} {i : Nat} {h : Heap} : ∀ {k : SK}, k.it it i h → ∃ o, h.get? it = some o ∧ ∀ v, o.data ≠ .cell v
  | .l _, ⟨⟨o, ho, hc, hd⟩, _⟩ => ⟨o, ho, fun v q => by rw [hd] at q; cases q⟩
  | .t _, ⟨⟨o, ho, hc, hd⟩, _⟩ => ⟨o, ho, fun v q => by rw [hd] at q; cases q⟩
  | .s _, ⟨tk', o, ho, hc, hd⟩ => ⟨o, ho, fun v q => by rw [hd] at q; cases q⟩
theorem SK.it_keep {it : Addr} {i : Nat} {h h' : Heap} (hk : ∀ o, h.get? it = some o → h'.get? it = some o) : ∀ {k : SK}, k.it it i h → k.it it i h'
  | .l _, ⟨st, ne⟩ => ⟨st.at hk, ne⟩
  | .t _, ⟨st, ne⟩ => ⟨st.at hk, ne⟩
  | .s _, ⟨tk', o, ho, r⟩ => ⟨tk', o, hk o ho, r⟩
theorem SK.draws {X : Cx} {pins : List (Addr × Obj)} {σ : L2.St} {H : Hp} {s : Shared} {A : Around} (I : Inv X pins σ H s) (hh : A.handled = none) {it : Addr} {i : Nat} : ∀ {k : SK} {xs : List V}, k.at X.K H xs → k.it it i s.heap →
    ∃ (fp : List Addr) (P : Nat → Value → Prop) (St : Nat → Heap → Prop), Draws X.prog X.w A it fp xs.length P St ∧ St i s.heap ∧ (∀ j u, P j u → ∃ v, xs[j]? = some v ∧ RelV v u) ∧ (∀ j h', St j h' → k.it it j h') ∧ (∀ e, s.heap.get? e ≠ none → e ≠ it → (∀ a, k.val = .ref a → a ≠ e) → e ∉ fp) ∧ it ∈ fp
  | .l a, xs, hq, ⟨st, ne⟩ => by
    obtain ⟨its, rv, p, hz⟩ := I.list hq
    refine ⟨[it, a], fun j v => its.toArray[j]? = some v, fun j h => h.IsListIter it a j ∧ h.IsList a its.toArray, ?_, ⟨st, p.isList⟩, fun j u hj => ?_, fun j h' st' => ⟨st'.1, ne⟩, fun e _ h1 h2 hm => ?_, by simp⟩
    · have := Draws.list (prog := X.prog) (w := X.w) hh it a ne its.toArray
      rw [List.size_toArray, ← rv.length] at this
      exact this
    · have hj' : its[j]? = some u := by simpa using hj
      cases e : xs[j]? with
      | none => rw [rv.none_of e] at hj'; cases hj'
      | some v =>
        obtain ⟨u', e1, r⟩ := rv.get e
        rw [hj'] at e1; cases e1
        exact ⟨v, rfl, r⟩
    · rcases List.mem_cons.mp hm with z | z
      · exact h1 z
      · exact h2 a rfl (List.mem_singleton.mp z).symm
  | .t a, xs, hq, ⟨st, ne⟩ => by
    obtain ⟨its, rv, p, hz⟩ := I.tuple hq
    have p' : s.heap.IsTuple a its.toArray := p
    refine ⟨[it, a], fun j v => its.toArray[j]? = some v, fun j h => h.IsTupleIter it a j ∧ h.IsTuple a its.toArray, ?_, ⟨st, p'⟩, fun j u hj => ?_, fun j h' st' => ⟨st'.1, ne⟩, fun e _ h1 h2 hm => ?_, by simp⟩
    · have := Draws.tuple (prog := X.prog) (w := X.w) hh it a ne its.toArray
      rw [List.size_toArray, ← rv.length] at this
      exact this
    · have hj' : its[j]? = some u := by simpa using hj
      cases e : xs[j]? with
      | none => rw [rv.none_of e] at hj'; cases hj'
      | some v =>
        obtain ⟨u', e1, r⟩ := rv.get e
        rw [hj'] at e1; cases e1
        exact ⟨v, rfl, r⟩
    · rcases List.mem_cons.mp hm with z | z
      · exact h1 z
      · exact h2 a rfl (List.mem_singleton.mp z).symm
  | .s z, xs, hq, ⟨tk', st⟩ => by
    have hq : xs = chV z := hq
    subst hq
    refine ⟨[it], fun j u => ∃ c t, z.cps[j]? = some c ∧ u = .str ⟨#[c]⟩ t, fun j h => h.IsStrIter it (strIterType z) z tk' j, ?_, st, fun j u hj => ?_, fun j h' st' => ⟨tk', st'⟩, fun e _ h1 h2 hm => h1 (List.mem_singleton.mp hm), by simp⟩
    · have := Draws.text (prog := X.prog) (w := X.w) hh it z tk'
      rw [show (chV z).length = z.cps.size by unfold chV; simp]
      exact this
    · obtain ⟨c, u', e1, rfl⟩ := hj
      refine ⟨.str ⟨#[c]⟩, ?_, ⟨u', rfl⟩⟩
      unfold chV
      rw [List.getElem?_map, Array.getElem?_toList, e1]
      rfl
theorem SK.inj {X : Cx} {pins : List (Addr × Obj)} {σ : L2.St} {H : Hp} {s : Shared} (I : Inv X pins σ H s) : ∀ {k : SK} {xs ys : List V}, k.at X.K H xs → k.at X.K H ys → xs = ys
  | .l _, _, _, h, h' => I.list_inj h h'
  | .t _, _, _, h, h' => I.tuple_inj h h'
  | .s _, _, _, h, h' => Eq.trans h (Eq.symm h')
def IteK (K : PySem.W.Frag) (k : SK) : It :=
  ⟨fun i H => ∃ (xs : List V) (x : V), k.at K H xs ∧ xs[i]? = some x, fun i H v H' => ∃ T x, v = .ref T ∧ H T = none ∧ H' = upd H T (.tup [.int (i : Nat), x]) ∧ ∀ xs, k.at K H xs → xs[i]? = some x, fun i H => ∃ xs : List V, k.at K H xs ∧ xs.length = i⟩
theorem turn_enumK {P : Program} {w : World} {K : PySem.W.Frag} {elts : List Expr} {kk : Nat} {tpos : Pos} (k : SK) (e it : Addr) :
    Turn P w K (.Tuple elts kk tpos) (IteK K k) [e, it] e (fun i h => (∃ old, IsEnum h e it ((i : Nat) : Int) old) ∧ k.it it i h ∧ e ≠ it ∧ ∀ a, k.val = .ref a → a ≠ e) where
  mem := by simp
  obj := fun i h st b hb => by
    obtain ⟨⟨old, he⟩, hit, _⟩ := st
    have e' : b = e ∨ b = it := by simpa using hb
    rcases e' with z | z
    · rw [z]; exact ⟨_, he, fun v q => nomatch q⟩
    · rw [z]; exact SK.it_obj hit
  keep := fun i h h' st hk => let ⟨⟨old, he⟩, hi, hne⟩ := st; ⟨⟨old, hk e (by simp) _ he⟩, SK.it_keep (fun o q => hk it (by simp) o q) hi, hne⟩
  item := by
    intro X hP hw hK hc i pins s σ H E I hf st hg
    subst hP hw hK
    obtain ⟨⟨old, he⟩, hit, hne, hka⟩ := st
    obtain ⟨xs, x, hq, hx⟩ := hg
    have hel : e < s.heap.objs.size := Heap.lt_size he
    have hil : it < s.heap.objs.size := by obtain ⟨o, q, _⟩ := SK.it_obj hit; exact Heap.lt_size q
    obtain ⟨fp, Pp, St, D, st0, hP, hS, hn, hm⟩ := SK.draws (A := X.A.in1) I (show X.A.handled = none from I.ok.hd hc) hq hit
    have hlt : i < xs.length := (List.getElem?_eq_some_iff.mp hx).1
    have hef : e ∉ fp := hn e (by rw [he]; exact Option.some_ne_none _) hne hka
    refine wpAny_pyNext_enum_itemC D he st0 hlt hne hef fun u h' tk hPu ho hit' hT hsz hk => ?_
    obtain ⟨v0, e0, ru⟩ := hP i u hPu
    rw [hx] at e0; cases e0
    refine ⟨_, rfl, wpAny_letOwnedTupleGo_enum (s := { s with heap := h', toks := tk + 1 }) ho fun h'' he' sb => ?_⟩
    have hT2 : h''.get? s.heap.objs.size = some { cls := .type "tuple", data := .seq #[.int i tk, u] } := (sb.2 _ (Nat.ne_of_gt hel)).trans hT
    have new : ObjOk X.prog X.w (upd H s.heap.objs.size (.tup [.int (i : Nat), x])) h'' s.heap.objs.size (.tup [.int (i : Nat), x]) :=
      ⟨by show 2 ≤ sizeLine; decide, [.int i tk, u], .cons ⟨_, rfl⟩ (.cons ru .nil), ⟨_, hT2, rfl, _, rfl⟩⟩
    have I1 : Inv X pins σ (upd H s.heap.objs.size (.tup [.int (i : Nat), x])) { s with heap := h'', toks := tk + 1 } :=
      I.turnedNew (ch := [e, it]) (fun b ob hb q => (sb.2 b (fun z => hb (by simp [z]))).trans (hk b ob (fun z => hb (by simp [z])) (fun z => hb (by simp [z])) q)) hf (Nat.le_refl _) new
    refine ⟨.ref s.heap.objs.size, _, I1, rfl, ⟨_, x, rfl, I.hok.fresh (Nat.le_refl _), rfl, fun ys hy => by rw [SK.inj I hy hq]; exact hx⟩, ⟨⟨u, ?_⟩, SK.it_keep (fun o q => (sb.2 it (Ne.symm hne)).trans q) (hS _ _ hit'), hne, hka⟩, fun b hb => ?_⟩
    · have e1 : ((i + 1 : Nat) : Int) = (i : Int) + 1 := by omega
      rw [e1]; exact he'
    · have hb' : b < s.heap.objs.size := by
        have e' : b = e ∨ b = it := by simpa using hb
        rcases e' with z | z
        · rw [z]; exact hel
        · rw [z]; exact hil
      rw [upd_ne (Nat.ne_of_lt hb')]
      exact (hf b hb).1
  done := by
    intro X hP hw hK hc i pins s σ H E I hf st hg
    subst hP hw hK
    obtain ⟨⟨old, he⟩, hit, hne, hka⟩ := st
    obtain ⟨xs, hq, hx⟩ := hg
    obtain ⟨f0, f1, f2, f3, f4, f5⟩ := hf it (by simp)
    obtain ⟨fp, Pp, St, D, st0, hP, hS, hn, hm⟩ := SK.draws (A := X.A.in1) I (show X.A.handled = none from I.ok.hd hc) hq hit
    rw [hx] at D
    exact wpAny_pyNext_enum_endD D he st0 fun h' eb => ⟨rfl, I.turned (t' := s.toks) (fun b o hb q => eb b o hb q) f0 f1 f3 f4 f5⟩
  self := fun A i s Q E st h => let ⟨⟨_, he⟩, _⟩ := st; wpAny_pyIter_enum he h
theorem SK.lt {X : Cx} {pins : List (Addr × Obj)} {σ : L2.St} {H : Hp} {s : Shared} (I : Inv X pins σ H s) : ∀ {k : SK} {xs : List V}, k.at X.K H xs → ∀ a, k.val = .ref a → a < s.heap.objs.size
  | .l a, xs, hq, b, e => by
    cases e
    obtain ⟨its, rv, p, hz⟩ := I.list hq
    exact p.lt
  | .t a, xs, hq, b, e => by
    cases e
    obtain ⟨its, rv, p, hz⟩ := I.tuple hq
    obtain ⟨o, ho, _⟩ := id p
    exact Heap.lt_size ho
  | .s z, xs, hq, b, e => nomatch e
theorem SK.begins {X : Cx} {pins : List (Addr × Obj)} {σ : L2.St} {H : Hp} {s : Shared} (I : Inv X pins σ H s) {u : Value} : ∀ {k : SK} {xs : List V}, k.at X.K H xs → RelV k.val u →
    ∃ (o : Obj) (Hc : Heap → Prop), Begins u o Hc ∧ Hc s.heap ∧ ∀ (h' : Heap) (it : Addr), s.heap.objs.size ≤ it → h'.get? it = some o → k.it it 0 h'
  | .l a, xs, hq, r => by
    cases r
    have hlt := SK.lt I hq a rfl
    obtain ⟨its, rv, p, hz⟩ := I.list hq
    exact ⟨_, _, begins_list a its.toArray, p.isList, fun h' it hge e => ⟨⟨_, e, rfl, rfl⟩, Nat.ne_of_lt (Nat.lt_of_lt_of_le hlt hge)⟩⟩
  | .t a, xs, hq, r => by
    cases r
    have hlt := SK.lt I hq a rfl
    obtain ⟨its, rv, p, hz⟩ := I.tuple hq
    exact ⟨_, _, begins_tuple a its.toArray, p, fun h' it hge e => ⟨⟨_, e, rfl, rfl⟩, Nat.ne_of_lt (Nat.lt_of_lt_of_le hlt hge)⟩⟩
  | .s z, xs, hq, r => by
    obtain ⟨t, rfl⟩ := r
    exact ⟨_, _, begins_text z t, trivial, fun h' it hge e => ⟨t, _, e, rfl, rfl⟩⟩
def iEnumK (K : PySem.W.Frag) (ta : TA) : TI := fun σ H R => ta σ H fun vs H1 => ∃ (k : SK) (xs : List V), vs = [k.val] ∧ k.at K H1 xs ∧ R (IteK K k) H1
theorem pi_enumK {X : Cx} {e : Expr} {ta : TA} {p pos tpos : Pos} {elts : List Expr} {kk : Nat} (hg : Gl X "enumerate") (hm : X.mg "enumerate" = none) (ha : PA X [e] ta) (hs : starEach [e] X.env = [(false, eval e X.env)]) :
    PI X (.Tuple elts kk tpos) (.Call (.Name "enumerate" p) [e] [] pos) (iEnumK X.K ta) := by
  refine ⟨fun pins s σ H R I h => ?_⟩
  refine Call_ (ld_blt I hg hm boot_enumerate (PyProof.Rows.callWith_type1 (thn (ha.run pos pins s σ H _ I h) fun us s1 ⟨vs, H1, I1, r1, q1⟩ => ?_) hs rfl))
  obtain ⟨k, xs, ex, hq, q⟩ := q1
  subst ex
  cases r1 with
  | cons r rr =>
    cases rr
    obtain ⟨o, Hc, B, hc, hi⟩ := SK.begins I1 hq r
    have hlt := SK.lt I1 hq
    refine enum1_begins B hc fun h' he hit hsz hk => wpAny_pyIter_enum he ?_
    have I2 : Inv X pins σ H1 { s1 with heap := h' } := I1.kept (t' := s1.toks) hk
    refine ⟨s1.heap.objs.size + 1, [s1.heap.objs.size + 1, s1.heap.objs.size], _, _, H1, rfl, I2, turn_enumK k (s1.heap.objs.size + 1) s1.heap.objs.size, ⟨⟨.none, he⟩, hi h' _ (Nat.le_refl _) hit, Nat.succ_ne_self _, fun a ea => Nat.ne_of_lt (Nat.lt_succ_of_lt (hlt a ea))⟩, fun b hb => ?_, q⟩
    have e' : b = s1.heap.objs.size + 1 ∨ b = s1.heap.objs.size := by simpa using hb
    have hle : s1.heap.objs.size ≤ b := by
      rcases e' with z | z
      · rw [z]; exact Nat.le_add_right _ _
      · rw [z]; exact Nat.le_refl _
    exact I1.fpOk hle (I1.hok.fresh hle)
def ItK (K : PySem.W.Frag) : SK → It
  | .l a => Itl K a
  | .t a => Itt K a
  | .s z => Its z
def iSeq (K : PySem.W.Frag) (te : TE) : TI := fun σ H R => te σ H fun x H1 => ∃ (k : SK) (xs : List V), x = k.val ∧ k.at K H1 xs ∧ R (ItK K k) H1
theorem pi_seq {X : Cx} {tg e : Expr} {te : TE} (he : PE X e te) : PI X tg e (iSeq X.K te) := by
  refine ⟨fun pins s σ H R I h => ?_⟩
  refine thn (he.run pins s σ H _ I h) fun v s1 ⟨y, H1, I1, r1, k, xs, ex, hq, q⟩ => ?_
  subst ex
  cases k with
  | l a =>
    cases r1
    obtain ⟨its, rv, p, hz⟩ := I1.list hq
    refine wpAny_pyIter_list p.isList ?_
    refine ⟨s1.heap.objs.size, [s1.heap.objs.size], _, _, H1, rfl, I1.kept (t' := s1.toks) fun b o e => Heap.get?_push_of_some _ e, turn_list a _, ⟨_, Heap.get?_push_size _ rfl, rfl, rfl⟩, fun b hb => ?_, q⟩
    have e : b = s1.heap.objs.size := by simpa using hb
    subst e
    exact I1.fpOk (Nat.le_refl _) (I1.hok.fresh (Nat.le_refl _))
  | t a =>
    cases r1
    obtain ⟨its, rv, p, hz⟩ := I1.tuple hq
    refine wpAny_pyIter_tuple (show s1.heap.IsTuple a its.toArray from p) ?_
    refine ⟨s1.heap.objs.size, [s1.heap.objs.size], _, _, H1, rfl, I1.kept (t' := s1.toks) fun b o e => Heap.get?_push_of_some _ e, turn_tuple a _, ⟨_, Heap.get?_push_size _ rfl, rfl, rfl⟩, fun b hb => ?_, q⟩
    have e : b = s1.heap.objs.size := by simpa using hb
    subst e
    exact I1.fpOk (Nat.le_refl _) (I1.hok.fresh (Nat.le_refl _))
  | s x =>
    obtain ⟨t, rfl⟩ := r1
    cases ha : x.cps.all (· < 128)
    · exact wpAny_pyIter_wide ha (pi_one (tk := s1.toks) I1 _ (turn_str _ x t "str_iterator" (.inr rfl)) ⟨_, Heap.get?_push_size _ rfl, rfl, rfl⟩ q)
    · exact wpAny_pyIter_ascii ha (pi_one (tk := s1.toks) I1 _ (turn_str _ x t "str_ascii_iterator" (.inl rfl)) ⟨_, Heap.get?_push_size _ rfl, rfl, rfl⟩ q)
end DI
namespace DI
open PySem PySem.Spec PyProof.Rows L2
structure Wk (g : Gv) (Z : Addr → Prop) (fp : List Addr) (H : Hp) (J : It) (xs : List D) : Prop where
  go : ∀ H' i, Kp Z fp H H' → i < xs.length → J.go i H'
  stop : ∀ H', Kp Z fp H H' → J.stop xs.length H'
  yld : ∀ H' H'' i v x, Kp Z fp H H' → xs[i]? = some x → J.yld i H' v H'' → Same H' H'' ∧ Rep g Z H'' x v []
section
variable {X : Cx} {g : Gv} {W : L2.WX} {Z : Addr → Prop} {H : Hp} {fp : List Addr}
theorem reps_chars (z : List Nat) : Reps g Z H (z.map oneOf) (z.map fun c => V.str ⟨#[c]⟩) [] := by
  induction z with
  | nil => exact .nil
  | cons c r ih => exact .cons (f := []) (fs := []) (.str _) ih
theorem src_lst {o : Bool} {ys : List D} {v : V} {xs : List D} (r : Rep g Z H (.lst o ys) v fp) (e : itemsD (.lst o ys) = .ok xs) : ∃ a vs, v = .ref a ∧ (∀ H', Kp Z fp H H' → SqL g.K H' a vs) ∧ Reps g Z H xs vs [] := by
  have e : (if cleanL ys = true then R.ok ys else .bad) = .ok xs := e
  by_cases hc : cleanL ys = true
  · rw [if_pos hc] at e
    cases e
    cases r with
    | @lst a vs _ _ fs _ h hs w => exact ⟨a, vs, rfl, fun H' k => .inl (.inl (w.at k h nt_lst)), hs.to0 hc⟩
    | @lstR a vs _ h hs => exact ⟨a, vs, rfl, fun H' k => (sqF_keep k.frz h).sqL, hs⟩
  · rw [if_neg hc] at e; cases e
theorem src_tup {ys : List D} {v : V} {xs : List D} (r : Rep g Z H (.tup ys) v fp) (e : itemsD (.tup ys) = .ok xs) : ∃ a vs, v = .ref a ∧ (∀ H', Kp Z fp H H' → SqT g.K H' a vs) ∧ Reps g Z H xs vs [] := by
  have e : (if cleanL ys = true then R.ok ys else .bad) = .ok xs := e
  by_cases hc : cleanL ys = true
  · rw [if_pos hc] at e
    cases e
    obtain ⟨a, vs, rfl, h, hs⟩ := rep_tup r
    exact ⟨a, vs, rfl, fun H' k => sqT_keep k.tup h, hs.to0 hc⟩
  · rw [if_neg hc] at e; cases e
theorem src_of {d : D} {v : V} {xs : List D} (r : Rep g Z H d v fp) (e : itemsD d = .ok xs) : ∃ (k : SK) (vs : List V), v = k.val ∧ (∀ H', Kp Z fp H H' → k.at g.K H' vs) ∧ Reps g Z H xs vs [] := by
  cases d with
  | lst o ys =>
    obtain ⟨a, vs, rfl, h, hs⟩ := src_lst r e
    exact ⟨.l a, vs, rfl, h, hs⟩
  | tup ys =>
    obtain ⟨a, vs, rfl, h, hs⟩ := src_tup r e
    exact ⟨.t a, vs, rfl, h, hs⟩
  | str z =>
    have e : R.ok (z.cps.toList.map oneOf) = .ok xs := e
    cases e
    obtain ⟨rfl, _⟩ := rep_str r
    exact ⟨.s z, chV z, rfl, fun H' k => rfl, reps_chars _⟩
  | _ => cases e
theorem wk_seq {k : SK} {xs : List D} {vs : List V} (hk : ∀ H', Kp Z fp H H' → k.at g.K H' vs) (rs : Reps g Z H xs vs []) : Wk g Z fp H (ItK g.K k) xs := by
  have hl := rs.length
  refine ⟨fun H' i kp hi => ?_, fun H' kp => ?_, fun H' H'' i v x kp hx y => ?_⟩
  · obtain ⟨v, f, e, _⟩ := rs.get i xs[i] (List.getElem?_eq_getElem hi)
    have hat := hk H' kp
    cases k with
    | l a => exact ⟨vs, v, hat, e⟩
    | t a => exact ⟨vs, v, hat, e⟩
    | s z =>
      have hat : vs = chV z := hat
      subst hat
      have : (chV z).length = z.cps.size := by unfold chV; simp
      show i < z.cps.size
      omega
  · have hat := hk H' kp
    cases k with
    | l a => exact ⟨vs, hat, by omega⟩
    | t a => exact ⟨vs, hat, by omega⟩
    | s z =>
      have hat : vs = chV z := hat
      subst hat
      have : (chV z).length = z.cps.size := by unfold chV; simp
      show z.cps.size ≤ xs.length
      omega
  · have hat := hk H' kp
    obtain ⟨u, f, e, r, hf, _⟩ := rs.get i x hx
    have ef : f = [] := List.eq_nil_iff_forall_not_mem.mpr fun a ha => nomatch hf a ha
    subst ef
    have r2 := r.keep (fun _ z => z) kp.out
    cases k with
    | l a =>
      obtain ⟨rfl, q⟩ := y
      have e2 := q vs hat
      rw [e] at e2
      cases e2
      exact ⟨same_refl _, r2⟩
    | t a =>
      obtain ⟨rfl, q⟩ := y
      have e2 := q vs hat
      rw [e] at e2
      cases e2
      exact ⟨same_refl _, r2⟩
    | s z =>
      have hat : vs = chV z := hat
      subst hat
      obtain ⟨rfl, c, q, rfl⟩ := y
      unfold chV at e
      rw [List.getElem?_map, Array.getElem?_toList, q] at e
      cases e
      exact ⟨same_refl _, r2⟩
theorem enumL_length : ∀ (k : Nat) (xs : List D), (enumL k xs).length = xs.length
  | _, [] => rfl
  | k, x :: xs => by rw [enumL, List.length_cons, List.length_cons, enumL_length]
theorem enumL_get : ∀ (k : Nat) (xs : List D) (i : Nat), (enumL k xs)[i]? = xs[i]?.map fun x => .tup [.int ((k + i : Nat) : Int), x]
  | _, [], _ => rfl
  | k, x :: xs, 0 => rfl
  | k, x :: xs, i + 1 => by
    rw [enumL, List.getElem?_cons_succ, List.getElem?_cons_succ, enumL_get (k + 1) xs i, show k + 1 + i = k + (i + 1) by omega]
theorem wk_enum {k : SK} {xs : List D} {vs : List V} (hk : ∀ H', Kp Z fp H H' → k.at g.K H' vs) (rs : Reps g Z H xs vs []) : Wk g Z fp H (IteK g.K k) (enumL 0 xs) := by
  have hl := rs.length
  refine ⟨fun H' i kp hi => ?_, fun H' kp => ?_, fun H' H'' i v x kp hx y => ?_⟩
  · rw [enumL_length] at hi
    obtain ⟨v, f, e, _⟩ := rs.get i xs[i] (List.getElem?_eq_getElem hi)
    exact ⟨vs, v, hk H' kp, e⟩
  · exact ⟨vs, hk H' kp, by rw [enumL_length]; exact hl.symm⟩
  · rw [enumL_get, Nat.zero_add] at hx
    cases hx0 : xs[i]? with
    | none => rw [hx0] at hx; cases hx
    | some x0 =>
      rw [hx0] at hx
      cases hx
      obtain ⟨u, f, e, r, hf, _⟩ := rs.get i x0 hx0
      have ef : f = [] := List.eq_nil_iff_forall_not_mem.mpr fun a ha => nomatch hf a ha
      subst ef
      have r2 := r.keep (fun _ z => z) kp.out
      obtain ⟨T, y, rfl, nT, rfl, q⟩ := y
      have e2 := q vs (hk H' kp)
      rw [e] at e2
      cases e2
      have s := same_upd (o := .tup [.int (i : Nat), u]) nT
      refine ⟨s, .tup (.inl (.inl upd_same)) ?_⟩
      exact .cons (f := []) (fs := []) (.int _) (.cons (f := []) (fs := []) (r2.same (fun _ z => z) s) .nil)
theorem rngL_get (lo : Int) (n i : Nat) : (rngL lo n)[i]? = if i < n then some (.int (lo + (i : Int))) else none := by
  unfold rngL
  rw [List.getElem?_map]
  by_cases h : i < n
  · rw [List.getElem?_range h, if_pos h]; rfl
  · rw [List.getElem?_eq_none (by simp; omega), if_neg h]; rfl
theorem rngL_length (lo : Int) (n : Nat) : (rngL lo n).length = n := by unfold rngL; simp
theorem wk_rng (lo : Int) (n : Nat) : Wk g Z fp H (Itr lo n) (rngL lo n) := by
  refine ⟨fun H' i kp hi => ?_, fun H' kp => ?_, fun H' H'' i v x kp hx y => ?_⟩
  · rw [rngL_length] at hi; exact hi
  · rw [rngL_length]; exact Nat.le_refl n
  · obtain ⟨rfl, rfl⟩ := y
    rw [rngL_get] at hx
    by_cases h : i < n
    · rw [if_pos h] at hx; cases hx
      exact ⟨same_refl _, .int _⟩
    · rw [if_neg h] at hx; cases hx
def tIW (g : Gv) (W : L2.WX) (b : Bool) (f : Sl → R (List D)) : TI := fun σ H R => ∃ H0 Z fps σl, SR g H0 Z fps σl σ H ∧ Out g W Z σ H (f σl) fun xs => ∀ J H' Z' fp, Same H H' → Zx Z Z' H H' → Wk g Z' fp H' J xs → (∀ a ∈ fp, H' a ≠ none) → (b = true → ∀ a ∈ fp, H a = none ∧ ¬ Z' a) → R J H'
variable {e e2 tg : Expr} {f : Sl → R D} {b : Bool} {p pos tpos : Pos} {elts : List Expr} {kk : Nat}
theorem items_noerr (d : D) : ∀ c fs, itemsD d ≠ .err c fs := fun c fs e => by
  cases d with
  | lst o ys =>
    have e : (if cleanL ys = true then R.ok ys else .bad) = .err c fs := e
    by_cases hc : cleanL ys = true
    · rw [if_pos hc] at e; cases e
    · rw [if_neg hc] at e; cases e
  | tup ys =>
    have e : (if cleanL ys = true then R.ok ys else .bad) = .err c fs := e
    by_cases hc : cleanL ys = true
    · rw [if_pos hc] at e; cases e
    · rw [if_neg hc] at e; cases e
  | _ => cases e
theorem si_seq (G : Gof g X) (he : PE X e (tI g W b f)) : PI X tg e (tIW g W b fun σ => (f σ).bind itemsD) := (pi_seq he).imp fun σ H Q q => by
  obtain ⟨H0, Z, fps, σl, sr, o⟩ := q
  refine ⟨H0, Z, fps, σl, sr, o.bind.imp fun d h v H' Z' fp p => ?_⟩
  cases hi : itemsD d with
  | ok xs =>
    rw [hi] at h
    obtain ⟨k, vs, rfl, hk, rs⟩ := src_of p.rep hi
    rw [G.K]
    exact ⟨k, vs, rfl, hk H' (.of_same (same_refl H')), h _ H' Z' fp p.same p.zx (wk_seq hk rs) (Rep.there p.rep) fun e => (p.own e).2⟩
  | err c fs => exact absurd hi (items_noerr d c fs)
  | bad => rw [hi] at h; exact h.elim
def enumD : List D → R (List D)
  | [x] => (itemsD x).bind fun xs => .ok (enumL 0 xs)
  | _ => .bad
theorem si_enum (G : Gof g X) (hg : Gl X "enumerate") (hm : X.mg "enumerate" = none) (ha : PA X [e] (tIA g W b f)) (hs : starEach [e] X.env = [(false, eval e X.env)]) :
    PI X (.Tuple elts kk tpos) (.Call (.Name "enumerate" p) [e] [] pos) (tIW g W b fun σ => (f σ).bind fun r => (tupOf r).bind enumD) := (pi_enumK hg hm ha hs).imp fun σ H Q q => by
  obtain ⟨H0, Z, fps, σl, sr, o⟩ := q
  refine ⟨H0, Z, fps, σl, sr, o.bind.imp fun r h => ?_⟩
  cases r with
  | tup ds =>
    have h : Out g W Z σ H (enumD ds) _ := h
    refine ⟨ds, rfl, fun vs H' Z' fp p => ?_⟩
    cases ds with
    | nil => exact h.elim
    | cons x r' =>
      cases r' with
      | cons y r' => exact h.elim
      | nil =>
        have h : Out g W Z σ H ((itemsD x).bind fun xs => .ok (enumL 0 xs)) _ := h
        obtain ⟨xs, hi, h⟩ := h.bind.okOf (items_noerr x)
        obtain ⟨v, rfl, rx⟩ := reps1 p.rep
        obtain ⟨k, vs, rfl, hk, rs⟩ := src_of rx hi
        rw [G.K]
        exact ⟨k, vs, rfl, hk H' (.of_same (same_refl H')), h _ H' Z' fp p.same p.zx (wk_enum hk rs) (Reps.there p.rep) fun e => (p.own e).2⟩
  | _ => exact h.elim
noncomputable def rng1D : List D → R (List D)
  | [.int i] => if small62 i = true then .ok (rngL 0 i.toNat) else .bad
  | _ => .bad
noncomputable def rng2D : List D → R (List D)
  | [.int i, .int j] => if (small62 i && small62 j) = true then .ok (rngL i (j - i).toNat) else .bad
  | _ => .bad
theorem small62_iff {i : Int} (h : small62 i = true) : -(2 ^ 62) ≤ i ∧ i < 2 ^ 62 := by
  unfold small62 at h
  simp only [Bool.and_eq_true, decide_eq_true_eq, lim62_eq] at h
  exact h
theorem rng1_inv {σ : L2.St} {ds : List D} {P : List D → Prop} (h : Out g W Z σ H (rng1D ds) P) : ∃ i, ds = [.int i] ∧ small62 i = true ∧ P (rngL 0 i.toNat) := by
  unfold rng1D at h
  split at h
  · obtain ⟨hs, h⟩ := Out.guard h
    exact ⟨_, rfl, hs, h⟩
  · exact h.elim
theorem si_rng1 (hg : Gl X "range") (hm : X.mg "range" = none) (ha : PA X [e] (tIA g W b f)) (hs : starEach [e] X.env = [(false, eval e X.env)]) :
    PI X tg (.Call (.Name "range" p) [e] [] pos) (tIW g W true fun σ => (f σ).bind fun r => (tupOf r).bind rng1D) := (pi_range1 hg hm ha hs).imp fun σ H Q q => by
  obtain ⟨H0, Z, fps, σl, sr, o⟩ := q
  refine ⟨H0, Z, fps, σl, sr, o.bind.imp fun r h => ?_⟩
  cases r with
  | tup ds =>
    have h : Out g W Z σ H (rng1D ds) _ := h
    refine ⟨ds, rfl, fun vs H' Z' fp p => ?_⟩
    obtain ⟨i, rfl, hs, h⟩ := rng1_inv h
    obtain ⟨v, rfl, rx⟩ := reps1 p.rep
    obtain ⟨rfl, _⟩ := rep_int rx
    obtain ⟨h1, h2⟩ := small62_iff hs
    exact ⟨i, rfl, h1, h2, h _ H' Z' [] p.same p.zx (wk_rng 0 _) (fun a m => nomatch m) fun _ a m => nomatch m⟩
  | _ => exact h.elim
def zipD : List D → R (List D)
  | [.lst o xs, .lst o' ys] => (itemsD (.lst o xs)).bind fun xs => (itemsD (.lst o' ys)).bind fun ys => .ok (zipL xs ys)
  | [.tup xs, .tup ys] => (itemsD (.tup xs)).bind fun xs => (itemsD (.tup ys)).bind fun ys => .ok (zipL xs ys)
  | _ => .bad
end
end DI
namespace DI
open PySem PySem.Spec PyProof.Rows L2
theorem mem_set0 : ∀ {fps : List (List Addr)} {i : Nat} {a : Addr}, a ∈ (fps.set i []).flatten → a ∈ fps.flatten
  | [], _, _, h => h
  | f :: fs, 0, a, h => by
    rw [List.set_cons_zero, List.flatten_cons, List.nil_append] at h
    rw [List.flatten_cons]; exact List.mem_append_right _ h
  | f :: fs, i + 1, a, h => by
    rw [List.set_cons_succ, List.flatten_cons] at h
    rw [List.flatten_cons]
    rcases List.mem_append.mp h with h | h
    · exact List.mem_append_left _ h
    · exact List.mem_append_right _ (mem_set0 h)
theorem mem_set1 : ∀ {fps : List (List Addr)} {i : Nat} {fp : List Addr} {a : Addr}, a ∈ (fps.set i fp).flatten → a ∈ fp ∨ a ∈ (fps.set i []).flatten
  | [], _, _, _, h => nomatch h
  | f :: fs, 0, fp, a, h => by
    rw [List.set_cons_zero, List.flatten_cons] at h
    rw [List.set_cons_zero, List.flatten_cons, List.nil_append]
    exact List.mem_append.mp h
  | f :: fs, i + 1, fp, a, h => by
    rw [List.set_cons_succ, List.flatten_cons] at h
    rw [List.set_cons_succ, List.flatten_cons]
    rcases List.mem_append.mp h with h | h
    · exact .inr (List.mem_append_left _ h)
    · rcases mem_set1 h with h | h
      · exact .inl h
      · exact .inr (List.mem_append_right _ h)
theorem nd_set0 : ∀ {fps : List (List Addr)} {i : Nat}, fps.flatten.Nodup → (fps.set i []).flatten.Nodup
  | [], _, h => h
  | f :: fs, 0, h => by
    rw [List.flatten_cons] at h
    rw [List.set_cons_zero, List.flatten_cons, List.nil_append]
    exact (List.nodup_append.mp h).2.1
  | f :: fs, i + 1, h => by
    rw [List.flatten_cons] at h
    obtain ⟨h1, h2, h3⟩ := List.nodup_append.mp h
    rw [List.set_cons_succ, List.flatten_cons]
    exact List.nodup_append.mpr ⟨h1, nd_set0 h2, fun a ha b hb => h3 a ha b (mem_set0 hb)⟩
theorem nd_set1 : ∀ {fps : List (List Addr)} {i : Nat} {fp : List Addr}, (fps.set i []).flatten.Nodup → fp.Nodup → (∀ a ∈ fp, a ∉ (fps.set i []).flatten) → (fps.set i fp).flatten.Nodup
  | [], _, _, h, _, _ => h
  | f :: fs, 0, fp, h, hf, hd => by
    rw [List.set_cons_zero, List.flatten_cons, List.nil_append] at h hd
    rw [List.set_cons_zero, List.flatten_cons]
    exact List.nodup_append.mpr ⟨hf, h, fun a ha b hb e => hd a ha (by rw [e]; exact hb)⟩
  | f :: fs, i + 1, fp, h, hf, hd => by
    rw [List.set_cons_succ, List.flatten_cons] at h hd
    obtain ⟨h1, h2, h3⟩ := List.nodup_append.mp h
    rw [List.set_cons_succ, List.flatten_cons]
    refine List.nodup_append.mpr ⟨h1, nd_set1 h2 hf fun a ha q => hd a ha (List.mem_append_right _ q), fun a ha b hb e => ?_⟩
    rcases mem_set1 hb with q | q
    · exact hd b q (List.mem_append_left _ (by rw [← e]; exact ha))
    · exact h3 a ha b q e
theorem mem_at : ∀ {fps : List (List Addr)} {i : Nat} {fp : List Addr}, fps[i]? = some fp → ∀ a ∈ fp, a ∈ fps.flatten
  | [], _, _, e, _, _ => by simp at e
  | f :: fs, 0, fp, e, a, h => by
    simp at e; subst e
    rw [List.flatten_cons]; exact List.mem_append_left _ h
  | f :: fs, i + 1, fp, e, a, h => by
    rw [List.flatten_cons]; exact List.mem_append_right _ (mem_at (by simpa using e) a h)
theorem nd_at : ∀ {fps : List (List Addr)} {i : Nat} {fp : List Addr}, fps.flatten.Nodup → fps[i]? = some fp → fp.Nodup
  | [], _, _, _, e => by simp at e
  | f :: fs, 0, fp, h, e => by
    simp at e; subst e
    rw [List.flatten_cons] at h; exact (List.nodup_append.mp h).1
  | f :: fs, i + 1, fp, h, e => by
    rw [List.flatten_cons] at h; exact nd_at (List.nodup_append.mp h).2.1 (by simpa using e)
theorem mem_apart : ∀ {fps : List (List Addr)} {i : Nat} {fp : List Addr}, fps.flatten.Nodup → fps[i]? = some fp → ∀ a ∈ fp, a ∉ (fps.set i []).flatten
  | [], _, _, _, e, _, _ => by simp at e
  | f :: fs, 0, fp, h, e, a, ha => by
    simp at e; subst e
    rw [List.flatten_cons] at h
    rw [List.set_cons_zero, List.flatten_cons, List.nil_append]
    exact fun q => (List.nodup_append.mp h).2.2 a ha a q rfl
  | f :: fs, i + 1, fp, h, e, a, ha => by
    rw [List.flatten_cons] at h
    obtain ⟨h1, h2, h3⟩ := List.nodup_append.mp h
    have e' : fs[i]? = some fp := by simpa using e
    rw [List.set_cons_succ, List.flatten_cons]
    intro q
    rcases List.mem_append.mp q with q | q
    · exact h3 a q a (mem_at e' a ha) rfl
    · exact mem_apart h2 e' a ha q
theorem mem_other : ∀ {fps : List (List Addr)} {i j : Nat} {fp : List Addr}, fps[j]? = some fp → j ≠ i → ∀ a ∈ fp, a ∈ (fps.set i []).flatten := fun {fps i j fp} e ne a ha =>
  mem_at (i := j) (by rw [List.getElem?_set_ne (Ne.symm ne)]; exact e) a ha
def Owd (P : Program) (w : World) (a : Addr) (u : Option HO) : Prop := (∃ xs, u = some (.lst xs)) ∨ (∃ kv, u = some (.dK kv)) ∨ ∃ od xs, u = some (rawN P w a od xs)
section
variable {g : Gv} {W : L2.WX} {Z0 Z Z1 Z' : Addr → Prop} {H0 H H1 H' : Hp} {fps : List (List Addr)} {σl : Sl} {σ : L2.St}
mutual
theorem Rep.owd : ∀ {d : D} {v : V} {fp : List Addr}, Rep g Z H d v fp → ∀ a ∈ fp, Owd g.P g.w a (H a)
  | _, _, _, .non, _, h => nomatch h
  | _, _, _, .bl b, _, h => nomatch h
  | _, _, _, .int i, _, h => nomatch h
  | _, _, _, .str x, _, h => nomatch h
  | _, _, _, .tup _ hs, a, h => Reps.owd hs a h
  | _, _, _, .lst e hs w, a, h => by
    rcases w with ⟨_, q⟩ | ⟨_, _, q, _⟩
    · rw [q] at h
      rcases List.mem_cons.mp h with rfl | h
      · exact .inl ⟨_, e⟩
      · exact Reps.owd hs a h
    · rw [q] at h; cases h
  | _, _, _, .lstR h hs, _, h' => nomatch h'
  | _, _, _, .dK e _ hs w, a, h => by
    rcases w with ⟨_, q⟩ | ⟨_, _, q, _⟩
    · rw [q] at h
      rw [List.mem_singleton.mp h]; exact .inr (.inl ⟨_, e⟩)
    · rw [q] at h; cases h
  | _, _, _, .dN e _ _ _ hs w, a, h => by
    rcases w with ⟨_, q⟩ | ⟨_, _, q, _⟩
    · rw [q] at h
      rw [List.mem_singleton.mp h]; exact .inr (.inr ⟨_, _, e⟩)
    · rw [q] at h; cases h
  | _, _, _, .exc0 _, _, h' => nomatch h'
  | _, _, _, .excD _ _ _ _ _, _, h' => nomatch h'
  | _, _, _, .ins _ _ _ _ _, _, h' => nomatch h'
  | _, _, _, .box _ _ _ _ _, _, h' => nomatch h'
  | _, _, _, .opq _ _ _ _ _, _, h' => nomatch h'
theorem Reps.owd : ∀ {d : List D} {v : List V} {fp : List Addr}, Reps g Z H d v fp → ∀ a ∈ fp, Owd g.P g.w a (H a)
  | _, _, _, .nil, _, h => nomatch h
  | _, _, _, .cons r hs, a, h => by
    rcases List.mem_append.mp h with h | h
    · exact Rep.owd r a h
    · exact Reps.owd hs a h
end
def sayNm : Nat → Nat → Str := fun _ _ => ("sayer.<locals>.says_of" : Str)
def TabZ (Z : Addr → Prop) (H : Hp) (P : Addr) (nm : Nat → Nat → Str) : Prop := ∃ ps : Array Value, H P = some (.tbl ps) ∧ TriplesOk ps.toList ∧ ∀ (pos : Pos) (cv : Value), codeAmong pos ps.toList = some cv → ∃ c, cv = .ref c ∧ H c = some (LamX.CodeO c (nm pos.line pos.col)) ∧ Z c
theorem TabZ.same {P : Addr} {nm : Nat → Nat → Str} (h : TabZ Z H P nm) (s : Same H H') (le : ∀ a, Z a → Z' a) : TabZ Z' H' P nm := by
  obtain ⟨ps, h1, h2, h3⟩ := h
  exact ⟨ps, s _ _ h1, h2, fun pos cv hc => by obtain ⟨c, e1, e2, z⟩ := h3 pos cv hc; exact ⟨c, e1, s _ _ e2, le _ z⟩⟩
theorem tab_upd {P : Program} {w : World} {a P0 : Addr} {nm : Nat → Nat → Str} {u : HO} (ho : Owd P w a (H a)) (hz : ¬ Z a) (h : TabZ Z H P0 nm) : TabZ Z (upd H a u) P0 nm := by
  obtain ⟨ps, h1, h2, h3⟩ := h
  have ne1 : P0 ≠ a := fun e => by
    subst e
    rcases ho with ⟨_, q⟩ | ⟨_, q⟩ | ⟨_, _, q⟩ <;> (rw [h1] at q; cases q)
  refine ⟨ps, by rw [upd_ne ne1]; exact h1, h2, fun pos cv hc => ?_⟩
  obtain ⟨c, e1, e2, z⟩ := h3 pos cv hc
  exact ⟨c, e1, by rw [upd_ne (fun e => hz (by rw [← e]; exact z))]; exact e2, z⟩
theorem kp_upd {P : Program} {w : World} {fp : List Addr} {a : Addr} {u : HO} (ho : Owd P w a (H a)) (hz : ¬ Z a) (hf : a ∉ fp) : Kp Z fp H (upd H a u) where
  tup b vs h := by
    have ne : b ≠ a := fun e => by
      subst e
      rcases h with h | ⟨o, h⟩ <;> rcases ho with ⟨_, q⟩ | ⟨_, q⟩ | ⟨_, _, q⟩ <;> (rw [h] at q; cases q)
    rcases h with h | ⟨o, h⟩
    · exact .inl (by rw [upd_ne ne]; exact h)
    · exact .inr ⟨o, by rw [upd_ne ne]; exact h⟩
  frz b ob vs h := by
    have ne : b ≠ a := fun e => by
      subst e
      rcases ho with ⟨_, q⟩ | ⟨_, q⟩ | ⟨_, _, q⟩ <;> (rw [h] at q; cases q)
    rw [upd_ne ne]; exact h
  z b o hb h _ := by
    have ne : b ≠ a := fun e => hz (by rw [← e]; exact hb)
    rw [upd_ne ne]; exact h
  own b o hb h _ := by
    have ne : b ≠ a := fun e => hf (by rw [← e]; exact hb)
    rw [upd_ne ne]; exact h
  xd b fs h := by
    have ne : b ≠ a := fun e => by
      subst e
      rcases ho with ⟨_, q⟩ | ⟨_, q⟩ | ⟨_, _, q⟩ <;> (rw [h] at q; cases q)
    rw [upd_ne ne]; exact h
theorem Kp.trans {fp : List Addr} (le : ∀ a, Z a → Z1 a) (a : Kp Z fp H H1) (b : Kp Z1 fp H1 H') : Kp Z fp H H' :=
  ⟨fun x vs h => b.tup x vs (a.tup x vs h), fun x ob vs h => b.frz x ob vs (a.frz x ob vs h), fun x o hz h n => b.z x o (le x hz) (a.z x o hz h n) n, fun x o m h n => b.own x o m (a.own x o m h n) n, fun x fs h => b.xd x fs (a.xd x fs h)⟩
theorem same_updO {a : Addr} {u : HO} (s : Same H0 H) (h : H0 a = none) : Same H0 (upd H a u) := fun b x e => by
  rw [upd_ne (ne_of_none e h)]; exact s b x e
theorem upd_some {a b : Addr} {u : HO} (h : H b ≠ none) : upd H a u b ≠ none := fun e => by
  by_cases q : b = a
  · rw [q, upd_same] at e; cases e
  · rw [upd_ne q] at e; exact h e
theorem set_self {α : Type} {xs : List α} {i : Nat} {x : α} (e : xs[i]? = some x) : xs.set i x = xs := by
  apply List.ext_getElem?
  intro j
  by_cases h : i = j
  · subst h
    rw [List.getElem?_set_self (List.getElem?_eq_some_iff.mp e).1, e]
  · rw [List.getElem?_set_ne h]
theorem lt_of_get {α : Type} {xs : List α} {i : Nat} {x : α} (e : xs[i]? = some x) : i < xs.length := (List.getElem?_eq_some_iff.mp e).1
theorem owd_nt {P : Program} {w : World} {a : Addr} {o : HO} (h : Owd P w a (H a)) (e : H a = some o) : NT o := fun ps q => by
  subst q
  rcases h with ⟨_, q⟩ | ⟨_, q⟩ | ⟨_, _, q⟩ <;> (rw [e] at q; cases q)
theorem SR.owd (r : SR g H0 Z fps σl σ H) : ∀ a ∈ fps.flatten, Owd g.P g.w a (H a) := fun a ha => by
  obtain ⟨f, hf, hm⟩ := List.mem_flatten.mp ha
  obtain ⟨i, hi, e⟩ := List.mem_iff_getElem.mp hf
  have e1 : fps[i]? = some f := by rw [List.getElem?_eq_getElem hi, e]
  have hl : i < σl.length := by rw [r.len, ← r.lenf]; exact hi
  cases q : σl[i]? with
  | none => rw [List.getElem?_eq_getElem hl] at q; cases q
  | some o =>
    cases o with
    | none =>
      rw [r.gone i q] at e1; cases e1
      cases hm
    | some d =>
      obtain ⟨v, fp, _, e2, rp⟩ := r.slot i d q
      rw [e1] at e2; cases e2
      exact rp.owd a hm
theorem SR.put (r : SR g H0 Z fps σl σ H) {i : Nat} {d : D} {v : V} {fp : List Addr} (sm : Same H0 H') (le : ∀ a, Z a → Z' a) (inn : ∀ a, Z' a → H' a ≠ none) (kp : Kp Z (fps.set i []).flatten H H') (oth : ∀ a ∈ (fps.set i []).flatten, ¬ Z' a)
    (rp : Rep g Z' H' d v fp) (nf : fp.Nodup) (hf : ∀ a ∈ fp, a ∉ (fps.set i []).flatten ∧ ¬ Z' a ∧ H0 a = none) : SR g H0 Z' (fps.set i fp) (σl.set i (some d)) (σ.set i (some v)) H' where
  len := by rw [List.length_set, List.length_set, r.len]
  lenf := by rw [List.length_set, List.length_set, r.lenf]
  slot j d' e := by
    by_cases h : i = j
    · subst h
      have hl : i < σl.length := by have := lt_of_get e; rwa [List.length_set] at this
      rw [List.getElem?_set_self hl] at e
      cases e
      exact ⟨v, fp, List.getElem?_set_self (by rw [← r.len]; exact hl), List.getElem?_set_self (by rw [r.lenf, ← r.len]; exact hl), rp⟩
    · rw [List.getElem?_set_ne h] at e
      obtain ⟨v', fp', e1, e2, rp'⟩ := r.slot j d' e
      exact ⟨v', fp', by rw [List.getElem?_set_ne h]; exact e1, by rw [List.getElem?_set_ne h]; exact e2, rp'.keep le (kp.sub (mem_other e2 (Ne.symm h)))⟩
  gone j e := by
    by_cases h : i = j
    · subst h
      have hl : i < σl.length := by have := lt_of_get e; rwa [List.length_set] at this
      rw [List.getElem?_set_self hl] at e
      cases e
    · rw [List.getElem?_set_ne h] at e ⊢
      exact r.gone j e
  nd := nd_set1 (nd_set0 r.nd) nf fun a ha => (hf a ha).1
  own a ha := by
    rcases mem_set1 ha with q | q
    · exact ⟨(hf a q).2.1, (hf a q).2.2, Rep.there rp a q⟩
    · obtain ⟨_, h2, h3⟩ := r.own a (mem_set0 q)
      refine ⟨oth a q, h2, ?_⟩
      cases e : H a with
      | none => exact absurd e h3
      | some o => rw [kp.own a o q e (owd_nt (r.owd a (mem_set0 q)) e)]; exact Option.some_ne_none _
  z := inn
  same := sm
theorem SR.drop (r : SR g H0 Z fps σl σ H) (i : Nat) (sm : Same H0 H') (le : ∀ a, Z a → Z' a) (inn : ∀ a, Z' a → H' a ≠ none) (kp : Kp Z (fps.set i []).flatten H H') (oth : ∀ a ∈ (fps.set i []).flatten, ¬ Z' a) : SR g H0 Z' (fps.set i []) (σl.set i none) σ H' where
  len := by rw [List.length_set, r.len]
  lenf := by rw [List.length_set, r.lenf]
  slot j d' e := by
    by_cases h : i = j
    · subst h
      have hl : i < σl.length := by have := lt_of_get e; rwa [List.length_set] at this
      rw [List.getElem?_set_self hl] at e
      cases e
    · rw [List.getElem?_set_ne h] at e
      obtain ⟨v', fp', e1, e2, rp'⟩ := r.slot j d' e
      exact ⟨v', fp', e1, by rw [List.getElem?_set_ne h]; exact e2, rp'.keep le (kp.sub (mem_other e2 (Ne.symm h)))⟩
  gone j e := by
    by_cases h : i = j
    · subst h
      have hl : i < σl.length := by have := lt_of_get e; rwa [List.length_set] at this
      exact List.getElem?_set_self (by rw [r.lenf, ← r.len]; exact hl)
    · rw [List.getElem?_set_ne h] at e ⊢
      exact r.gone j e
  nd := nd_set0 r.nd
  own a q := by
    obtain ⟨_, h2, h3⟩ := r.own a (mem_set0 q)
    refine ⟨oth a q, h2, ?_⟩
    cases e : H a with
    | none => exact absurd e h3
    | some o => rw [kp.own a o q e (owd_nt (r.owd a (mem_set0 q)) e)]; exact Option.some_ne_none _
  z := inn
  same := sm
theorem SR.bind (r : SR g H0 Z fps σl σ H) (i : Nat) {d : D} {v : V} {fp : List Addr} (p : PostE g true Z Z' H H' d v fp) : SR g H0 Z' (fps.set i fp) (σl.set i (some d)) (σ.set i (some v)) H' := by
  have r1 := r.step p.same p.zx
  obtain ⟨n, o⟩ := p.own rfl
  refine r1.put r1.same (fun _ z => z) r1.z (.of_same (same_refl _)) (fun a ha => (r1.own a (mem_set0 ha)).1) p.rep n fun a ha => ⟨fun q => ?_, (o a ha).2, same_none r.same (o a ha).1⟩
  exact (r.own a (mem_set0 q)).2.2 (o a ha).1
theorem SR.bind0 (r : SR g H0 Z fps σl σ H) (i : Nat) {d : D} {v : V} (p : Rep g Z H d v []) : SR g H0 Z (fps.set i []) (σl.set i (some d)) (σ.set i (some v)) H :=
  r.put r.same (fun _ z => z) r.z (.of_same (same_refl _)) (fun a ha => (r.own a (mem_set0 ha)).1) p List.nodup_nil fun a ha => nomatch ha
structure Gh (g : Gv) (H0 : Hp) (Z : Addr → Prop) (σ : L2.St) (H : Hp) : Prop where
  pin : ∀ a, g.pin = some a → σ[0]? = some (some (.ref a))
  tab : ∀ p, g.tab = some p → TabZ Z H p.1 sayNm
  t0 : ∀ p, g.tab = some p → ∀ b ps, H0 b ≠ some (.tbl ps)
def Np (g : Gv) (i : Nat) : Prop := g.pin = none ∨ i ≠ 0
theorem Gh.same (h : Gh g H0 Z σ H) (s : Same H H') (le : ∀ a, Z a → Z' a) : Gh g H0 Z' σ H' := ⟨h.pin, fun p e => (h.tab p e).same s le, h.t0⟩
theorem Gh.set {i : Nat} {x : Option V} (h : Gh g H0 Z σ H) (np : Np g i) : Gh g H0 Z (σ.set i x) H := ⟨fun a e => by
  rcases np with n | n
  · rw [n] at e; cases e
  · rw [List.getElem?_set_ne n]; exact h.pin a e, h.tab, h.t0⟩
structure SS (g : Gv) (H0 : Hp) (Z0 Z : Addr → Prop) (fps : List (List Addr)) (σl : Sl) (σ : L2.St) (H : Hp) : Prop where
  sr : SR g H0 Z fps σl σ H
  z0 : ∀ a, Z0 a → Z a
  zn : ∀ a, Z a → Z0 a ∨ H0 a = none
  gh : Gh g H0 Z σ H
theorem SS.step (r : SS g H0 Z0 Z fps σl σ H) (s : Same H H1) (z : Zx Z Z1 H H1) : SS g H0 Z0 Z1 fps σl σ H1 :=
  ⟨r.sr.step s z, fun a h => z.le a (r.z0 a h), fun a h => by
    rcases z.new a h with q | q
    · exact r.zn a q
    · exact .inr (same_none r.sr.same q), r.gh.same s z.le⟩
theorem SS.bind (r : SS g H0 Z0 Z fps σl σ H) (i : Nat) (np : Np g i) {d : D} {v : V} {fp : List Addr} (p : PostE g true Z Z' H H' d v fp) : SS g H0 Z0 Z' (fps.set i fp) (σl.set i (some d)) (σ.set i (some v)) H' :=
  ⟨r.sr.bind i p, (r.step p.same p.zx).z0, (r.step p.same p.zx).zn, (r.gh.same p.same p.zx.le).set np⟩
structure Ev (t : Option (Addr × (Nat → Nat → Str))) (Z Z' : Addr → Prop) (H H' : Hp) : Prop where
  le : ∀ a, Z a → Z' a
  kp : Kp Z [] H H'
  tab : ∀ p, t = some p → TabZ Z H p.1 sayNm → TabZ Z' H' p.1 sayNm
theorem Ev.refl {t : Option (Addr × (Nat → Nat → Str))} : Ev t Z Z H H := ⟨fun _ z => z, .of_same (same_refl H), fun _ _ t => t⟩
theorem Ev.trans {t : Option (Addr × (Nat → Nat → Str))} (a : Ev t Z Z1 H H1) (b : Ev t Z1 Z' H1 H') : Ev t Z Z' H H' := ⟨fun x z => b.le x (a.le x z), a.kp.trans a.le b.kp, fun p e t => b.tab p e (a.tab p e t)⟩
theorem Ev.of_zx {t : Option (Addr × (Nat → Nat → Str))} (s : Same H H') (z : Zx Z Z' H H') : Ev t Z Z' H H' := ⟨z.le, .of_same s, fun _ _ t => t.same s z.le⟩
theorem Ev.upd {t : Option (Addr × (Nat → Nat → Str))} {P : Program} {w : World} {a : Addr} {u : HO} (ho : Owd P w a (H a)) (hz : ¬ Z a) : Ev t Z Z H (upd H a u) := ⟨fun _ z => z, kp_upd ho hz (fun h => nomatch h), fun _ _ t => tab_upd ho hz t⟩
theorem Gh.ev (h : Gh g H0 Z σ H) (e : Ev g.tab Z Z' H H') : Gh g H0 Z' σ H' := ⟨h.pin, fun p q => e.tab p q (h.tab p q), h.t0⟩
inductive RS where
  | nx (σ : Sl) | rt (d : D) | bk (σ : Sl) | ct (σ : Sl) | er (c : Nat) (fs : List D) (σ : Sl) | bad
abbrev SF := Sl → RS
structure PostM (g : Gv) (a : Addr) (Z Z' : Addr → Prop) (H H' : Hp) (d o : D) (v : V) (fp fpo : List Addr) : Prop where
  same : Same H H'
  zx : Zx Z Z' H H'
  rep : Rep g Z' H' d v fp
  repo : Rep g Z' H' o (.ref a) fpo
  nd : (fp ++ fpo).Nodup
  own : ∀ x ∈ fp ++ fpo, H x = none ∧ ¬ Z' x
structure RtOk (g : Gv) (Z0 : Addr → Prop) (H0 : Hp) (rt : VK) (d : D) : Prop where
  n : g.pin = none → ∀ v H' Z' fp, PostE g true Z0 Z' H0 H' d v fp → (∀ p, g.tab = some p → TabZ Z' H' p.1 sayNm) → rt v H'
  m : ∀ a, g.pin = some a → ∃ d1 o, d = .tup [d1, o] ∧ ∀ v H' Z' fp fpo, PostM g a Z0 Z' H0 H' d1 o v fp fpo → rt v H'
theorem RtOk.of (hp : g.pin = none) {rt : VK} {d : D} (h : ∀ v H' Z' fp, PostE g true Z0 Z' H0 H' d v fp → (∀ p, g.tab = some p → TabZ Z' H' p.1 sayNm) → rt v H') : RtOk g Z0 H0 rt d := ⟨fun _ => h, fun a e => by rw [hp] at e; cases e⟩
def OutS (g : Gv) (W : L2.WX) (H0 : Hp) (Z0 Z : Addr → Prop) (H : Hp) (E : Ends) : RS → Prop
  | .nx σl => ∀ σ' H' Z' fps', SS g H0 Z0 Z' fps' σl σ' H' → Ev g.tab Z Z' H H' → E.nx σ' H'
  | .rt d => RtOk g Z0 H0 E.rt d
  | .bk σl => ∀ σ' H' Z' fps', SS g H0 Z0 Z' fps' σl σ' H' → Ev g.tab Z Z' H H' → E.bk σ' H'
  | .ct σl => ∀ σ' H' Z' fps', SS g H0 Z0 Z' fps' σl σ' H' → Ev g.tab Z Z' H H' → E.ct σ' H'
  | .er c fs σl => ∀ σ' H' Z' fps' cls d, SS g H0 Z0 Z' fps' σl σ' H' → Ev g.tab Z Z' H H' → ExR g c fs cls d H' → W cls d σ' H'
  | .bad => False
def tS (g : Gv) (W : L2.WX) (f : SF) : TS := fun E σ H => ∃ H0 Z0 Z fps σl, SS g H0 Z0 Z fps σl σ H ∧ OutS g W H0 Z0 Z H E (f σl)
theorem OutS.pre {E : Ends} {r : RS} (e : Ev g.tab Z Z1 H H1) (o : OutS g W H0 Z0 Z H E r) : OutS g W H0 Z0 Z1 H1 E r := by
  cases r with
  | nx σl => exact fun σ' H' Z' fps' s e' => o σ' H' Z' fps' s (e.trans e')
  | rt d => exact o
  | bk σl => exact fun σ' H' Z' fps' s e' => o σ' H' Z' fps' s (e.trans e')
  | ct σl => exact fun σ' H' Z' fps' s e' => o σ' H' Z' fps' s (e.trans e')
  | er c fs σl => exact fun σ' H' Z' fps' cls d s e' => o σ' H' Z' fps' cls d s (e.trans e')
  | bad => exact o
def rS {α : Type} (r : R α) (σ : Sl) (k : α → RS) : RS :=
  match r with
  | .ok a => k a
  | .err c fs => .er c fs σ
  | .bad => .bad
theorem OutS.rS {α : Type} {E : Ends} {r : R α} {k : α → RS} (ss : SS g H0 Z0 Z fps σl σ H) (o : OutS g W H0 Z0 Z H E (DI.rS r σl k)) : Out g W Z σ H r fun a => OutS g W H0 Z0 Z H E (k a) := by
  cases r with
  | ok a => exact o
  | err c fs => exact fun H' Z' cls d s z e => o σ H' Z' fps cls d (ss.step s z) (.of_zx s z) e
  | bad => exact o
theorem OutS.guard {E : Ends} {c : Prop} [Decidable c] {r : RS} (h : OutS g W H0 Z0 Z H E (if c then r else .bad)) : c ∧ OutS g W H0 Z0 Z H E r := by
  by_cases hc : c
  · rw [if_pos hc] at h; exact ⟨hc, h⟩
  · rw [if_neg hc] at h; exact h.elim
def sSkip : SF := .nx
def RS.andThen (r : RS) (k : SF) : RS :=
  match r with
  | .nx σ' => k σ'
  | r => r
def sSeq (f k : SF) : SF := fun σ => (f σ).andThen k
def sSet (i : Nat) (f : Sl → R D) : SF := fun σ => rS (f σ) σ fun d => .nx (σ.set i (some d))
def cond (d : D) (r s : RS) : RS :=
  match d with
  | .bl b => if b = true then r else s
  | _ => .bad
def sIf (c : Sl → R D) (f k : SF) : SF := fun σ => rS (c σ) σ fun d => cond d (f σ) (k σ)
def sRet (f : Sl → R D) : SF := fun σ => rS (f σ) σ .rt
def sRetV (i : Nat) : SF := fun σ => rS (getS σ i) σ .rt
def sRetN : SF := fun _ => .rt .non
def sBrk : SF := .bk
def sCnt : SF := .ct
def sFz (i : Nat) (k : SF) : SF := fun σ => rS (getS σ i) σ fun d => k (σ.set i (some (frz d)))
def sDrop (f : Sl → R D) : SF := fun σ => rS (f σ) σ fun _ => .nx σ
def sUnp (p : Pat) (f : Sl → R D) : SF := fun σ => rS (f σ) σ fun d => if clean d = true then rS (bindP σ p d) σ .nx else .bad
def lstOf : D → R (List D)
  | .lst true xs => .ok xs
  | _ => .bad
def sApp (i : Nat) (f : Sl → R D) : SF := fun σ => rS ((getS σ i).bind lstOf) σ fun xs => rS (f σ) σ fun y => if xs.length < sizeLine then .nx (σ.set i (some (.lst true (xs ++ [y])))) else .bad
def lp (c : Sl → R D) (f : SF) : Nat → SF
  | 0, _ => .bad
  | n + 1, σ => rS (c σ) σ fun d =>
    match d with
    | .bl b => if b = true then (match f σ with
      | .nx σ' => lp c f n σ'
      | .ct σ' => lp c f n σ'
      | .bk σ' => .nx σ'
      | r => r) else .nx σ
    | _ => .bad
def fr (p : Pat) (f : SF) : List D → SF
  | [], σ => .nx σ
  | x :: xs, σ => rS (bindP σ p x) σ fun σ1 =>
    match f σ1 with
    | .nx σ' => fr p f xs σ'
    | .ct σ' => fr p f xs σ'
    | .bk σ' => .nx σ'
    | r => r
def sFor (p : Pat) (src : Sl → R (List D)) (f : SF) : SF := fun σ => rS (src σ) σ fun xs => fr p f xs σ
end
section
variable {X : Cx} {g : Gv} {W : L2.WX} {st : Stmt} {sts : List Stmt} {e a : Expr} {fe fc : Sl → R D} {f k : SF} {pos : Pos} {b : Bool} {i : Nat}
theorem ss_nil : PSs X [] (tS g W sSkip) := pss_nil.imp fun E σ H q => by
  obtain ⟨H0, Z0, Z, fps, σl, ss, o⟩ := q
  exact o σ H Z fps ss .refl
theorem ss_cons (h1 : PS X st (tS g W f)) (h2 : PSs X sts (tS g W k)) : PSs X (st :: sts) (tS g W (sSeq f k)) := (pss_cons h1 h2).imp fun E σ H q => by
  obtain ⟨H0, Z0, Z, fps, σl, ss, o⟩ := q
  refine ⟨H0, Z0, Z, fps, σl, ss, ?_⟩
  have o : OutS g W H0 Z0 Z H E ((f σl).andThen k) := o
  cases h : f σl with
  | nx σl1 => rw [h] at o; exact fun σ' H' Z' fps' s e => ⟨H0, Z0, Z', fps', σl1, s, o.pre e⟩
  | rt d => rw [h] at o; exact o
  | bk σl => rw [h] at o; exact o
  | ct σl => rw [h] at o; exact o
  | er c fs σl => rw [h] at o; exact o
  | bad => rw [h] at o; exact o
theorem ss_one (h1 : PS X st (tS g W f)) : PSs X [st] (tS g W f) := pss_one h1
theorem ss_set {x : Str} {pos' : Pos} (hN : X.N.Nodup) (hi : X.N[i]? = some x) (hx : Loc X.env.scope x) (he : PE X e (tI g W true fe)) (hs : swapsWith e (some (.Name x pos')) pos.line X.env = pure false) (hf : X.fn x = true ∨ X.env.scope.names.lookup x = some .local) (np : Np g i) :
    PS X (.Assign [.Name x pos'] e pos) (tS g W (sSet i fe)) := (ps_set hN hi hx he hs hf).imp fun E σ H q => by
  obtain ⟨H0, Z0, Z, fps, σl, ss, o⟩ := q
  refine ⟨H0, Z, fps, σl, ss.sr, (OutS.rS ss o).imp fun d o v H' Z' fp p => ?_⟩
  exact o _ H' Z' _ (ss.bind i np p) (.of_zx p.same p.zx)
theorem ss_if {c : Expr} {p q : List Stmt} (hc : PT X c (tIT g W fc)) (ha : PSs X p (tS g W f)) (hb : PSs X q (tS g W k)) : PS X (.If c p q pos) (tS g W (sIf fc f k)) := (ps_if hc ha hb).imp fun E σ H q => by
  obtain ⟨H0, Z0, Z, fps, σl, ss, o⟩ := q
  refine ⟨H0, Z, fps, σl, ss.sr, (OutS.rS ss o).imp fun d o => ?_⟩
  cases d with
  | bl b =>
    refine ⟨b, rfl, fun H' Z' s z => ?_⟩
    cases b with
    | true => exact ⟨H0, Z0, Z', fps, σl, ss.step s z, OutS.pre (.of_zx s z) o⟩
    | false => exact ⟨H0, Z0, Z', fps, σl, ss.step s z, OutS.pre (.of_zx s z) o⟩
  | _ => exact o.elim
theorem SS.ret {Z0 Z Z' : Addr → Prop} {H0 H H' : Hp} {fps : List (List Addr)} {σl : Sl} {σ : L2.St} {d : D} {v : V} {fp : List Addr} (ss : SS g H0 Z0 Z fps σl σ H) (p : PostE g true Z Z' H H' d v fp) : PostE g true Z0 Z' H0 H' d v fp := by
  refine ⟨same_trans ss.sr.same p.same, ⟨fun a z => p.zx.le a (ss.z0 a z), fun a z => ?_, p.zx.inn⟩, p.rep, fun _ => ⟨(p.own rfl).1, fun a ha => ⟨same_none ss.sr.same ((p.own rfl).2 a ha).1, ((p.own rfl).2 a ha).2⟩⟩⟩
  exact (ss.step p.same p.zx).zn a z
theorem ss_ret (he : PE X e (tI g W true fe)) (hp : g.pin = none) : PS X (.Return (some e) pos) (tS g W (sRet fe)) := (ps_ret he).imp fun E σ H q => by
  obtain ⟨H0, Z0, Z, fps, σl, ss, o⟩ := q
  exact ⟨H0, Z, fps, σl, ss.sr, (OutS.rS ss o).imp fun d o v H' Z' fp p => RtOk.n o hp v H' Z' fp (ss.ret p) (ss.step p.same p.zx).gh.tab⟩
theorem getS_ok {σl : Sl} {d : D} (h : getS σl i = .ok d) : σl[i]? = some (some d) := by
  unfold getS at h
  split at h
  · cases h; assumption
  · cases h
theorem getS_err {σl : Sl} {c : Nat} {fs : List D} : getS σl i ≠ .err c fs := fun h => by
  unfold getS at h
  split at h <;> cases h
theorem ss_retV {x : Str} {p : Pos} (hN : X.N[i]? = some x) (hv : Vis X.env.scope x) (hd : (x == ("__debug__" : Str)) = false) (hcd : (x == ("__classdict__" : Str)) = false) (hp : g.pin = none) : PS X (.Return (some (.Name x p)) pos) (tS g W (sRetV i)) := (ps_ret (pe_var hN hv hd hcd)).imp fun E σ H q => by
  obtain ⟨H0, Z0, Z, fps, σl, ss, o⟩ := q
  obtain ⟨d, e, o⟩ := (OutS.rS ss o).okOf fun c fs => getS_err
  obtain ⟨v, fp, e1, e2, rp⟩ := ss.sr.slot i d (getS_ok e)
  refine ⟨v, e1, RtOk.n o hp v H Z fp ⟨ss.sr.same, ⟨ss.z0, ss.zn, ss.sr.z⟩, rp, fun _ => ⟨nd_at ss.sr.nd e2, fun a ha => ?_⟩⟩ ss.gh.tab⟩
  obtain ⟨h1, h2, _⟩ := ss.sr.own a (mem_at e2 a ha)
  exact ⟨h2, h1⟩
theorem ss_drop (he : PE X e (tI g W b fe)) (hs : swapsWith e none pos.line X.env = pure false) : PS X (.Expr e pos) (tS g W (sDrop fe)) := (ps_expr he hs).imp fun E σ H q => by
  obtain ⟨H0, Z0, Z, fps, σl, ss, o⟩ := q
  refine ⟨H0, Z, fps, σl, ss.sr, (OutS.rS ss o).imp fun d o v H' Z' fp p => ?_⟩
  exact o σ H' Z' fps (ss.step p.same p.zx) (.of_zx p.same p.zx)
theorem ss_fz (h : PSs X sts (tS g W k)) : PSs X sts (tS g W (sFz i k)) := h.imp fun E σ H q => by
  obtain ⟨H0, Z0, Z, fps, σl, ss, o⟩ := q
  obtain ⟨d, e, o⟩ := (OutS.rS ss o).okOf fun c fs => getS_err
  obtain ⟨v, fp, e1, e2, rp⟩ := ss.sr.slot i d (getS_ok e)
  have own := fun a ha => ss.sr.own a (mem_at e2 a ha)
  have r2 : SR g H0 (fun a => Z a ∨ a ∈ fp) (fps.set i []) (σl.set i (some (frz d))) (σ.set i (some v)) H :=
    ss.sr.put ss.sr.same (fun a z => .inl z) (fun a z => by
      rcases z with z | m
      · exact ss.sr.z a z
      · exact (own a m).2.2) (.of_same (same_refl H)) (fun a ha q => by
      rcases q with z | m
      · exact (ss.sr.own a (mem_set0 ha)).1 z
      · exact mem_apart ss.sr.nd e2 a m ha) (rp.frz (fun a z => .inl z) fun a m => .inr m) List.nodup_nil fun a ha => nomatch ha
  rw [set_self e1] at r2
  refine ⟨H0, Z0, fun a => Z a ∨ a ∈ fp, _, _, ⟨r2, fun a z => .inl (ss.z0 a z), fun a z => ?_, ss.gh.same (same_refl H) fun a z => .inl z⟩, OutS.pre ⟨fun a z => .inl z, .of_same (same_refl H), fun _ _ t => t.same (same_refl H) fun a z => .inl z⟩ o⟩
  rcases z with z | m
  · exact ss.zn a z
  · exact .inr (own a m).2.1
end
end DI
namespace DI
open PySem PySem.Spec PyProof.Rows L2
theorem _root_.L2.PG.imp {X : Cx} {e : Expr} {t t' : TG} (h : PG X e t) (hi : ∀ v σ H Q, t' v σ H Q → t v σ H Q) : PG X e t' := ⟨fun pins s σ H v u Q I r q => h.run pins s σ H v u Q I r (hi _ _ _ _ q)⟩
theorem _root_.L2.PGs.imp {X : Cx} {e : List Expr} {t t' : TGs} (h : PGs X e t) (hi : ∀ v σ H Q, t' v σ H Q → t v σ H Q) : PGs X e t' := ⟨fun pins s σ H v u Q I r q => h.run pins s σ H v u Q I r (hi _ _ _ _ q)⟩
section
variable {X : Cx} {g : Gv} {W : L2.WX} {e a : Expr} {es : List Expr} {fe fc : Sl → R D} {f k : SF} {pos : Pos} {b : Bool} {i : Nat} {is : List Nat}
def psl : Pat → List Nat
  | .one i => [i]
  | .many is => is
  | .two i js => i :: js
theorem wipe_get {σ : L2.St} {j : Nat} : ∀ {vs : List Nat}, (wipe σ vs)[j]? = if j ∈ vs ∧ j < σ.length then some none else σ[j]?
  | [] => by simp [wipe]
  | v :: vs => by
    show ((wipe σ vs).set v none)[j]? = _
    by_cases h : v = j
    · subst h
      by_cases hl : v < σ.length
      · rw [List.getElem?_set_self (by rw [wipe_length]; exact hl), if_pos ⟨List.mem_cons_self, hl⟩]
      · rw [List.getElem?_eq_none (by rw [List.length_set, wipe_length]; omega), if_neg (fun q => hl q.2), List.getElem?_eq_none (by omega)]
    · rw [List.getElem?_set_ne h, wipe_get]
      by_cases hm : j ∈ vs ∧ j < σ.length
      · rw [if_pos hm, if_pos ⟨List.mem_cons_of_mem _ hm.1, hm.2⟩]
      · rw [if_neg hm, if_neg (fun q => hm ⟨by
          rcases List.mem_cons.mp q.1 with e | e
          · exact absurd e.symm h
          · exact e, q.2⟩)]
theorem wipe_set {σ : L2.St} {i : Nat} {x : Option V} {vs : List Nat} (h : i ∈ vs) : wipe (σ.set i x) vs = wipe σ vs := by
  apply List.ext_getElem?
  intro j
  rw [wipe_get, wipe_get, List.length_set]
  by_cases hm : j ∈ vs ∧ j < σ.length
  · rw [if_pos hm, if_pos hm]
  · rw [if_neg hm, if_neg hm]
    by_cases e : i = j
    · subst e
      have hl : ¬ i < σ.length := fun q => hm ⟨h, q⟩
      rw [List.getElem?_eq_none (by rw [List.length_set]; omega), List.getElem?_eq_none (by omega)]
    · rw [List.getElem?_set_ne e]
theorem wipe_wipe {σ : L2.St} {vs : List Nat} : wipe (wipe σ vs) vs = wipe σ vs := by
  apply List.ext_getElem?
  intro j
  rw [wipe_get, wipe_length]
  by_cases hm : j ∈ vs ∧ j < σ.length
  · rw [if_pos hm, wipe_get, if_pos hm]
  · rw [if_neg hm]
def Wa (is : List Nat) (σ σ' : L2.St) : Prop := ∀ vs : List Nat, (∀ j ∈ is, j ∈ vs) → wipe σ' vs = wipe σ vs
def tG (g : Gv) (p : Pat) : TG := fun v σ H Q => ∃ H0 Z fps σl x σl', SR g H0 Z fps σl σ H ∧ Rep g Z H x v [] ∧ bindP σl p x = .ok σl' ∧ ∀ σ' fps', SR g H0 Z fps' σl' σ' H → Wa (psl p) σ σ' → Q σ' H
def tGs (g : Gv) (is : List Nat) : TGs := fun vs σ H Q => ∃ H0 Z fps σl xs σl', SR g H0 Z fps σl σ H ∧ Reps g Z H xs vs [] ∧ putAll σl is xs = .ok σl' ∧ ∀ σ' fps', SR g H0 Z fps' σl' σ' H → Wa is σ σ' → Q σ' H
theorem sg_one {x : Str} (hN : X.N.Nodup) (hi : X.N[i]? = some x) (hx : Loc X.env.scope x) (hf : X.fn x = true ∨ X.env.scope.names.lookup x = some .local) : PG X (.Name x pos) (tG g (.one i)) := (pg_name hN hi hx hf).imp fun v σ H Q q => by
  obtain ⟨H0, Z, fps, σl, x, σl', sr, r, e, q⟩ := q
  cases e
  exact q _ _ (sr.bind0 i r) fun vs h => wipe_set (h i (List.mem_singleton.mpr rfl))
theorem sgs_nil : PGs X [] (tGs g []) := pgs_nil.imp fun v σ H Q q => by
  obtain ⟨H0, Z, fps, σl, xs, σl', sr, r, e, q⟩ := q
  cases xs with
  | nil => cases e; cases r; exact ⟨rfl, q σ fps sr fun vs h => rfl⟩
  | cons x xs => cases e
theorem sgs_cons (h1 : PG X e (tG g (.one i))) (h2 : PGs X es (tGs g is)) (hs : (assignEach (e :: es) X.env).map (·.2) = assign e X.env :: (assignEach es X.env).map (·.2)) : PGs X (e :: es) (tGs g (i :: is)) := (pgs_cons h1 h2 hs).imp fun v σ H Q q => by
  obtain ⟨H0, Z, fps, σl, xs, σl', sr, r, e, q⟩ := q
  cases xs with
  | nil => cases e
  | cons x xs =>
    generalize hfp : ([] : List Addr) = fp at r
    cases r with
    | cons h hs =>
      obtain ⟨e1, e2⟩ := List.append_eq_nil_iff.mp hfp.symm
      subst e1 e2
      refine ⟨_, _, rfl, H0, Z, fps, σl, x, _, sr, h, rfl, fun σ1 fps1 sr1 wa => ?_⟩
      exact ⟨H0, Z, fps1, _, xs, σl', sr1, hs, e, fun σ2 fps2 sr2 wa2 => q σ2 fps2 sr2 fun vs hv => (wa2 vs fun j hj => hv j (List.mem_cons_of_mem _ hj)).trans (wa vs fun j hj => hv j (by rw [List.mem_singleton.mp hj]; exact List.mem_cons_self))⟩
theorem putAll_len : ∀ {is : List Nat} {xs : List D} {σ σ' : Sl}, putAll σ is xs = .ok σ' → is.length = xs.length
  | [], [], _, _, _ => rfl
  | [], _ :: _, _, _, h => by cases h
  | _ :: _, [], _, _, h => by cases h
  | i :: is, x :: xs, σ, σ', h => by rw [List.length_cons, List.length_cons, putAll_len (is := is) (xs := xs) h]
theorem sg_many {kk : Nat} (G : Gof g X) (hc : X.calm = true) (h : PGs X es (tGs g is)) (hn : (assignEach es X.env).length = is.length) (hst : (assignEach es X.env).findIdx? (·.1) = none) : PG X (.Tuple es kk pos) (tG g (.many is)) := (pg_tup hc h hn hst).imp fun v σ H Q q => by
  obtain ⟨H0, Z, fps, σl, x, σl', sr, r, e, q⟩ := q
  cases x with
  | tup xs =>
    obtain ⟨a, vs, rfl, hq, rs⟩ := rep_tup r
    have e : putAll σl is xs = .ok σl' := e
    rw [G.K]
    exact ⟨a, vs, rfl, hq, by rw [← rs.length, putAll_len e], H0, Z, fps, σl, xs, σl', sr, rs, e, q⟩
  | _ => cases e
theorem bindP_err {σ : Sl} {p : Pat} {d : D} {c : Nat} {fs : List D} : bindP σ p d ≠ .err c fs := fun h => by
  have go : ∀ {is : List Nat} {xs : List D} {σ : Sl}, putAll σ is xs ≠ .err c fs := by
    intro is
    induction is with
    | nil => intro xs σ h; cases xs <;> cases h
    | cons i is ih => intro xs σ h; cases xs with
      | nil => cases h
      | cons x xs => exact ih h
  cases p with
  | one i => cases h
  | many is =>
    cases d with
    | tup xs => exact go (show putAll σ is xs = _ from h)
    | _ => cases h
  | two i js =>
    have h' : (match d with | .tup [x, .tup ys] => putAll (σ.set i (some x)) js ys | _ => R.bad) = .err c fs := h
    split at h'
    · exact go h'
    · cases h'
def NpL (g : Gv) (is : List Nat) : Prop := g.pin = none ∨ 0 ∉ is
theorem Gh.wa {H0 H : Hp} {Z : Addr → Prop} {σ σ' : L2.St} (h : Gh g H0 Z σ H) (np : NpL g is) (wa : Wa is σ σ') : Gh g H0 Z σ' H := ⟨fun a e => by
  rcases np with n | n
  · rw [n] at e; cases e
  · have := congrArg (fun t : L2.St => t[0]?) (wa is fun _ m => m)
    simp only [wipe_get, n, false_and, if_false] at this
    rw [this]; exact h.pin a e, h.tab, h.t0⟩
theorem SR.zone {Z Z' : Addr → Prop} {H0 H : Hp} {fps : List (List Addr)} {σl : Sl} {σ : L2.St} (r : SR g H0 Z fps σl σ H) (le : ∀ a, Z a → Z' a) (inn : ∀ a, Z' a → H a ≠ none) (oth : ∀ a ∈ fps.flatten, ¬ Z' a) : SR g H0 Z' fps σl σ H where
  len := r.len
  lenf := r.lenf
  slot i d e := by
    obtain ⟨v, fp, e1, e2, rp⟩ := r.slot i d e
    exact ⟨v, fp, e1, e2, rp.same le (same_refl H)⟩
  gone := r.gone
  nd := r.nd
  own a ha := ⟨oth a ha, (r.own a ha).2⟩
  z := inn
  same := r.same
theorem ss_for {iter tg : Expr} {body : List Stmt} {p : Pat} {fi : Sl → R (List D)} (hp : PassesOwn (model X.prog X.w) X.A X.env X.xe) (hc : X.calm = true) (hi : PI X tg iter (tIW g W true fi)) (hg : PG X tg (tG g p)) (hb : PSs X body (tS g W f))
    (hs : ∀ x, foldedSetIterable iter X.env x = pure x) (np : NpL g (psl p)) : PS X (.For tg iter body [] pos) (tS g W (sFor p fi f)) := (ps_for hp hc hi hg hb hs).imp fun E σ H q => by
  obtain ⟨H0, Z0, Z, fps, σl, ss, o⟩ := q
  refine ⟨H0, Z, fps, σl, ss.sr, (OutS.rS ss o).imp fun xs o J H1 Z1 fp s1 z1 wk hin hfp => ?_⟩
  have ss1 := ss.step s1 z1
  have hfp := hfp rfl
  have ssb : SS g H0 Z0 (fun a => Z1 a ∨ a ∈ fp) fps σl σ H1 := by
    refine ⟨ss1.sr.zone (fun a z => .inl z) (fun a z => ?_) fun a ha z => ?_, fun a z => .inl (ss1.z0 a z), fun a z => ?_, ss1.gh.same (same_refl _) fun a z => .inl z⟩
    · rcases z with z | m
      · exact ss1.sr.z a z
      · exact hin a m
    · rcases z with z | m
      · exact (ss1.sr.own a ha).1 z
      · exact (ss.sr.own a ha).2.2 (hfp a m).1
    · rcases z with z | m
      · exact ss1.zn a z
      · exact .inr (same_none ss.sr.same (hfp a m).1)
  have evb : Ev g.tab Z (fun a => Z1 a ∨ a ∈ fp) H H1 := ⟨fun a z => .inl (z1.le a z), .of_same s1, fun _ _ t => t.same s1 fun a z => .inl (z1.le a z)⟩
  refine ⟨fun i m σ' H' => ∃ Zi fpi σli, SS g H0 Z0 Zi fpi σli σ' H' ∧ Ev g.tab (fun a => Z1 a ∨ a ∈ fp) Zi H1 H' ∧ i + m = xs.length ∧ OutS g W H0 Z0 Zi H' E (fr p f (xs.drop i) σli),
    ⟨xs.length, _, fps, σl, ssb, .refl, by omega, o.pre evb⟩, fun i m σ2 H2 hw => ?_⟩
  obtain ⟨Zi, fpi, σli, ssi, evi, em, oi⟩ := hw
  have kpi : Kp Z1 fp H1 H2 := ⟨evi.kp.tup, evi.kp.frz, fun a o h => evi.kp.z a o (.inl h), fun a o h => evi.kp.z a o (.inr h), evi.kp.xd⟩
  by_cases hi : i < xs.length
  · refine .inr ⟨wk.go H2 i kpi hi, fun σ3 H3 => ∃ Z3 fps3 σl3, SS g H0 Z0 Z3 fps3 σl3 σ3 H3 ∧ Ev g.tab (fun a => Z1 a ∨ a ∈ fp) Z3 H1 H3 ∧ OutS g W H0 Z0 Z3 H3 E (fr p f (xs.drop (i + 1)) σl3), fun σ3 H3 hN => ?_, fun x' H3 y => ?_⟩
    · obtain ⟨Z3, fps3, σl3, ss3, ev3, o3⟩ := hN
      exact ⟨m - 1, by omega, Z3, fps3, σl3, ss3, ev3, by omega, o3⟩
    · obtain ⟨s2, rp⟩ := wk.yld H2 H3 i x' xs[i] kpi (List.getElem?_eq_getElem hi) y
      have z2 : Zx Zi Zi H2 H3 := .stay ssi.sr.z s2
      have ss3 := ssi.step s2 z2
      have ev3 := Ev.of_zx (t := g.tab) s2 z2
      rw [List.drop_eq_getElem_cons hi] at oi
      have oi : OutS g W H0 Z0 Zi H2 E (rS (bindP σli p xs[i]) σli fun σ1 => match f σ1 with
        | .nx σ' => fr p f (xs.drop (i + 1)) σ'
        | .ct σ' => fr p f (xs.drop (i + 1)) σ'
        | .bk σ' => .nx σ'
        | r => r) := oi
      obtain ⟨σl1, e1, oi⟩ := (OutS.rS ssi oi).okOf fun c fs => bindP_err
      refine ⟨H0, Zi, fpi, σli, xs[i], σl1, ss3.sr, rp.keep (fun a z => evi.le a (.inl z)) (.of_same (same_refl _)), e1, fun σ4 fps4 sr4 wa => ?_⟩
      refine ⟨H0, Z0, Zi, fps4, σl1, ⟨sr4, ss3.z0, ss3.zn, ss3.gh.wa np wa⟩, ?_⟩
      have oi := oi.pre ev3
      have ev4 := evi.trans ev3
      cases hf : f σl1 with
      | nx σl' => rw [hf] at oi; exact fun σ' H' Z' fps' s e => ⟨Z', fps', σl', s, ev4.trans e, oi.pre e⟩
      | ct σl' => rw [hf] at oi; exact fun σ' H' Z' fps' s e => ⟨Z', fps', σl', s, ev4.trans e, oi.pre e⟩
      | bk σl' => rw [hf] at oi; exact oi
      | rt d => rw [hf] at oi; exact oi
      | er c fs σl' => rw [hf] at oi; exact oi
      | bad => rw [hf] at oi; exact oi
  · have ei : i = xs.length := by omega
    subst ei
    rw [List.drop_length] at oi
    exact .inl ⟨wk.stop H2 kpi, oi σ2 H2 Zi fpi ssi .refl⟩
theorem lstOf_err {r : R D} {c : Nat} {fs : List D} (h : r ≠ .err c fs) : r.bind lstOf ≠ .err c fs := fun e => by
  cases r with
  | ok d =>
    cases d with
    | lst o xs => cases o <;> cases e
    | _ => cases e
  | err c' fs' => exact h (by cases e; rfl)
  | bad => cases e
theorem lstOf_ok {r : R D} {xs : List D} (h : r.bind lstOf = .ok xs) : r = .ok (.lst true xs) := by
  cases r with
  | ok d =>
    cases d with
    | lst o ys => cases o <;> cases h; rfl
    | _ => cases h
  | err c' fs' => cases h
  | bad => cases h
theorem ss_app {x : Str} {p apos cpos : Pos} (G : Gof g X) (hN : X.N[i]? = some x) (hv : Vis X.env.scope x) (hd : (x == ("__debug__" : Str)) = false) (hcd : (x == ("__classdict__" : Str)) = false) (he : PE X e (tI g W true fe))
    (hst : starEach [e] X.env = (false, eval e X.env) :: starEach [] X.env)
    (hbase : attributeBase (.Name x p) "append" X.env (eval (.Name x p) X.env) = eval (.Name x p) X.env)
    (hfew : ((backTo cpos (starEach [e] X.env)).all (fun x => !x.1) && (backToKw cpos (keywordEach [] X.env)).all (fun x => x.1.isSome)
      && decide ([e].length + ([] : List Keyword).length + (if ([] : List Keyword).isEmpty then 0 else 1) < 30)) = true)
    (hline : (apos.endLine == cpos.line) = true) (hplain : (backTo cpos (starEach [] X.env)).any (·.1) = false)
    (hs : swapsWith (.Call (.Attribute (.Name x p) "append" apos) [e] [] cpos) none pos.line X.env = pure false) :
    PS X (.Expr (.Call (.Attribute (.Name x p) "append" apos) [e] [] cpos) pos) (tS g W (sApp i fe)) :=
  (ps_expr (pe_bm PySem.F.plainAttrs_list PySem.F.slot_list_append PySem.F.type_list_append mt_append (pe_var hN hv hd hcd) (pa_cons he pa_nil hst) hbase hfew hline hst hplain) hs).imp fun E σ H q => by
  obtain ⟨H0, Z0, Z, fps, σl, ss, o⟩ := q
  obtain ⟨xs, e0, o⟩ := (OutS.rS ss o).okOf fun c fs => lstOf_err getS_err
  obtain ⟨v, fp, e1, e2, rp⟩ := ss.sr.slot i _ (getS_ok (lstOf_ok e0))
  obtain ⟨l, vs, fs, rfl, hl, rs, rfl⟩ := rep_own rp
  refine ⟨.ref l, e1, .inl ⟨rfl, vs, .inl (.inl hl)⟩, H0, Z, fps, σl, ss.sr, (OutS.rS ss o).imp fun y o v1 H1 Z1 fy p1 => ?_⟩
  obtain ⟨hz, o⟩ := OutS.guard o
  have hl1 : H1 l = some (.lst vs) := p1.same _ _ hl
  have ss1 := ss.step p1.same p1.zx
  have own := fun a ha => ss1.sr.own a (mem_at e2 a ha)
  have nd := nd_at ss.sr.nd e2
  obtain ⟨ny, oy⟩ := p1.own rfl
  refine ⟨l, vs, v1, rfl, rfl, hl1, by rw [← rs.length]; exact hz, ?_⟩
  have lo := own l List.mem_cons_self
  have fy_old : ∀ a ∈ fy, a ∉ fps.flatten := fun a ha q => (ss.sr.own a q).2.2 (oy a ha).1
  have lfy : l ∉ fy := fun q => fy_old l q (mem_at e2 l List.mem_cons_self)
  have lfs : l ∉ fs := (List.nodup_cons.mp nd).1
  have ow : Owd g.P g.w l (H1 l) := .inl ⟨vs, hl1⟩
  have rep2 : Rep g Z1 (upd H1 l (.lst (vs ++ [v1]))) (.lst true (xs ++ [y])) (.ref l) (l :: (fs ++ (fy ++ []))) :=
    .lst upd_same (((rs.same p1.zx.le p1.same).keep (fun _ z => z) (kp_upd ow lo.1 lfs)).append (.cons (p1.rep.keep (fun _ z => z) (kp_upd ow lo.1 lfy)) .nil)) (.inl ⟨rfl, rfl⟩)
  have ap := mem_apart ss.sr.nd e2
  have r2 := ss1.sr.put (i := i) (same_updO ss1.sr.same lo.2.1) (fun _ z => z) (fun a z => upd_some (ss1.sr.z a z)) (kp_upd ow lo.1 (ap l List.mem_cons_self)) (fun a ha => (ss1.sr.own a (mem_set0 ha)).1) rep2
    (by
      rw [List.append_nil]
      refine List.nodup_cons.mpr ⟨fun q => ?_, List.nodup_append.mpr ⟨(List.nodup_cons.mp nd).2, ny, fun a ha b hb e => ?_⟩⟩
      · rcases List.mem_append.mp q with q | q
        · exact lfs q
        · exact lfy q
      · exact fy_old b hb (mem_at e2 b (List.mem_cons_of_mem _ (by rw [← e]; exact ha))))
    (fun a ha => by
      rw [List.append_nil] at ha
      rcases List.mem_cons.mp ha with rfl | ha
      · exact ⟨ap a List.mem_cons_self, lo.1, lo.2.1⟩
      · rcases List.mem_append.mp ha with ha | ha
        · have q := List.mem_cons_of_mem l ha
          exact ⟨ap a q, (own a q).1, (own a q).2.1⟩
        · exact ⟨fun q => fy_old a ha (mem_set0 q), (oy a ha).2, same_none ss.sr.same (oy a ha).1⟩)
  rw [set_self e1] at r2
  exact o σ _ Z1 _ ⟨r2, ss1.z0, ss1.zn, ss1.gh.ev (.upd ow lo.1)⟩ (.trans (.of_zx p1.same p1.zx) (.upd ow lo.1))
end
end DI
namespace DI
open PySem PySem.Spec PyProof.Rows L2
abbrev WF : L2.WX := fun _ _ _ _ => False
def noErr {α : Type} : R α → R α
  | .ok a => .ok a
  | _ => .bad
def cBody (vs : List Nat) (p : Pat) (fc fe : Sl → R D) (σ : Sl) (x : D) : R (Option D) :=
  noErr ((bindP (wipeL σ vs) p x).bind fun σ1 => (fc σ1).bind fun c => (boolOf c).bind fun b => if b = true then (fe σ1).bind fun y => .ok (some y) else .ok none)
def eComp (vs : List Nat) (p : Pat) (fi : Sl → R (List D)) (fc fe : Sl → R D) : Sl → R D := fun σ =>
  (fi σ).bind fun xs => (compR (cBody vs p fc fe σ) xs).bind fun ys => if ys.length ≤ sizeLine then .ok (.lst true ys) else .bad
theorem compR_noerr {f : D → R (Option D)} (hf : ∀ x c fs, f x ≠ .err c fs) : ∀ (xs : List D) c fs, compR f xs ≠ .err c fs
  | [], _, _, h => by cases h
  | x :: xs, c, fs, h => by
    rw [compR] at h
    cases hx : f x with
    | ok o =>
      rw [hx] at h
      cases hr : compR f xs with
      | ok ys => rw [hr] at h; cases h
      | err c' fs' => exact compR_noerr hf xs c' fs' hr
      | bad => rw [hr] at h; cases h
    | err c' fs' => exact hf x c' fs' hx
    | bad => rw [hx] at h; cases h
theorem noErr_noerr {α : Type} {r : R α} {c : Nat} {fs : List D} : noErr r ≠ .err c fs := fun h => by cases r <;> cases h
theorem noErr_ok {α : Type} {r : R α} {a : α} (h : noErr r = .ok a) : r = .ok a := by cases r <;> cases h; rfl
theorem R.bind_ok_inv {α β : Type} {r : R α} {k : α → R β} {b : β} (h : r.bind k = .ok b) : ∃ a, r = .ok a ∧ k a = .ok b := by
  cases r with
  | ok a => exact ⟨a, rfl, h⟩
  | err c fs => cases h
  | bad => cases h
section
variable {g : Gv} {Z Z' : Addr → Prop} {H0 H H' : Hp} {fps : List (List Addr)} {σl : Sl} {σ : L2.St}
theorem SR.drop2 (r : SR g H0 Z fps σl σ H) (i : Nat) : SR g H0 Z (fps.set i []) (σl.set i none) (σ.set i none) H := by
  have r1 := r.drop i r.same (fun _ z => z) r.z (.of_same (same_refl H)) fun a ha => (r.own a (mem_set0 ha)).1
  refine { r1 with len := by rw [r1.len, List.length_set], lenf := by rw [r1.lenf, List.length_set], slot := fun j d e => ?_ }
  obtain ⟨v, fp, e1, e2, rp⟩ := r1.slot j d e
  refine ⟨v, fp, ?_, e2, rp⟩
  by_cases h : i = j
  · subst h
    have hl : i < σl.length := by have := lt_of_get e; rwa [List.length_set] at this
    rw [List.getElem?_set_self hl] at e; cases e
  · rw [List.getElem?_set_ne h]; exact e1
theorem SR.wiped (r : SR g H0 Z fps σl σ H) : ∀ vs : List Nat, ∃ fps', SR g H0 Z fps' (wipeL σl vs) (wipe σ vs) H ∧ ∀ a ∈ fps'.flatten, a ∈ fps.flatten
  | [] => ⟨fps, r, fun _ h => h⟩
  | v :: vs => by
    obtain ⟨f1, r1, h1⟩ := r.wiped vs
    exact ⟨f1.set v [], r1.drop2 v, fun a ha => h1 a (mem_set0 ha)⟩
theorem SR.frame (r : SR g H0 Z fps σl σ H) (sm : Same H0 H') (inn : ∀ a, Z a → H' a ≠ none) (kp : Kp Z fps.flatten H H') : SR g H0 Z fps σl σ H' where
  len := r.len
  lenf := r.lenf
  slot i d e := by
    obtain ⟨v, fp, e1, e2, rp⟩ := r.slot i d e
    exact ⟨v, fp, e1, e2, rp.keep (fun _ z => z) (kp.sub fun a ha => mem_at e2 a ha)⟩
  gone := r.gone
  nd := r.nd
  own a ha := ⟨(r.own a ha).1, (r.own a ha).2.1, by
    cases e : H a with
    | none => exact absurd e (r.own a ha).2.2
    | some o => rw [kp.own a o ha e (owd_nt (r.owd a ha) e)]; exact Option.some_ne_none _⟩
  z := inn
  same := sm
end
section
variable {X : Cx} {g : Gv} {W : L2.WX}
theorem sts_nil : PTs X [] (tIT g W fun _ => .ok (.bl true)) := ⟨fun pins s σ H Q I q => pts_nil.run pins s σ H Q I (by
  obtain ⟨H0, Z, fps, σl, sr, o⟩ := q
  obtain ⟨b, e, q⟩ := o
  cases e
  exact q H Z (same_refl H) (.refl sr.z))⟩
theorem comp_of {wi : Sl → R (List D)} {p : Pat} {fc fe : Sl → R D} {vs : List Nat} {b : Bool} {σ : L2.St} {H : Hp} {Q : VK} (hp : ∀ j ∈ psl p, j ∈ vs) (q : tI g W true (eComp vs p wi fc fe) σ H Q) :
    tLc (tIW g W b wi) (tG g p) (tIT g WF fc) (tI g WF true fe) vs σ H Q := by
  obtain ⟨H0, Z, fps, σl, sr, o⟩ := q
  refine ⟨H0, Z, fps, σl, sr, o.bind.imp fun xs o J H1 Z1 fp s1 z1 wk hin hfp Dd nD => ?_⟩
  obtain ⟨ys, ey, o⟩ := o.bind.okOf fun c fs => compR_noerr (fun x c fs => noErr_noerr) xs c fs
  obtain ⟨hz, o⟩ := Out.guard o
  have sr1 := sr.step s1 z1
  obtain ⟨fw, srw, hfw⟩ := sr1.wiped vs
  have sD := same_upd (o := .lst []) nD
  have hDfw : Dd ∉ fw.flatten := fun h => (sr1.own Dd (hfw Dd h)).2.2 nD
  have hDz : ¬ Z1 Dd := fun z => sr1.z Dd z nD
  have zD : Zx Z1 Z1 H1 (upd H1 Dd (.lst [])) := .stay sr1.z sD
  refine ⟨fun i m H' => i + m = xs.length ∧ ∃ Zi acc avs af zs, SR g H0 Zi fw (wipeL σl vs) (wipe σ vs) H' ∧ Same H1 H' ∧ Zx Z1 Zi H1 H' ∧ H' Dd = some (.lst avs) ∧ ¬ Zi Dd ∧ Reps g Zi H' acc avs af ∧ af.Nodup ∧ (∀ a ∈ af, H1 a = none ∧ ¬ Zi a ∧ a ≠ Dd) ∧
      compR (cBody vs p fc fe σl) (xs.drop i) = .ok zs ∧ acc ++ zs = ys, ⟨xs.length, by omega, Z1, [], [], [], ys, srw.step sD zD, sD, zD, upd_same, hDz, .nil, List.nodup_nil, (fun a h => nomatch h), ey, rfl⟩, ?_⟩
  rintro i m H2 ⟨em, Zi, acc, avs, af, zs, sri, s2, z2, hD2, hDi, ra, na, oa, ez, eys⟩
  have kp2 : Kp Z1 fp H1 H2 := .of_same s2
  by_cases hi : i < xs.length
  · refine .inr ⟨wk.go H2 i kp2 hi, fun H' => ∃ Zi acc avs af zs, SR g H0 Zi fw (wipeL σl vs) (wipe σ vs) H' ∧ Same H1 H' ∧ Zx Z1 Zi H1 H' ∧ H' Dd = some (.lst avs) ∧ ¬ Zi Dd ∧ Reps g Zi H' acc avs af ∧ af.Nodup ∧ (∀ a ∈ af, H1 a = none ∧ ¬ Zi a ∧ a ≠ Dd) ∧
      compR (cBody vs p fc fe σl) (xs.drop (i + 1)) = .ok zs ∧ acc ++ zs = ys, fun H' h => ⟨m - 1, by omega, by omega, h⟩, fun x' H3 y => ?_⟩
    obtain ⟨s3, rp⟩ := wk.yld H2 H3 i x' xs[i] kp2 (List.getElem?_eq_getElem hi) y
    have z3 : Zx Zi Zi H2 H3 := .stay sri.z s3
    rw [List.drop_eq_getElem_cons hi, compR] at ez
    obtain ⟨ob, eb, ez⟩ := R.bind_ok_inv ez
    obtain ⟨zs', er, ez⟩ := R.bind_ok_inv ez
    obtain ⟨σ1, e1, eb⟩ := R.bind_ok_inv (noErr_ok eb)
    obtain ⟨cd, e2, eb⟩ := R.bind_ok_inv eb
    obtain ⟨cb, e3, eb⟩ := R.bind_ok_inv eb
    refine ⟨H0, Zi, fw, _, xs[i], σ1, sri.step s3 z3, rp.keep (fun a z => z2.le a z) (.of_same (same_refl _)), e1, fun σ2 fps2 sr2 wa => ⟨?_, ?_⟩⟩
    · exact (wa vs hp).trans wipe_wipe
    · refine ⟨H0, Zi, fps2, σ1, sr2, ?_⟩
      rw [e2]
      have ecd : cd = .bl cb := by
        cases cd with
        | bl b => cases e3; rfl
        | _ => cases e3
      subst ecd
      refine ⟨cb, rfl, fun H4 Z4 s4 z4 => ?_⟩
      have s24 := same_trans s3 s4
      have z24 : Zx Zi Z4 H2 H4 := z3.trans s3 z4
      cases cb with
      | false =>
        have eb : R.ok none = R.ok ob := eb
        cases eb
        have ez : R.ok zs' = R.ok zs := ez
        cases ez
        have nz : ∀ a, H2 a ≠ none → ¬ Zi a → ¬ Z4 a := fun a h1 h2 h3 => by
          rcases z24.new a h3 with q | q
          · exact h2 q
          · exact h1 q
        exact ⟨Z4, acc, avs, af, _, sri.step s24 z24, same_trans s2 s24, z2.trans s2 z24, s24 _ _ hD2, nz Dd (by rw [hD2]; exact Option.some_ne_none _) hDi, ra.same z24.le s24, na, fun a ha => ⟨(oa a ha).1, nz a (Reps.there ra a ha) (oa a ha).2.1, (oa a ha).2.2⟩, er, eys⟩
      | true =>
        obtain ⟨yd, e4, eb⟩ := R.bind_ok_inv (show ((fe σ1).bind fun y => R.ok (some y)) = R.ok ob from eb)
        cases eb
        have ez : R.ok (yd :: zs') = R.ok zs := ez
        cases ez
        refine ⟨H0, Z4, fps2, σ1, sr2.step s4 z4, ?_⟩
        rw [e4]
        intro yv H5 Z5 fy p5
        have s25 := same_trans s24 p5.same
        have z25 : Zx Zi Z5 H2 H5 := z24.trans s24 p5.zx
        have hD5 := s25 _ _ hD2
        have nz : ∀ a, H2 a ≠ none → ¬ Zi a → ¬ Z5 a := fun a h1 h2 h3 => by
          rcases z25.new a h3 with q | q
          · exact h2 q
          · exact h1 q
        have hDz5 := nz Dd (by rw [hD2]; exact Option.some_ne_none _) hDi
        obtain ⟨ny, oy⟩ := p5.own rfl
        have hl := ra.length
        have hly : acc.length < ys.length := by rw [← eys, List.length_append, List.length_cons]; omega
        have ow : Owd g.P g.w Dd (H5 Dd) := .inl ⟨avs, hD5⟩
        have Dfy : Dd ∉ fy := fun q => by
          have := (oy Dd q).1
          rw [s24 _ _ hD2] at this; cases this
        have Daf : Dd ∉ af := fun q => (oa Dd q).2.2 rfl
        have k5 : ∀ fp, Dd ∉ fp → Kp Z5 fp H5 (upd H5 Dd (.lst (avs ++ [yv]))) := fun fp h => kp_upd ow hDz5 h
        have sri5 := sri.step s25 z25
        have s15 := same_trans s2 s25
        have z15 := z2.trans s2 z25
        refine ⟨avs, hD5, by rw [← hl]; omega, Z5, acc ++ [yd], avs ++ [yv], af ++ (fy ++ []), zs', sri5.frame (same_updO sri5.same (same_none sr1.same nD)) (fun a z => upd_some (sri5.z a z)) (k5 _ hDfw), same_updO s15 nD, ⟨z15.le, z15.new, fun a z => upd_some (z15.inn a z)⟩, upd_same, hDz5,
          ((ra.same z25.le s25).keep (fun _ z => z) (k5 _ Daf)).append (.cons (p5.rep.keep (fun _ z => z) (k5 _ Dfy)) .nil), ?_, ?_, er, ?_⟩
        · rw [List.append_nil]
          refine List.nodup_append.mpr ⟨na, ny, fun a ha b hb e => ?_⟩
          subst e
          exact Reps.there ra a ha (same_none s24 (oy a hb).1)
        · intro a ha
          rw [List.append_nil] at ha
          rcases List.mem_append.mp ha with ha | ha
          · exact ⟨(oa a ha).1, nz a (Reps.there ra a ha) (oa a ha).2.1, (oa a ha).2.2⟩
          · exact ⟨same_none (same_trans s2 s24) (oy a ha).1, (oy a ha).2, fun e => Dfy (by rw [← e]; exact ha)⟩
        · rw [List.append_assoc]; exact eys
  · have ei : i = xs.length := by omega
    subst ei
    rw [List.drop_length] at ez
    cases ez
    rw [List.append_nil] at eys
    subst eys
    refine .inl ⟨wk.stop H2 kp2, ?_⟩
    refine o (.ref Dd) H2 Zi (Dd :: af) ⟨same_trans s1 s2, z1.trans s1 z2, .lst hD2 ra (.inl ⟨rfl, rfl⟩), fun _ => ⟨List.nodup_cons.mpr ⟨fun q => (oa Dd q).2.2 rfl, na⟩, fun a ha => ?_⟩⟩
    rcases List.mem_cons.mp ha with rfl | ha
    · exact ⟨same_none s1 nD, hDi⟩
    · exact ⟨same_none s1 (oa a ha).1, (oa a ha).2.1⟩
theorem se_comp {elt tg iter : Expr} {ifs : List Expr} {scope : Scope} {own : List (Str × Nat)} {pos : Pos} {wi : Sl → R (List D)} {p : Pat} {fc fe : Sl → R D} {b : Bool} (hc : X.calm = true) (hN : X.N.Nodup) (ok : blkC X.N X.env.scope scope own = true) (hp : ∀ j ∈ psl p, j ∈ own.map (·.2)) (hi : PI X tg iter (tIW g W b wi))
    (hg : ∀ (s : Shared) (H : Hp) (C : Addr) (cl : List (Str × Addr)) (fp : List Addr), PG (X.blk s H scope (compEnvC scope cl C X.env) fp) tg (tG g p)) (ht : ∀ (s : Shared) (H : Hp) (C : Addr) (cl : List (Str × Addr)) (fp : List Addr), PTs (X.blk s H scope (compEnvC scope cl C X.env) fp) ifs (tIT g WF fc))
    (he : ∀ (s : Shared) (H : Hp) (C : Addr) (cl : List (Str × Addr)) (fp : List Addr), PE (X.blk s H scope (compEnvC scope cl C X.env) fp) elt (tI g WF true fe)) (hs : ∀ x, foldedSetIterable iter X.env x = pure x) :
    PE X (.ListComp elt [⟨tg, iter, ifs, 0⟩] scope pos) (tI g W true (eComp (own.map (·.2)) p wi fc fe)) := (pe_lc hc hN hi (blkOk_by ok) hg ht he hs).imp fun _ _ _ q => comp_of hp q
end
end DI
namespace DI
open PySem PySem.Spec PyProof.Rows L2
section
variable {X : Cx} {g : Gv} {W : L2.WX}
def dctOf : D → R (List (NestedKey × D))
  | .dct true xs => .ok xs
  | _ => .bad
def sPutK (i : Nat) (fk fe : Sl → R D) : SF := fun σ => rS (fe σ) σ fun y => rS ((getS σ i).bind dctOf) σ fun kvs => rS (fk σ) σ fun x => rS (keyIn x kvs) σ fun k =>
  if clean y = true ∧ kvs.length < sizeLine then .nx (σ.set i (some (.dct true (dput kvs k y)))) else .bad
variable {e k : Expr} {fe fk : Sl → R D} {i : Nat} {x : Str} {p pos spos : Pos} {b b' : Bool}
def dispD (k v : D) : R D :=
  match key k with
  | some q => if leafD k = true ∧ clean v = true then .ok (.dct true [(q, v)]) else .bad
  | none => .bad
end
def startL (n : Nat) (ds : List D) : Sl := ds.map some ++ List.replicate (n - ds.length) none
def resR : RS → R D
  | .rt d => .ok d
  | .nx _ => .ok .non
  | .er c fs _ => .err c fs
  | _ => .bad
def runF (n : Nat) (f : SF) (ds : List D) : R D := resR (f (startL n ds))
theorem reps_nil_get {g : Gv} {Z : Addr → Prop} {H : Hp} {xs : List D} {vs : List V} (r : Reps g Z H xs vs []) {i : Nat} {d : D} (e : xs[i]? = some d) : ∃ v, vs[i]? = some v ∧ Rep g Z H d v [] := by
  obtain ⟨u, f, e1, rr, hf, _⟩ := r.get i d e
  have ef : f = [] := List.eq_nil_iff_forall_not_mem.mpr fun a ha => nomatch hf a ha
  subst ef
  exact ⟨u, e1, rr⟩
theorem start_sr {g : Gv} {Z : Addr → Prop} {H : Hp} {ds : List D} {vs : List V} (N : List Str) (hz : ∀ a, Z a → H a ≠ none) (rs : Reps g Z H ds vs []) : SR g H Z (List.replicate (L2.start N vs).length []) (startL N.length ds) (L2.start N vs) H where
  len := by unfold startL L2.start; rw [List.length_append, List.length_append, List.length_map, List.length_map, List.length_replicate, List.length_replicate, rs.length]
  lenf := List.length_replicate
  slot i d e := by
    unfold startL at e
    have hi : i < ds.length := by
      refine Nat.lt_of_not_le fun h => ?_
      rw [List.getElem?_append_right (by rw [List.length_map]; exact h), List.getElem?_replicate] at e
      split at e <;> cases e
    rw [List.getElem?_append_left (by rw [List.length_map]; exact hi), List.getElem?_map, List.getElem?_eq_getElem hi] at e
    cases e
    obtain ⟨v, e1, rv⟩ := reps_nil_get rs (List.getElem?_eq_getElem hi)
    have hi2 : i < vs.length := by rw [← rs.length]; exact hi
    have e2 : (L2.start N vs)[i]? = some (some v) := by
      unfold L2.start
      rw [List.getElem?_append_left (by rw [List.length_map]; exact hi2), List.getElem?_map, e1]; rfl
    exact ⟨v, [], e2, by rw [List.getElem?_replicate, if_pos (lt_of_get e2)], rv⟩
  gone i e := by
    have hi := lt_of_get e
    have hl : (startL N.length ds).length = (L2.start N vs).length := by unfold startL L2.start; rw [List.length_append, List.length_append, List.length_map, List.length_map, List.length_replicate, List.length_replicate, rs.length]
    rw [List.getElem?_replicate, if_pos (by rw [← hl]; exact hi)]
  nd := by rw [List.flatten_replicate_nil]; exact List.nodup_nil
  own a ha := by rw [List.flatten_replicate_nil] at ha; exact nomatch ha
  z := hz
  same := same_refl H
section
variable {P : Program} {w : World} {K : PySem.W.Frag} {mg : Str → Option Value} {base : Heap}
theorem gh_none {g : Gv} {H0 H : Hp} {Z : Addr → Prop} {σ : L2.St} (hpn : g.pin = none) (htb : g.tab = none) : Gh g H0 Z σ H := ⟨fun a e => (by rw [hpn] at e; cases e), fun p e => (by rw [htb] at e; cases e), fun p e => (by rw [htb] at e; cases e)⟩
theorem di_fn {x qual : Str} {st : Stmt} {f : Addr} {fd : FuncData} {N ps : List Str} {k : Nat} (g : Gv) (F : Fun K x qual st f fd) (S : FnScope N ps (defScope st)) (n : Nat) (hn : n = ps.length) (m : Nat) (hm : m = N.length) (b : SF) (hpn : g.pin = none) (htb : g.tab = none)
    (hb : ∀ (cdv : Value) (A : Around) (outer : List Env) (s : Shared) (H : Hp) (E : XK), Room k (A.deeper (envOfC qual (defScope st) s.heap.objs.size f cdv)) →
      Takes (cxOf (L2.CX P w) P w K mg base N qual (defScope st) f cdv A outer s H E) (fun cls d _ H => E cls d H) →
      PassesOwn (model P w) (cxOf (L2.CX P w) P w K mg base N qual (defScope st) f cdv A outer s H E).A (cxOf (L2.CX P w) P w K mg base N qual (defScope st) f cdv A outer s H E).env (cxOf (L2.CX P w) P w K mg base N qual (defScope st) f cdv A outer s H E).xe →
      PSs (cxOf (L2.CX P w) P w K mg base N qual (defScope st) f cdv A outer s H E) (defBody st) (tS g (fun cls d _ H => E cls d H) b)) : FnOk P w K mg base (L2.CX P w) (k + 1) f fd ps (spI g n (runF m b)) := by
  subst hn hm
  refine F.okX S (fun vs H Q E h => ?_) fun cdv A outer s H vs Q E hr h => ?_
  · obtain ⟨Z, ds, hz, rs, hl, _⟩ := h
    rw [← rs.length, hl]
  · obtain ⟨Z, ds, hz, rs, hl, o⟩ := h
    refine ⟨_, hb cdv A outer s H E hr (takes_of rfl rfl rfl rfl) (passes_of rfl), H, Z, Z, _, startL N.length ds, ⟨start_sr N hz rs, fun _ z => z, fun _ z => .inl z, gh_none hpn htb⟩, ?_⟩
    unfold runF at o
    cases hb : b (startL N.length ds) with
    | nx σl =>
      rw [hb] at o
      exact fun σ' H' Z' fps' ss e => o .non H' Z' [] ⟨ss.sr.same, ⟨ss.z0, ss.zn, ss.sr.z⟩, .non, fun _ => ⟨List.nodup_nil, fun _ h => nomatch h⟩⟩
    | rt d => rw [hb] at o; exact .of hpn fun v H' Z' fp p _ => o v H' Z' fp p
    | er c fs σl =>
      rw [hb] at o
      exact fun σ' H' Z' fps' cls d ss e ex => o H' Z' cls d ss.sr.same ⟨ss.z0, ss.zn, ss.sr.z⟩ ex
    | bk σl => rw [hb] at o; exact o.elim
    | ct σl => rw [hb] at o; exact o.elim
    | bad => rw [hb] at o; exact o.elim
end
end DI
namespace DI
open PySem PySem.Spec PyProof.Rows L2
def eV (i : Nat) : Sl → R D := fun σ => getS σ i
def eK (d : D) : Sl → R D := fun _ => .ok d
def eO (f : Sl → R D) : Sl → R D := fun σ => (f σ).bind fun d => if clean d = true then .ok d else .bad
def eNeg (f : Sl → R D) : Sl → R D := fun σ => (f σ).bind fun x => (intOf x).bind fun i => .ok (.int (-i))
def eNot (f : Sl → R D) : Sl → R D := fun σ => (f σ).bind fun x => (boolOf x).bind fun i => .ok (.bl (!i))
noncomputable def eB (o : Bop) (f k : Sl → R D) : Sl → R D := fun σ => (f σ).bind fun x => (k σ).bind fun y => binD o x y
def eC (o : Cop) (f k : Sl → R D) : Sl → R D := fun σ => (f σ).bind fun x => (k σ).bind fun y => blR (cmpD o x y)
def eCC (o o' : Cop) (f k l : Sl → R D) : Sl → R D := fun σ => (f σ).bind fun x => (k σ).bind fun y => (cmpD o x y).bind fun r => if r = true then (l σ).bind fun z => (cmpD o' y z).bind fun r => .ok (.bl r) else .ok (.bl false)
def eAnd (f k : Sl → R D) : Sl → R D := fun σ => (f σ).bind fun x => (boolOf x).bind fun r => if r = true then (k σ).bind fun y => (boolOf y).bind fun r => .ok (.bl r) else .ok (.bl false)
def eOr (f k : Sl → R D) : Sl → R D := fun σ => (f σ).bind fun x => (boolOf x).bind fun r => if r = true then .ok (.bl true) else (k σ).bind fun y => (boolOf y).bind fun r => .ok (.bl r)
def eIf (c f k : Sl → R D) : Sl → R D := fun σ => (c σ).bind fun x => (boolOf x).bind fun r => if r = true then f σ else k σ
def eIx (f k : Sl → R D) : Sl → R D := fun σ => (f σ).bind fun x => (k σ).bind fun y => idxD x y
def aN : Sl → R D := fun _ => .ok (.tup [])
def aC (f k : Sl → R D) : Sl → R D := fun σ => (f σ).bind fun x => (k σ).bind fun r => (tupOf r).bind fun xs => .ok (.tup (x :: xs))
def eTup (f : Sl → R D) : Sl → R D := fun σ => (f σ).bind fun r => (tupOf r).bind fun xs => if xs.length ≤ sizeLine then .ok (.tup xs) else .bad
def eLst (f : Sl → R D) : Sl → R D := fun σ => (f σ).bind fun r => (tupOf r).bind fun xs => if xs.length ≤ sizeLine then .ok (.lst true xs) else .bad
def eD0 : Sl → R D := fun _ => .ok (.dct true [])
def eD1 (f k : Sl → R D) : Sl → R D := fun σ => (f σ).bind fun x => (k σ).bind fun y => dispD x y
def eSl (f : Sl → R D) (nb : Bool) (k : Sl → R D) (nc : Bool) (l : Sl → R D) : Sl → R D := fun σ => (f σ).bind fun x => (k σ).bind fun l' => (partD (if nb = true then none else some l')).bind fun l' => (l σ).bind fun h => (partD (if nc = true then none else some h)).bind fun h => slD x l' h
def eBi (b : Bi) (f : Sl → R D) : Sl → R D := fun σ => (f σ).bind fun r => (tupOf r).bind fun ds => biD b ds
def eF (h : List D → R D) (f : Sl → R D) : Sl → R D := fun σ => (f σ).bind fun r => (tupOf r).bind fun ds => (h (frzL ds)).bind fun d => if (cleanL ds || noFrz d) = true then .ok d else .bad
def eMt (m : Mt) (f k : Sl → R D) : Sl → R D := fun σ => (f σ).bind fun x => if recvOk m x = true then (k σ).bind fun r => (tupOf r).bind fun ds => mtD m x ds else .bad
def iSeq' (f : Sl → R D) : Sl → R (List D) := fun σ => (f σ).bind itemsD
def iEn (f : Sl → R D) : Sl → R (List D) := fun σ => (f σ).bind fun r => (tupOf r).bind enumD
noncomputable def iR1 (f : Sl → R D) : Sl → R (List D) := fun σ => (f σ).bind fun r => (tupOf r).bind rng1D
noncomputable def iR2 (f : Sl → R D) : Sl → R (List D) := fun σ => (f σ).bind fun r => (tupOf r).bind rng2D
def iZ (f : Sl → R D) : Sl → R (List D) := fun σ => (f σ).bind fun r => (tupOf r).bind zipD
def eT : Sl → R D := fun _ => .ok (.bl true)
section
variable {X : Cx} {g : Gv} {W : L2.WX} {a b c e tg : Expr} {es : List Expr} {f k l fc fe : Sl → R D} {x y z : Bool} {pos p : Pos} {n : Str}
theorem z_v (i : Nat) (hN : X.N[i]? = some n := by rfl) (hv : Vis X.env.scope n := by first | exact Or.inl rfl | exact Or.inr (Or.inl rfl) | exact Or.inr (Or.inr rfl)) (hd : (n == ("__debug__" : Str)) = false := by decide) (hcd : (n == ("__classdict__" : Str)) = false := by decide) :
    PE X (.Name n pos) (tI g W false (eV i)) := se_var hN hv hd hcd
theorem z_o (h : PE X e (tI g W x f)) : PE X e (tI g W true (eO f)) := h.imp fun σ H Q q => by
  obtain ⟨H0, Z, fps, σl, sr, o⟩ := q
  refine ⟨H0, Z, fps, σl, sr, o.bind.imp fun d o v H' Z' fp p => ?_⟩
  obtain ⟨hc, o⟩ := Out.guard o
  exact o v H' Z' [] ⟨p.same, p.zx, p.rep.to0 hc, fun _ => ⟨List.nodup_nil, fun _ h => nomatch h⟩⟩
theorem z_i {i j} : PE X (.Constant (.int i) j pos) (tI g W true (eK (.int i))) := se_con pe_int fun _ _ => .int _
theorem z_s {i j} : PE X (.Constant (.str i) j pos) (tI g W true (eK (.str i))) := se_con pe_str fun _ _ => .str _
theorem z_b {i j} : PE X (.Constant (.bool i) j pos) (tI g W true (eK (.bl i))) := se_con pe_bl fun _ _ => .bl _
theorem z_non {j} : PE X (.Constant .none j pos) (tI g W true (eK .non)) := se_con pe_non fun _ _ => .non
theorem z_gs {s : Str} {t : Tok} (hm : X.mg n = some (.str s t)) (hg : Gl X n := by rfl) (hd : (n == ("__debug__" : Str)) = false := by decide) : PE X (.Name n pos) (tI g W true (eK (.str s))) := se_con (pe_glob (v := .str s) hg hm ⟨t, rfl⟩ hd) fun _ _ => .str _
theorem z_gi {s : Int} {t : Tok} (hm : X.mg n = some (.int s t)) (hg : Gl X n := by rfl) (hd : (n == ("__debug__" : Str)) = false := by decide) : PE X (.Name n pos) (tI g W true (eK (.int s))) := se_con (pe_glob (v := .int s) hg hm ⟨t, rfl⟩ hd) fun _ _ => .int _
theorem z_neg (h : PE X a (tI g W x f)) : PE X (.UnaryOp .USub a pos) (tI g W true (eNeg f)) := se_neg h
theorem z_not (h : PE X a (tI g W x f)) : PE X (.UnaryOp .Not a pos) (tI g W true (eNot f)) := se_not h
theorem z_add (G : Gof g X) (h : PE X a (tI g W x f)) (h' : PE X b (tI g W y k)) : PE X (.BinOp a .Add b pos) (tI g W true (eB .add f k)) := se_bin opr_add (by rw [G.K]; exact opd_add) h h'
theorem z_sub (h : PE X a (tI g W x f)) (h' : PE X b (tI g W y k)) : PE X (.BinOp a .Sub b pos) (tI g W true (eB .sub f k)) := se_bin op_sub opd_sub h h'
theorem z_mul (h : PE X a (tI g W x f)) (h' : PE X b (tI g W y k)) : PE X (.BinOp a .Mult b pos) (tI g W true (eB .mul f k)) := se_bin opr_mul opd_mul h h'
theorem z_fdiv (h : PE X a (tI g W x f)) (h' : PE X b (tI g W y k)) : PE X (.BinOp a .FloorDiv b pos) (tI g W true (eB .fdiv f k)) := se_bin op_fdivW opd_fdiv h h'
theorem z_mod (h : PE X a (tI g W x f)) (h' : PE X b (tI g W y k)) : PE X (.BinOp a .Mod b pos) (tI g W true (eB .mod f k)) := se_bin op_mod opd_mod h h'
theorem z_pow (h : PE X a (tI g W x f)) (h' : PE X b (tI g W y k)) : PE X (.BinOp a .Pow b pos) (tI g W true (eB .pow f k)) := se_bin op_pow opd_pow h h'
theorem z_gt (h : PE X a (tI g W x f)) (h' : PE X b (tI g W y k)) : PE X (.Compare a [.Gt] [b] pos) (tI g W true (eC .gt f k)) := se_cmp op_gt opd_gt h h' (nobehind b (by decide) (by decide))
theorem z_ge (h : PE X a (tI g W x f)) (h' : PE X b (tI g W y k)) : PE X (.Compare a [.GtE] [b] pos) (tI g W true (eC .ge f k)) := se_cmp op_ge opd_ge h h' (nobehind b (by decide) (by decide))
theorem z_eq (hu : X.A.units + 70 < cLine) (G : Gof g X) (h : PE X a (tI g W x f)) (h' : PE X b (tI g W y k)) : PE X (.Compare a [.Eq] [b] pos) (tI g W true (eC .eq f k)) := se_cmp (op_eqD (by omega)) (opd_eq G) h h' (nobehind b (by decide) (by decide))
theorem z_ntn (h : PE X a (tI g W x f)) (h' : PE X b (tI g W y k)) : PE X (.Compare a [.IsNot] [b] pos) (tI g W true (eC .notN f k)) := se_cmp op_notN opd_notN h h' (nobehind b (by decide) (by decide))
theorem z_in (hu : X.A.units + 70 < cLine) (G : Gof g X) (h : PE X a (tI g W x f)) (h' : PE X b (tI g W y k)) (hm : behindInMarks .In b = false := by rfl) : PE X (.Compare a [.In] [b] pos) (tI g W true (eC .mem f k)) := se_cmp (opr_mem hu G) (opd_mem G) h h' hm
theorem z_lelt (h : PE X a (tI g W x f)) (h' : PE X b (tI g W y k)) (h3 : PE X c (tI g W z l)) (hm : lastMarks [.LtE, .Lt] [b, c] = false := by rfl) : PE X (.Compare a [.LtE, .Lt] [b, c] pos) (tI g W true (eCC .le .lt f k l)) := se_chn op_le op_lt opd_le opd_lt h h' h3 hm
theorem z_and {rest : List Expr} (h : PE X a (tI g W x f)) (h' : PE X (.BoolOp .And (b :: rest) pos) (tI g W y k)) : PE X (.BoolOp .And (a :: b :: rest) pos) (tI g W false (eAnd f k)) := se_and h h'
theorem z_or {rest : List Expr} (h : PE X a (tI g W x f)) (h' : PE X (.BoolOp .Or (b :: rest) pos) (tI g W y k)) : PE X (.BoolOp .Or (a :: b :: rest) pos) (tI g W false (eOr f k)) := se_or h h'
theorem z_one {op} (h : PE X a (tI g W x f)) : PE X (.BoolOp op [a] pos) (tI g W x f) := pe_one h
theorem z_ix (hu : X.A.units + 70 < cLine) (G : Gof g X) (h : PE X a (tI g W x f)) (h' : PE X b (tI g W y k)) (hs : PlainIx b := by intro _ _; rfl) : PE X (.Subscript a b pos) (tI g W false (eIx f k)) := se_ix (ixr_all hu G) (opd_idx G) h h' hs
theorem z_sl {lo hi : Option Expr} {p2 : Pos} {nb nc : Bool} (G : Gof g X) (h : PE X a (tI g W x f)) (h' : PO X lo (tPO g W k nb)) (h3 : PO X hi (tPO g W l nc)) : PE X (.Subscript a (.Slice lo hi none p2) pos) (tI g W true (eSl f nb k nc l)) := se_sl G h h' h3
theorem z_pe (h : PE X a (tI g W x f)) : PO X (some a) (tPO g W f false) := po_e h
theorem z_pn : PO X none (tPO g W (eK .non) true) := po_n
theorem z_aN : PA X [] (tIA g W true aN) := sa_nil
theorem z_aC (h : PE X a (tI g W x f)) (h' : PA X es (tIA g W y k)) (hs : starEach (a :: es) X.env = (false, eval a X.env) :: starEach es X.env := by exact starE (by rfl)) : PA X (a :: es) (tIA g W false (aC f k)) := sa_cons h h' hs
theorem z_aO (h : PE X a (tI g W true f)) (h' : PA X es (tIA g W true k)) (hs : starEach (a :: es) X.env = (false, eval a X.env) :: starEach es X.env := by exact starE (by rfl)) : PA X (a :: es) (tIA g W true (aC f k)) := sa_ocons (r := false) (fun _ => rfl) h h' hs
theorem z_tup {j : Nat} (h : PA X es (tIA g W true f)) : PE X (.Tuple es j pos) (tI g W true (eTup f)) := se_tup h
theorem z_lst (h : PA X es (tIA g W true f)) : PE X (.List es pos) (tI g W true (eLst f)) := se_lst h
theorem z_len (G : Gof g X) (ha : PA X (e :: es) (tIA g W x f)) (hm : X.mg "len" = none) (hg : Gl X "len" := by rfl) (he : starEach (e :: es) X.env = (false, eval e X.env) :: starEach es X.env := by exact starE (by rfl)) (hpl : (backTo pos (starEach es X.env)).any (·.1) = false := by rfl) :
    PE X (.Call (.Name "len" p) (e :: es) [] pos) (tI g W true (eBi .len f)) := se_callB cr_lenD (opc_len G) hg hm PySem.boot_len ha (by decide) (by decide) he hpl
theorem z_tuple (G : Gof g X) (ha : PA X (e :: es) (tIA g W x f)) (hm : X.mg "tuple" = none) (hg : Gl X "tuple" := by rfl) (he : starEach (e :: es) X.env = (false, eval e X.env) :: starEach es X.env := by exact starE (by rfl)) (hpl : (backTo pos (starEach es X.env)).any (·.1) = false := by rfl) :
    PE X (.Call (.Name "tuple" p) (e :: es) [] pos) (tI g W true (eBi .tuple f)) := se_callTy call_tuple_of (opc_tuple G) hg hm (by decide +kernel) ha (by decide) (by decide) he hpl
theorem z_int (ha : PA X (e :: es) (tIA g W x f)) (hm : X.mg "int" = none) (hg : Gl X "int" := by rfl) (he : starEach (e :: es) X.env = (false, eval e X.env) :: starEach es X.env := by exact starE (by rfl)) (hpl : (backTo pos (starEach es X.env)).any (·.1) = false := by rfl) :
    PE X (.Call (.Name "int" p) (e :: es) [] pos) (tI g W true (eBi .int f)) := se_callTy cr_intD opc_int hg hm (by decide +kernel) ha (by decide) (by decide) he hpl
theorem z_min (hc : X.calm = true) (ha : PA X (e :: es) (tIA g W x f)) (hm : X.mg "min" = none) (hg : Gl X "min" := by rfl) (he : starEach (e :: es) X.env = (false, eval e X.env) :: starEach es X.env := by exact starE (by rfl)) (hpl : (backTo pos (starEach es X.env)).any (·.1) = false := by rfl) :
    PE X (.Call (.Name "min" p) (e :: es) [] pos) (tI g W true (eBi .min f)) := se_callB (call_min2 hc) opc_min hg hm (by decide +kernel) ha (by decide) (by decide) he hpl
theorem z_max (hc : X.calm = true) (ha : PA X (e :: es) (tIA g W x f)) (hm : X.mg "max" = none) (hg : Gl X "max" := by rfl) (he : starEach (e :: es) X.env = (false, eval e X.env) :: starEach es X.env := by exact starE (by rfl)) (hpl : (backTo pos (starEach es X.env)).any (·.1) = false := by rfl) :
    PE X (.Call (.Name "max" p) (e :: es) [] pos) (tI g W true (eBi .max f)) := se_callB (call_max2 hc) opc_max hg hm (by decide +kernel) ha (by decide) (by decide) he hpl
theorem z_all (hc : X.calm = true) (G : Gof g X) (ha : PA X (e :: es) (tIA g W x f)) (hm : X.mg "all" = none) (hg : Gl X "all" := by rfl) (he : starEach (e :: es) X.env = (false, eval e X.env) :: starEach es X.env := by exact starE (by rfl)) (hpl : (backTo pos (starEach es X.env)).any (·.1) = false := by rfl) :
    PE X (.Call (.Name "all" p) (e :: es) [] pos) (tI g W true (eBi .all f)) := se_callB (cr_all hc) (opc_all G) hg hm (by decide +kernel) ha (by decide) (by decide) he hpl
def eIsi (t : Ty) (f : Sl → R D) : Sl → R D := fun σ => (f σ).bind fun d => blR (isTy t d)
theorem z_isi (G : Gof g X) (t : Ty) {p3 : Pos} (ha : PE X e (tI g W x f)) (hm : X.mg "isinstance" = none) (hm2 : X.mg n = none) (hb : bootBuiltins n = some (.type t.nm) := by decide +kernel) (hg : Gl X "isinstance" := by rfl) (hg2 : Gl X n := by rfl)
    (hn : n ≠ "__name__" := by decide) (hd : (n == ("__debug__" : Str)) = false := by decide)
    (he : starEach [e, .Name n p3] X.env = (false, eval e X.env) :: starEach [.Name n p3] X.env := by exact starE (by rfl)) (hpl : (backTo pos (starEach [.Name n p3] X.env)).any (·.1) = false := by rfl) :
    PE X (.Call (.Name "isinstance" p) [e, .Name n p3] [] pos) (tI g W true (eIsi t f)) :=
  (pe_callB call_isi hg hm (by decide +kernel) (pa_cons ha (pa_cons (pe_bltn hg2 hm2 hb (v := .ty t.nm) rfl hn hd) pa_nil) he) (by decide) (by decide) he hpl).imp fun σ H Q q => by
    obtain ⟨H0, Z, fps, σl, sr, o⟩ := q
    refine ⟨H0, Z, fps, σl, sr, o.bind.imp fun d o v H' Z' fp p => ?_⟩
    have rs : Reps g Z' H' [d] [v] (fp ++ []) := .cons p.rep .nil
    refine opc_isi (W := W) (t := t) G Z' σ H' [d] [v] _ Q p.zx.inn rs ?_
    exact o.step p.same p.zx fun d q v H2 Z2 fp2 p2 => q v H2 Z2 fp2 (p2.pre p.same p.zx)
theorem len_aN : ∀ (σ : Sl) (ds : List D), aN σ = .ok (.tup ds) → ds.length = 0 := fun σ ds h => by cases h; rfl
theorem len_aC {m : Nat} (h : ∀ (σ : Sl) (ds : List D), k σ = .ok (.tup ds) → ds.length = m) : ∀ (σ : Sl) (ds : List D), aC f k σ = .ok (.tup ds) → ds.length = m + 1 := fun σ ds q => by
  unfold aC at q
  obtain ⟨x, e1, q⟩ := R.bind_ok_inv q
  obtain ⟨r, e2, q⟩ := R.bind_ok_inv q
  obtain ⟨xs, e3, q⟩ := R.bind_ok_inv q
  cases q
  cases r with
  | tup ys => cases e3; rw [List.length_cons, h σ _ e2]
  | _ => cases e3
theorem i_seq (G : Gof g X) (h : PE X e (tI g W x f)) : PI X tg e (tIW g W x (iSeq' f)) := si_seq G h
theorem i_en (G : Gof g X) {elts : List Expr} {kk : Nat} {tpos : Pos} (ha : PA X [e] (tIA g W x f)) (hm : X.mg "enumerate" = none) (hg : Gl X "enumerate" := by rfl) (hs : starEach [e] X.env = [(false, eval e X.env)] := by exact starE (by rfl)) :
    PI X (.Tuple elts kk tpos) (.Call (.Name "enumerate" p) [e] [] pos) (tIW g W x (iEn f)) := si_enum G hg hm ha hs
theorem i_r1 (ha : PA X [e] (tIA g W x f)) (hm : X.mg "range" = none) (hg : Gl X "range" := by rfl) (hs : starEach [e] X.env = [(false, eval e X.env)] := by exact starE (by rfl)) : PI X tg (.Call (.Name "range" p) [e] [] pos) (tIW g W true (iR1 f)) := si_rng1 hg hm ha hs
theorem y_e (h : PE X e (tI g W x f)) (hw : ∀ whole, isTrue e X.env whole = (do let v ← whole; standAt e.pos; holding [v] (truthy v)) := by intro _; rfl) : PT X e (tIT g W f) := (pt_val h hw).imp fun _ _ _ q => tIT_tB q
theorem y_lt (h : PE X a (tI g W x f)) (h' : PE X b (tI g W y k)) : PT X (.Compare a [.Lt] [b] pos) (tIT g W (eC .lt f k)) := st_cmp op_lt opd_lt h h' (nobehind b (by decide) (by decide))
theorem y_gt (h : PE X a (tI g W x f)) (h' : PE X b (tI g W y k)) : PT X (.Compare a [.Gt] [b] pos) (tIT g W (eC .gt f k)) := st_cmp op_gt opd_gt h h' (nobehind b (by decide) (by decide))
theorem y_ge (h : PE X a (tI g W x f)) (h' : PE X b (tI g W y k)) : PT X (.Compare a [.GtE] [b] pos) (tIT g W (eC .ge f k)) := st_cmp op_ge opd_ge h h' (nobehind b (by decide) (by decide))
theorem y_eq (hu : X.A.units + 70 < cLine) (G : Gof g X) (h : PE X a (tI g W x f)) (h' : PE X b (tI g W y k)) : PT X (.Compare a [.Eq] [b] pos) (tIT g W (eC .eq f k)) := st_cmp (op_eqD (by omega)) (opd_eq G) h h' (nobehind b (by decide) (by decide))
theorem y_ne (hu : X.A.units + 70 < cLine) (G : Gof g X) (h : PE X a (tI g W x f)) (h' : PE X b (tI g W y k)) : PT X (.Compare a [.NotEq] [b] pos) (tIT g W (eC .ne f k)) := st_cmp (op_neD (by omega)) (opd_ne G) h h' (nobehind b (by decide) (by decide))
theorem y_isn (h : PE X a (tI g W x f)) (h' : PE X b (tI g W y k)) : PT X (.Compare a [.Is] [b] pos) (tIT g W (eC .isN f k)) := st_cmp op_isN opd_isN h h' (nobehind b (by decide) (by decide))
theorem y_ntn (h : PE X a (tI g W x f)) (h' : PE X b (tI g W y k)) : PT X (.Compare a [.IsNot] [b] pos) (tIT g W (eC .notN f k)) := st_cmp op_notN opd_notN h h' (nobehind b (by decide) (by decide))
theorem y_nin (hu : X.A.units + 70 < cLine) (G : Gof g X) (h : PE X a (tI g W x f)) (h' : PE X b (tI g W y k)) (hm : behindInMarks .NotIn b = false := by rfl) : PT X (.Compare a [.NotIn] [b] pos) (tIT g W (eC .nmem f k)) := st_cmp (opr_nmem hu G) (opd_nmem G) h h' hm
theorem y_not (h : PT X a (tIT g W f)) : PT X (.UnaryOp .Not a pos) (tIT g W (eNot f)) := st_not h
theorem w_and1 (h : PT X a (tIT g W f)) : PW X (.BoolOp .And [a] pos) (tIT g W f) := pw_and1 h
theorem w_or1 (h : PT X a (tIT g W f)) : PW X (.BoolOp .Or [a] pos) (tIT g W f) := pw_or1 h
theorem w_and {rest : List Expr} (h : PT X a (tIT g W f)) (h' : PW X (.BoolOp .And (b :: rest) pos) (tIT g W k)) : PW X (.BoolOp .And (a :: b :: rest) pos) (tIT g W (eAnd f k)) := sw_and h h'
theorem w_or {rest : List Expr} (h : PT X a (tIT g W f)) (h' : PW X (.BoolOp .Or (b :: rest) pos) (tIT g W k)) : PW X (.BoolOp .Or (a :: b :: rest) pos) (tIT g W (eOr f k)) := sw_or h h'
theorem y_w (h : PW X a (tIT g W f)) : PT X a (tIT g W f) := h.pt
end
end DI
namespace DI
open PySem PySem.Spec PyProof.Rows L2
section
variable {X : Cx} {g : Gv} {W : L2.WX} {a b c e tg : Expr} {es : List Expr} {f k l fc fe : Sl → R D} {sf sk : SF} {x y z : Bool} {pos p spos : Pos} {n : Str} {sts sts' : List Stmt}
theorem t_set (i : Nat) (nd : X.N.Nodup) (he : PE X e (tI g W true fe)) (hi : X.N[i]? = some n := by rfl) (hx : Loc X.env.scope n := by first | exact Or.inl rfl | exact Or.inr rfl) (hs : swapsWith e (some (.Name n p)) pos.line X.env = pure false := by rfl)
    (hf : X.fn n = true ∨ X.env.scope.names.lookup n = some .local := by first | exact Or.inl rfl | exact Or.inr rfl) (np : Np g i := by first | exact Or.inl rfl | exact Or.inr (by decide)) : PS X (.Assign [.Name n p] e pos) (tS g W (sSet i fe)) := ss_set nd hi hx he hs hf np
theorem g_one (i : Nat) (nd : X.N.Nodup) (hi : X.N[i]? = some n := by rfl) (hx : Loc X.env.scope n := by first | exact Or.inl rfl | exact Or.inr rfl) (hf : X.fn n = true ∨ X.env.scope.names.lookup n = some .local := by first | exact Or.inl rfl | exact Or.inr rfl) : PG X (.Name n pos) (tG g (.one i)) := sg_one nd hi hx hf
theorem g_nil : PGs X [] (tGs g []) := sgs_nil
theorem g_cons {i : Nat} {is : List Nat} (h1 : PG X e (tG g (.one i))) (h2 : PGs X es (tGs g is)) (hs : (assignEach (e :: es) X.env).map (·.2) = assign e X.env :: (assignEach es X.env).map (·.2) := by rfl) : PGs X (e :: es) (tGs g (i :: is)) := sgs_cons h1 h2 hs
theorem g_many {kk : Nat} {is : List Nat} (G : Gof g X) (h : PGs X es (tGs g is)) (hc : X.calm = true := by rfl) (hn : (assignEach es X.env).length = is.length := by rfl) (hst : (assignEach es X.env).findIdx? (·.1) = none := by rfl) : PG X (.Tuple es kk pos) (tG g (.many is)) := sg_many G hc h hn hst
theorem t_if (hc : PT X c (tIT g W fc)) (ha : PSs X sts (tS g W sf)) (hb : PSs X sts' (tS g W sk)) : PS X (.If c sts sts' pos) (tS g W (sIf fc sf sk)) := ss_if hc ha hb
theorem t_for {iter : Expr} {p : Pat} {fi : Sl → R (List D)} (hp : PassesOwn (model X.prog X.w) X.A X.env X.xe) (hi : PI X tg iter (tIW g W true fi)) (hg : PG X tg (tG g p)) (hb : PSs X sts (tS g W sf)) (hc : X.calm = true := by rfl)
    (hs : ∀ x, foldedSetIterable iter X.env x = pure x := by intro _; rfl) (np : NpL g (psl p) := by first | exact Or.inl rfl | exact Or.inr (by decide)) : PS X (.For tg iter sts [] pos) (tS g W (sFor p fi sf)) := ss_for hp hc hi hg hb hs np
theorem t_ret (he : PE X e (tI g W true fe)) (hpn : g.pin = none := by rfl) : PS X (.Return (some e) pos) (tS g W (sRet fe)) := ss_ret he hpn
theorem t_retV (i : Nat) (hN : X.N[i]? = some n := by rfl) (hv : Vis X.env.scope n := by first | exact Or.inl rfl | exact Or.inr (Or.inl rfl) | exact Or.inr (Or.inr rfl)) (hd : (n == ("__debug__" : Str)) = false := by decide) (hcd : (n == ("__classdict__" : Str)) = false := by decide) (hpn : g.pin = none := by rfl) :
    PS X (.Return (some (.Name n p)) pos) (tS g W (sRetV i)) := ss_retV hN hv hd hcd hpn
theorem t_drop (he : PE X e (tI g W x fe)) (hs : swapsWith e none pos.line X.env = pure false := by rfl) : PS X (.Expr e pos) (tS g W (sDrop fe)) := ss_drop he hs
theorem t_app (i : Nat) (G : Gof g X) (he : PE X e (tI g W true fe)) {apos cpos : Pos} (hN : X.N[i]? = some n := by rfl) (hv : Vis X.env.scope n := by first | exact Or.inl rfl | exact Or.inr (Or.inl rfl) | exact Or.inr (Or.inr rfl)) (hd : (n == ("__debug__" : Str)) = false := by decide) (hcd : (n == ("__classdict__" : Str)) = false := by decide)
    (hst : starEach [e] X.env = (false, eval e X.env) :: starEach [] X.env := by exact starE (by rfl))
    (hbase : attributeBase (.Name n p) "append" X.env (eval (.Name n p) X.env) = eval (.Name n p) X.env := by rfl)
    (hfew : ((backTo cpos (starEach [e] X.env)).all (fun x => !x.1) && (backToKw cpos (keywordEach [] X.env)).all (fun x => x.1.isSome)
      && decide ([e].length + ([] : List Keyword).length + (if ([] : List Keyword).isEmpty then 0 else 1) < 30)) = true := by rfl)
    (hline : (apos.endLine == cpos.line) = true := by rfl) (hplain : (backTo cpos (starEach [] X.env)).any (·.1) = false := by rfl)
    (hs : swapsWith (.Call (.Attribute (.Name n p) "append" apos) [e] [] cpos) none pos.line X.env = pure false := by rfl) :
    PS X (.Expr (.Call (.Attribute (.Name n p) "append" apos) [e] [] cpos) pos) (tS g W (sApp i fe)) := ss_app G hN hv hd hcd he hst hbase hfew hline hplain hs
theorem z_comp {elt iter : Expr} {ifs : List Expr} {scope : Scope} {wi : Sl → R (List D)} {p : Pat} (own : List (Str × Nat)) (nd : X.N.Nodup) (hi : PI X tg iter (tIW g W x wi))
    (hg : ∀ (s : Shared) (H : Hp) (C : Addr) (cl : List (Str × Addr)) (fp : List Addr), PG (X.blk s H scope (compEnvC scope cl C X.env) fp) tg (tG g p)) (ht : ∀ (s : Shared) (H : Hp) (C : Addr) (cl : List (Str × Addr)) (fp : List Addr), PTs (X.blk s H scope (compEnvC scope cl C X.env) fp) ifs (tIT g WF fc))
    (he : ∀ (s : Shared) (H : Hp) (C : Addr) (cl : List (Str × Addr)) (fp : List Addr), PE (X.blk s H scope (compEnvC scope cl C X.env) fp) elt (tI g WF true fe))
    (ok : blkC X.N X.env.scope scope own = true := by first | rfl | kernel_rfl) (hp : ∀ j ∈ psl p, j ∈ own.map (·.2) := by decide) (hc : X.calm = true := by rfl) (hs : ∀ x, foldedSetIterable iter X.env x = pure x := by intro _; rfl) :
    PE X (.ListComp elt [⟨tg, iter, ifs, 0⟩] scope pos) (tI g W true (eComp (own.map (·.2)) p wi fc fe)) := se_comp hc nd ok hp hi hg ht he hs
end
theorem hu70 {A : Around} {k : Nat} (hr : Room k A) : A.units + 70 < cLine := Nat.lt_of_le_of_lt (by omega) hr.un
def DefOk (P : Program) (w : World) (K : PySem.W.Frag) (mg : Str → Option Value) (base : Heap) (g : Gv) (k : Nat) (n : Str) (ps : List Str) (m : Nat) (h : List D → R D) : Prop :=
  ∃ f fd, mg n = some (.ref f) ∧ PySem.W.keepIn K (.ref f) = true ∧ Binds K fd ps [] ∧ FnOk P w K mg base (L2.CX P w) k f fd ps (spI g m h)
def TxD (K : PySem.W.Frag) (mg : Str → Option Value) (n : Str) (st : Stmt) (ps : List Str) : Prop := ∃ f fd, Fun K n n st f fd ∧ mg n = some (.ref f) ∧ Binds K fd ps []
theorem z_call' {X : Cx} {g : Gv} {W : L2.WX} {e : Expr} {es : List Expr} {f : Sl → R D} {x : Bool} {pos p : Pos} {n : Str} {j m : Nat} {ps : List Str} {h : List D → R D} (F : DefOk X.prog X.w X.K X.mg X.base g j n ps m h) (hr : Room j X.A) (tk : Takes X W) (ha : PA X (e :: es) (tIA g W x f)) (hlen : ∀ σ ds, f σ = .ok (.tup ds) → ds.length = m)
    (hg : Gl X n := by rfl) (hdb : (n == ("__debug__" : Str)) = false := by decide) (he : starEach (e :: es) X.env = (false, eval e X.env) :: starEach es X.env := by exact starE (by rfl)) (hpl : (backTo pos (starEach es X.env)).any (·.1) = false := by rfl) :
    PE X (.Call (.Name n p) (e :: es) [] pos) (tI g W true (eF h f)) := by
  obtain ⟨fn, fd, hm, hk, hb, F⟩ := F
  exact se_call F hr hg hm hk hb tk ha hlen hdb he hpl
section
variable {P : Program} {w : World} {K : PySem.W.Frag} {mg : Str → Option Value} {base : Heap}
theorem di_def {n : Str} {st : Stmt} {N ps : List Str} {k : Nat} (g : Gv) (T : TxD K mg n st ps) (S : FnScope N ps (defScope st)) (r : Nat) (hn : r = ps.length) (m : Nat) (hm : m = N.length) (b : SF)
    (hb : ∀ (f : Addr) (cdv : Value) (A : Around) (outer : List Env) (s : Shared) (H : Hp) (E : XK), Room k (A.deeper (envOfC n (defScope st) s.heap.objs.size f cdv)) →
      Takes (cxOf (L2.CX P w) P w K mg base N n (defScope st) f cdv A outer s H E) (fun cls d _ H => E cls d H) →
      PassesOwn (model P w) (cxOf (L2.CX P w) P w K mg base N n (defScope st) f cdv A outer s H E).A (cxOf (L2.CX P w) P w K mg base N n (defScope st) f cdv A outer s H E).env (cxOf (L2.CX P w) P w K mg base N n (defScope st) f cdv A outer s H E).xe →
      PSs (cxOf (L2.CX P w) P w K mg base N n (defScope st) f cdv A outer s H E) (defBody st) (tS g (fun cls d _ H => E cls d H) b)) (hpn : g.pin = none := by rfl) (htb : g.tab = none := by rfl) : DefOk P w K mg base g (k + 1) n ps r (runF m b) := by
  obtain ⟨f, fd, F, hg, hbd⟩ := T
  exact ⟨f, fd, hg, F.kp, hbd, di_fn g F S r hn m hm b hpn htb (hb f)⟩
theorem txd_mk {n : Str} {st : Stmt} {ps : List Str} {h : Heap} {f : Addr} {oc : Value} {od an : Option Addr} {osl : Array (Option Value)} {kV doc pm cdv ct : Value} (X : K.In h) (G : h.Ns mainGlobals mg) (a : PySem.W.nsIn K mainGlobals n = some (some (.ref f)))
    (l : K.lookup f = some ⟨oc, od, .func (PySem.W.fnOf n n (defArgs st) (defBody st) (defScope st) .none kV doc pm an cdv ct), osl⟩) (c : PySem.W.codeIn K cdv n = true) (k : PySem.W.keepIn K (.ref f) = true)
    (hb : ∀ (kV doc pm : Value) (an : Option Addr) (cdv ct : Value) (us : List Value), us.length = ps.length → bindArgs (PySem.W.fnOf n n (defArgs st) (defBody st) (defScope st) .none kV doc pm an cdv ct) ⟨us, []⟩ = pure (ps.zip us)) : TxD K mg n st ps :=
  ⟨f, _, fun_mk l c k, PySem.W.mg_of X G a, (fun_mk l c k).binds hb⟩
end
theorem cx_none {P : Program} {w : World} {H : Hp} {s : Shared} {e : Value} {s' : Shared} (h : L2.CX P w [] H s (fun _ _ _ => False) e s') : False := by
  obtain ⟨_, _, _, _, _, _, _, _, _, _, _, _, z⟩ := h
  exact z
end DI
namespace DI
open PySem PySem.Spec PyProof.Rows L2
def oexIn (K : PySem.W.Frag) (C : Addr) : Bool := match K.lookup C with
  | some ⟨.type "type", _, .cls cd, sl⟩ => (match cd.mro, sl.toList with
    | .ref C' :: bm, [_, _, _, _, some (.builtin n), _] => C' == C && n == "ValueError.__new__" && !cd.hasDel && cd.hasDict && PySem.HandSPX.refsVE bm
    | _, _ => false)
  | _ => false
theorem oex_of {K : PySem.W.Frag} {C : Addr} (q : oexIn K C = true) : ∃ nm q N bs bm sn sub ab col dd k0 k1 k2 k3 k5, K.lookup C = some (excClassObj nm q C N bs bm true sn sub ab col dd k0 k1 k2 k3 k5 "ValueError.__new__") ∧ PySem.HandSPX.refsVE bm = true := by
  unfold oexIn at q
  split at q
  · rename_i dd cd sl ho
    split at q
    · rename_i C' bm k0 k1 k2 k3 n k5 hm hs
      simp only [Bool.and_eq_true, beq_iff_eq, Bool.not_eq_true'] at q
      obtain ⟨⟨⟨⟨rfl, rfl⟩, hdel⟩, hd⟩, ht⟩ := q
      obtain ⟨nm, bs, mro, ns, qn, hdct, sn, sub, ab, col, del⟩ := cd
      dsimp only at hm hdel hd
      subst hm hdel hd
      have hsl : sl = #[k0, k1, k2, k3, some (.builtin "ValueError.__new__"), k5] := by
        obtain ⟨l⟩ := sl
        simp only at hs
        rw [hs]
      subst hsl
      exact ⟨nm, qn, ns, bs, bm, sn, sub, ab, col, dd, k0, k1, k2, k3, k5, ho, ht⟩
    · cases q
  · cases q
structure XcT (K : PySem.W.Frag) (mg : Str → Option Value) (n : Str) (C : Addr) : Prop where
  T : OexC K C
  mgC : mg n = some (.ref C)
theorem xct_mk {K : PySem.W.Frag} {mg : Str → Option Value} {n : Str} {C : Addr} (h1 : oexIn K C = true) (h2 : PySem.W.findIn K (.ref C) "__setattr__" = some (some (.builtin "object.__setattr__"))) (h3 : PySem.W.subIn K (.ref C) (.type "BaseException") = some true)
    (h4 : PySem.W.typeIn K (.ref C) = some (.type "type")) (h5 : PySem.W.keepIn K (.ref C) = true) (h6 : mg n = some (.ref C)) : XcT K mg n C := ⟨⟨oex_of h1, h2, h3, h4, h5⟩, h6⟩
structure XbT (K : PySem.W.Frag) (mg : Str → Option Value) (n : Str) : Prop where
  ex : ∃ (C : Addr) (mc : Value), mg n = some (.ref C) ∧ PySem.W.specialIn K (.ref C) "__getattribute__" = some (some (.builtin "type.__getattribute__")) ∧ PySem.W.readsIn K C mc = true ∧ PySem.W.findCls K (.ref C) mc "__init__" = some (.val (.builtin "ValueError.__init__"))
section
variable {X : Cx} {o e : Expr} {es : List Expr} {to te : TE} {ta : TA} {f : Str} {p p' p1 p2 pos : Pos} {n : Str}
theorem pe_weinit {pl : Sem Bool} (B : XbT X.K X.mg n) (ha : PA X (e :: es) ta) (hg : Gl X n := by rfl) (hdb : (n == ("__debug__" : Str)) = false := by decide)
    (hc : eval (.Call (.Attribute (.Name n p1) "__init__" p2) (e :: es) [] pos) X.env = (do
      let ov ← eval (.Name n p1) X.env
      standAt p2.atName
      let (f, first) ← holding [ov] (getMethod ov "__init__" pl)
      callWith pos f first (backTo pos (starEach (e :: es) X.env)) (backToKw pos (keywordEach [] X.env))) := by rfl)
    (he : starEach (e :: es) X.env = (false, eval e X.env) :: starEach es X.env := by rfl) (hpl : (backTo pos (starEach es X.env)).any (·.1) = false := by rfl) :
    PE X (.Call (.Attribute (.Name n p1) "__init__" p2) (e :: es) [] pos) (tVeI X.K ta) := by
  obtain ⟨C, mc, hm, gS, hr, vV⟩ := B.ex
  refine ⟨fun pins s σ H Q I h => ?_⟩
  refine PySem.W.methodCall_KW (ld_glob I hg hm ?_ hdb) hc
  refine PySem.W.method_cls I.kIn gS (PySem.W.cls_value I.kIn hr vV rfl ?_)
  show wpAny _ _ (callWith pos (Value.builtin "ValueError.__init__") [] (backTo pos (starEach (e :: es) X.env)) []) _ _ _
  refine PyProof.Rows.callWith_method1 (thn (ha.run pos pins _ σ H _ (I.tok _) h) fun us s1 ⟨vs, H1, I1, r1, a, C, ws, ev, hl, T, ea, q⟩ => ?_) he hpl
  subst ev
  cases r1 with
  | @cons _ u0 _ ur ra rw' =>
    obtain rfl : u0 = Value.ref a := ra
    have hlen : ur.length ≤ sizeLine := by
      rw [← Paired.length rw', sizeLine_eq]
      omega
    exact oinit_ok T I1 ea hlen fun s' J => ⟨.non, H1, J, rfl, q⟩
end
def spX (K : PySem.W.Frag) (C : Addr) (m : Nat) (ns : List Str) : Sp := fun vs H Q _ => ∃ (a : Addr) (ws : List V), vs = .ref a :: ws ∧ ws.length = m ∧ H a = some (exo a C none) ∧
  ∀ d H', H d = none → d ≠ a → H' a = some (exo a C (some d)) → H' d = some (exd d (ns.zip ws.reverse)) → (∀ b o, H b = some o → b ≠ a → H' b = some o) → Q .non H'
section
variable {P : Program} {w : World} {K : PySem.W.Frag} {mg : Str → Option Value} {base : Heap}
theorem ok_xinit2 {C f : Addr} {fd : FuncData} {qual f1 f2 msg : Str} {st : Stmt} (Fn : Fun K "__init__" qual st f fd) (S : FnScope ["self", f1, f2] ["self", f1, f2] (defScope st)) (T : OexC K C) (hno1 : PySem.W.findIn K (.ref C) f1 = some none) (hno2 : PySem.W.findIn K (.ref C) f2 = some none)
    (hb : ∀ (cdv : Value) (A : Around) (outer : List Env) (s : Shared) (H : Hp) (E : XK), PSs (cxOf (L2.CX P w) P w K mg base ["self", f1, f2] qual (defScope st) f cdv A outer s H E) (defBody st) (tSeq (tDrop (tVeI K (tCons (tVar 0) (tCons (tC (.str msg)) tNil)))) (tSeq (tOst K f1 (tVar 0) (tVar 1)) (tOst K f2 (tVar 0) (tVar 2))))) :
    FnOk P w K mg base (L2.CX P w) 1 f fd ["self", f1, f2] (spX K C 2 [f2, f1]) := by
  refine Fn.okX S (fun vs H Q E h => ?_) fun cdv A outer s H vs Q E hr h => ⟨_, hb cdv A outer s H E, ?_⟩
  · obtain ⟨a, ws, rfl, l, _⟩ := h
    simp [l]
  · obtain ⟨a, ws, rfl, l, ha, k⟩ := h
    match ws, l, k with
    | [x, y], _, k =>
      refine ⟨_, rfl, a, C, [.str msg], rfl, by show 1 ≤ 1000; omega, T, ha, ?_⟩
      refine ⟨_, rfl, _, rfl, a, C, rfl, T, hno1, .inl ⟨ha, fun d hd ne => ?_⟩⟩
      refine ⟨_, rfl, _, rfl, a, C, rfl, T, hno2, .inr ⟨d, [(f1, x)], upd_same, by rw [upd_ne ne, upd_same], by show 1 ≤ 900; omega, ?_⟩⟩
      refine k d _ hd ne ?_ upd_same fun b o e hb => ?_
      · rw [upd_ne (Ne.symm ne), upd_same]
      · rw [upd_ne (ne_of_none e hd), upd_ne hb, upd_ne (ne_of_none e hd)]; exact e
end
def sRaise (c : Nat) (f : Sl → R D) : SF := fun σ => rS (f σ) σ fun d => match d with
  | .tup ds => if (cleanL ds && noFrzL ds) = true then .er c ds.reverse σ else .bad
  | _ => .bad
theorem Reps.rev {g : Gv} {Z : Addr → Prop} {H : Hp} : ∀ {ds : List D} {vs : List V}, Reps g Z H ds vs [] → Reps g Z H ds.reverse vs.reverse [] := by
  have app : ∀ {ds es : List D} {vs us : List V}, Reps g Z H ds vs [] → Reps g Z H es us [] → Reps g Z H (ds ++ es) (vs ++ us) [] := by
    intro ds
    induction ds with
    | nil =>
      intro es vs us h h2
      generalize hf : ([] : List Addr) = fp at h
      cases h
      exact h2
    | cons d ds ih =>
      intro es vs us h h2
      generalize hf : ([] : List Addr) = fp at h
      cases h with
      | cons a b =>
        obtain ⟨e1, e2⟩ := List.append_eq_nil_iff.mp hf.symm
        subst e1
        subst e2
        exact .cons (f := []) (fs := []) a (ih b h2)
  intro ds
  induction ds with
  | nil =>
    intro vs h
    generalize hf : ([] : List Addr) = fp at h
    cases h
    exact .nil
  | cons d ds ih =>
    intro vs h
    generalize hf : ([] : List Addr) = fp at h
    cases h with
    | cons a b =>
      obtain ⟨e1, e2⟩ := List.append_eq_nil_iff.mp hf.symm
      subst e1
      subst e2
      rw [List.reverse_cons, List.reverse_cons]
      exact app (ih b) (.cons (f := []) (fs := []) a .nil)
theorem Reps.len {g : Gv} {Z : Addr → Prop} {H : Hp} : ∀ {ds : List D} {vs : List V} {fp : List Addr}, Reps g Z H ds vs fp → vs.length = ds.length
  | _, _, _, .nil => rfl
  | _, _, _, .cons _ h => by simp [Reps.len h]
section
variable {X : Cx} {g : Gv} {W : L2.WX} {e : Expr} {es : List Expr} {f : Sl → R D} {x : Bool} {pos p pos' : Pos} {n : Str} {c : Nat}
theorem ss_raise {C fI : Addr} {fd : FuncData} {ps ns : List Str} {m : Nat} (hc : X.calm = true) (tk : Takes X W) (T : XcT X.K X.mg n C) (iC : PySem.W.findIn X.K (.ref C) "__init__" = some (some (.ref fI))) (tI : PySem.W.typeIn X.K (.ref fI) = some (.type "function"))
    (F1 : FnOk X.prog X.w X.K X.mg X.base (L2.CX X.prog X.w) 1 fI fd ps (spX X.K C m ns)) (hb : Binds X.K fd ps []) (hr : Room 2 X.A) (hcl : g.cls c = some (C, ns)) (hns : ns.length = m) (hm0 : ns ≠ []) (hm1 : m ≤ 900) (hp : Passes (L2.CX X.prog X.w) X (fun _ _ _ => False))
    (ha : PA X (e :: es) (tIA g W x f)) (hlen : ∀ σ ds, f σ = .ok (.tup ds) → ds.length = m)
    (hg : Gl X n := by rfl) (hdb : (n == ("__debug__" : Str)) = false := by decide) (he : starEach (e :: es) X.env = (false, eval e X.env) :: starEach es X.env := by exact starE (by rfl)) (hpl : (backTo pos (starEach es X.env)).any (·.1) = false := by rfl) :
    PS X (.Raise (some (.Call (.Name n p) (e :: es) [] pos)) none pos') (tS g W (sRaise c f)) := by
  refine (ps_raise hc tk (pmk_oex (dvs := []) T.T iC tI F1 hr hb .nil hp hg T.mgC ha hdb he hpl)).imp fun E σ H q => ?_
  obtain ⟨H0, Z0, Z, fps, σl, ss, o⟩ := q
  refine ⟨H0, Z, fps, σl, ss.sr, ?_⟩
  have o2 := OutS.rS ss (show OutS g W H0 Z0 Z H E (rS (f σl) σl _) from o)
  cases hf : f σl with
  | bad => rw [hf] at o2; exact o2
  | err c' fs => rw [hf] at o2; exact o2
  | ok d =>
    rw [hf] at o2
    have hl := hlen σl
    cases d with
    | tup ds =>
      have hl := hl ds hf
      by_cases hk : (cleanL ds && noFrzL ds) = true
      · have o3 : OutS g W H0 Z0 Z H E (.er c ds.reverse σl) := by
          have o4 : OutS g W H0 Z0 Z H E (if (cleanL ds && noFrzL ds) = true then .er c ds.reverse σl else .bad) := o2
          rw [if_pos hk] at o4; exact o4
        simp only [Bool.and_eq_true] at hk
        refine ⟨ds, rfl, fun vs H' Z' fp p => ⟨?_, fun a na => ?_⟩⟩
        · rw [p.rep.len, hl]; omega
        · have hfp := Reps.clean p.rep hk.1
          have rp := p.rep
          rw [hfp] at rp
          refine ⟨a, vs, by simp, by rw [rp.len, hl], upd_same, fun d H2 hd nda h1 h2 h3 => ⟨rfl, d, _, h1, h2, ?_, ?_⟩⟩
          · rw [upd_ne nda] at hd; exact hd
          · have hd' : H' d = none := by rw [upd_ne nda] at hd; exact hd
            have same : Same H' (upd (del H2 a) d (.xd (ns.zip vs.reverse))) := fun b o' eb => by
              have nb : b ≠ a := ne_of_none eb na
              rw [upd_ne (ne_of_none eb hd'), del_ne nb]
              exact h3 b o' (by rw [upd_ne nb]; exact eb) nb
            have sf : Same H (upd (del H2 a) d (.xd (ns.zip vs.reverse))) := same_trans p.same same
            have zf : Zx Z Z' H (upd (del H2 a) d (.xd (ns.zip vs.reverse))) := p.zx.trans p.same (.stay p.zx.inn same)
            refine o3 σ _ Z' fps _ _ (ss.step sf zf) (.of_zx sf zf) ⟨C, ns, hcl, rfl, .inr ⟨hm0, d, vs.reverse, rfl, upd_same, by rw [List.length_reverse, rp.len, hl, hns], ?_⟩⟩
            exact Reps.rev ((rp.same (fun _ z => z) same).unzone hk.2)
      · have o4 : OutS g W H0 Z0 Z H E (if (cleanL ds && noFrzL ds) = true then .er c ds.reverse σl else .bad) := o2
        rw [if_neg hk] at o4
        exact o4.elim
    | _ => exact o2.elim
end
end DI
namespace DI
open PySem PySem.Spec PyProof.Rows L2
mutual
def noX : D → Bool
  | .non => true | .bl _ => true | .int _ => true | .str _ => true
  | .tup xs => noXL xs
  | .lst _ xs => noXL xs
  | .dct _ kvs => noXK kvs
  | .obj c fs => decide (20 ≤ c) && noXL fs
def noXL : List D → Bool
  | [] => true
  | x :: xs => noX x && noXL xs
def noXK : List (NestedKey × D) → Bool
  | [] => true
  | (_, x) :: xs => noX x && noXK xs
end
theorem noXK_map : ∀ kvs : List (NestedKey × D), noXK kvs = noXL (kvs.map (·.2))
  | [] => rfl
  | (_, x) :: xs => by rw [noXK, List.map_cons, noXL, noXK_map xs]
abbrev Gv.at (g : Gv) (a : Addr) (c : Nat) (d : Option Addr) : Gv := ⟨g.P, g.w, g.K, g.cls, g.ins, some (a, c, d), g.pin, g.tab, g.opq⟩
section
variable {g : Gv} {Z Z' Z1 : Addr → Prop} {H H' H0 : Hp} {a : Addr} {c : Nat} {d0 : Option Addr}
mutual
theorem Rep.uncur (hc : c < 20) : ∀ {d : D} {v : V} {fp : List Addr}, Rep (g.at a c d0) Z H d v fp → noX d = true → Rep g Z H d v fp
  | _, _, _, .non, _ => .non
  | _, _, _, .bl b, _ => .bl b
  | _, _, _, .int i, _ => .int i
  | _, _, _, .str x, _ => .str x
  | _, _, _, .tup h hs, q => .tup h (Reps.uncur hc hs (by rw [noX] at q; exact q))
  | _, _, _, .lst h hs w, q => .lst h (Reps.uncur hc hs (by rw [noX] at q; exact q)) w
  | _, _, _, .lstR h hs, q => .lstR h (Reps.uncur hc hs (by rw [noX] at q; exact q))
  | _, _, _, .dK h e hs w, q => .dK h e (Reps.uncur hc hs (by rw [noX, noXK_map] at q; exact q)) w
  | _, _, _, .dN h e ne hk hs w, q => .dN h e ne hk (Reps.uncur hc hs (by rw [noX, noXK_map] at q; exact q)) w
  | _, _, _, .exc0 e, q => by
    cases e
    simp only [noX, Bool.and_eq_true, decide_eq_true_eq] at q
    omega
  | _, _, _, .excD e _ _ _ _, q => by
    cases e
    simp only [noX, Bool.and_eq_true, decide_eq_true_eq] at q
    omega
  | _, _, _, .ins e h z l hs, q => .ins e h z l (Reps.uncur hc hs (by rw [noX] at q; exact (Bool.and_eq_true_iff.mp q).2))
  | _, _, _, .box b h e hs z, q => .box b h e (Reps.uncur hc hs (by
    rw [noX, noXL, noXL, Bool.and_true, noX, noXK_map] at q; exact (Bool.and_eq_true_iff.mp q).2)) z
  | _, _, _, .opq e i n c p, q => .opq e i n c p
theorem Reps.uncur (hc : c < 20) : ∀ {ds : List D} {vs : List V} {fp : List Addr}, Reps (g.at a c d0) Z H ds vs fp → noXL ds = true → Reps g Z H ds vs fp
  | _, _, _, .nil, _ => .nil
  | _, _, _, .cons h hs, q => by
    rw [noXL, Bool.and_eq_true] at q
    exact .cons (Rep.uncur hc h q.1) (Reps.uncur hc hs q.2)
end
mutual
theorem Rep.addcur (hg : g.cur = none) : ∀ {d : D} {v : V} {fp : List Addr}, Rep g Z H d v fp → Rep (g.at a c d0) Z H d v fp
  | _, _, _, .non => .non
  | _, _, _, .bl b => .bl b
  | _, _, _, .int i => .int i
  | _, _, _, .str x => .str x
  | _, _, _, .tup h hs => .tup h (Reps.addcur hg hs)
  | _, _, _, .lst h hs w => .lst h (Reps.addcur hg hs) w
  | _, _, _, .lstR h hs => .lstR h (Reps.addcur hg hs)
  | _, _, _, .dK h e hs w => .dK h e (Reps.addcur hg hs) w
  | _, _, _, .dN h e ne hk hs w => .dN h e ne hk (Reps.addcur hg hs) w
  | _, _, _, .exc0 e => by rw [hg] at e; cases e
  | _, _, _, .excD e _ _ _ _ => by rw [hg] at e; cases e
  | _, _, _, .ins e h z l hs => .ins e h z l (Reps.addcur hg hs)
  | _, _, _, .box b h e hs z => .box b h e (Reps.addcur hg hs) z
  | _, _, _, .opq e i n c p => .opq e i n c p
theorem Reps.addcur (hg : g.cur = none) : ∀ {ds : List D} {vs : List V} {fp : List Addr}, Reps g Z H ds vs fp → Reps (g.at a c d0) Z H ds vs fp
  | _, _, _, .nil => .nil
  | _, _, _, .cons h hs => .cons (Rep.addcur hg h) (Reps.addcur hg hs)
end
theorem SR.addcur (hg : g.cur = none) {fps : List (List Addr)} {σl : Sl} {σ : L2.St} (r : SR g H0 Z fps σl σ H) : SR (g.at a c d0) H0 Z fps σl σ H :=
  ⟨r.len, r.lenf, fun i d e => by
    obtain ⟨v, fp, e1, e2, rp⟩ := r.slot i d e
    exact ⟨v, fp, e1, e2, rp.addcur hg⟩, r.gone, r.nd, r.own, r.z, r.same⟩
def noXS (σ : Sl) : Bool := σ.all fun x => match x with
  | some d => noX d
  | none => true
theorem SR.uncur (hc : c < 20) {fps : List (List Addr)} {σl : Sl} {σ : L2.St} (r : SR (g.at a c d0) H0 Z fps σl σ H) (q : noXS σl = true) : SR g H0 Z fps σl σ H :=
  ⟨r.len, r.lenf, fun i d e => by
    obtain ⟨v, fp, e1, e2, rp⟩ := r.slot i d e
    have := List.all_eq_true.mp q (some d) (List.mem_of_getElem? e)
    exact ⟨v, fp, e1, e2, rp.uncur hc this⟩, r.gone, r.nd, r.own, r.z, r.same⟩
end
def cx : Option D → Option D
  | some d => if noX d = true then some d else none
  | none => none
def clearX (σ : Sl) : Sl := σ.map cx
def zx (σl : Sl) (fps : List (List Addr)) : List (List Addr) := List.zipWith (fun x f => if (cx x).isSome = true then f else []) σl fps
theorem zx_sub : ∀ (σl : Sl) (fps : List (List Addr)), (zx σl fps).flatten.Sublist fps.flatten
  | [], fps => by unfold zx; simp
  | _ :: _, [] => by unfold zx; simp
  | x :: σl, f :: fps => by
    have ih := zx_sub σl fps
    unfold zx at ih ⊢
    rw [List.zipWith_cons_cons, List.flatten_cons, List.flatten_cons]
    refine List.Sublist.append ?_ ih
    split
    · exact List.Sublist.refl _
    · exact List.nil_sublist _
theorem cx_some {x : Option D} {d : D} (h : cx x = some d) : x = some d ∧ noX d = true := by
  cases x with
  | none => cases h
  | some e =>
    have h : (if noX e = true then some e else none) = some d := h
    by_cases q : noX e = true
    · rw [if_pos q] at h; cases h; exact ⟨rfl, q⟩
    · rw [if_neg q] at h; cases h
theorem SR.clear {g : Gv} {Z : Addr → Prop} {H H0 : Hp} {a : Addr} {c : Nat} {d0 : Option Addr} (hc : c < 20) {fps : List (List Addr)} {σl : Sl} {σ : L2.St} (r : SR (g.at a c d0) H0 Z fps σl σ H) : SR g H0 Z (zx σl fps) (clearX σl) σ H where
  len := by unfold clearX; rw [List.length_map]; exact r.len
  lenf := by unfold zx; rw [List.length_zipWith, r.len, r.lenf, Nat.min_self]
  slot := fun i d e => by
    unfold clearX at e
    rw [List.getElem?_map] at e
    cases hx : σl[i]? with
    | none => rw [hx] at e; cases e
    | some x =>
      rw [hx] at e
      obtain ⟨rfl, q⟩ := cx_some (Option.some.inj e)
      obtain ⟨v, fp, e1, e2, rp⟩ := r.slot i d hx
      refine ⟨v, fp, e1, ?_, rp.uncur hc q⟩
      unfold zx
      rw [List.getElem?_zipWith, hx, e2]
      simp [cx, q]
  gone := fun i e => by
    unfold clearX at e
    rw [List.getElem?_map] at e
    cases hx : σl[i]? with
    | none => rw [hx] at e; cases e
    | some x =>
      rw [hx] at e
      have hl : i < fps.length := by
        rw [r.lenf, ← r.len]
        exact (List.getElem?_eq_some_iff.mp hx).1
      unfold zx
      rw [List.getElem?_zipWith, hx, List.getElem?_eq_getElem hl]
      have e2 : cx x = none := Option.some.inj e
      simp [e2]
  nd := r.nd.sublist (zx_sub σl fps)
  own := fun b hb => r.own b ((zx_sub σl fps).subset hb)
  z := r.z
  same := r.same
section
variable {X : Cx} {g : Gv} {W : L2.WX} {fb fh : SF} {n x : Str} {i : Nat} {cEx : Value} {body suite : List Stmt} {b₀ : Stmt} {np pos pos' : Pos}
theorem SS.addcur {g : Gv} {H0 H : Hp} {Z0 Z : Addr → Prop} {fps : List (List Addr)} {σl : Sl} {σ : L2.St} {a : Addr} {c : Nat} {d0 : Option Addr} (hg : g.cur = none) (s : SS g H0 Z0 Z fps σl σ H) : SS (g.at a c d0) H0 Z0 Z fps σl σ H := ⟨s.sr.addcur hg, s.z0, s.zn, ⟨s.gh.pin, s.gh.tab, s.gh.t0⟩⟩
theorem Gh.un {g : Gv} {H0 H : Hp} {Z : Addr → Prop} {σ : L2.St} {a : Addr} {c : Nat} {d0 : Option Addr} (h : Gh (g.at a c d0) H0 Z σ H) : Gh g H0 Z σ H := ⟨h.pin, h.tab, h.t0⟩
theorem SS.uncur {g : Gv} {H0 H : Hp} {Z0 Z : Addr → Prop} {fps : List (List Addr)} {σl : Sl} {σ : L2.St} {a : Addr} {c : Nat} {d0 : Option Addr} (hc : c < 20) (s : SS (g.at a c d0) H0 Z0 Z fps σl σ H) (q : noXS σl = true) : SS g H0 Z0 Z fps σl σ H := ⟨s.sr.uncur hc q, s.z0, s.zn, s.gh.un⟩
theorem exr_rep {a : Addr} {c : Nat} {fs : List D} {cls : Value} {d : Option Addr} {H : Hp} {Z : Addr → Prop} (hg : g.cur = none) (e : ExR g c fs cls d H) : Rep (g.at a c d) Z H (.obj c fs) (.ref a) [] := by
  obtain ⟨C, ns, h1, rfl, ⟨rfl, rfl, rfl⟩ | ⟨hn, dd, vs, rfl, h2, h3, h4⟩⟩ := e
  · exact .exc0 rfl
  · exact .excD rfl h1 h2 h3 ((h4.same (fun _ z => z.elim) (same_refl H)).addcur hg)
def eXf (t : Nat → List Str) (f : Str) (e : Sl → R D) : Sl → R D := fun σ => (e σ).bind fun d => match d with
  | .obj c fs => if t c ≠ [] then ofR (((t c).zip fs).lookup f) else .bad
  | _ => .bad
def eXi (k : Nat → Bool) (e : Sl → R D) : Sl → R D := fun σ => (e σ).bind fun d => match d with
  | .obj c fs => if c < 20 then .ok (.bl (k c)) else .bad
  | _ => .bad
theorem zip_look {g : Gv} {Z : Addr → Prop} {H : Hp} {f : Str} : ∀ {ns : List Str} {vs : List V} {fs : List D} {d : D}, Reps g Z H fs vs [] → (ns.zip fs).lookup f = some d → ∃ v, (ns.zip vs).lookup f = some v ∧ Rep g Z H d v []
  | [], _, _, _, _, e => by cases e
  | m :: ns, vs, fs, d, r, e => by
    generalize hf : ([] : List Addr) = fp at r
    cases r with
    | nil => cases e
    | @cons x v xs vs f1 f2 a b =>
      obtain ⟨e1, e2⟩ := List.append_eq_nil_iff.mp hf.symm
      subst e1
      subst e2
      rw [List.zip_cons_cons, List.lookup_cons] at e ⊢
      cases hq : f == m with
      | true => rw [hq] at e; cases e; exact ⟨v, rfl, a⟩
      | false => rw [hq] at e; exact zip_look b e
theorem out_obj {Z : Addr → Prop} {H : Hp} {a : Addr} {c : Nat} {d : Option Addr} {c' : Nat} {fs : List D} {v : V} {fp : List Addr} (r : Rep (g.at a c d) Z H (.obj c' fs) v fp) (hne : g.ins c' = none) : v = .ref a ∧ c' = c ∧ fp = [] ∧ ((d = none ∧ fs = []) ∨ ∃ dd C ns vs, d = some dd ∧ g.cls c = some (C, ns) ∧ H dd = some (.xd (ns.zip vs)) ∧ Reps (g.at a c d) Z H fs vs []) := by
  cases r with
  | exc0 e => cases e; exact ⟨rfl, rfl, rfl, .inl ⟨rfl, rfl⟩⟩
  | excD e e2 h l hs => cases e; exact ⟨rfl, rfl, rfl, .inr ⟨_, _, _, _, rfl, e2, h, hs⟩⟩
  | ins e h z l hs => rw [show g.ins c' = some _ from e] at hne; cases hne
  | box e h z l hs => rw [show g.ins boxC = some _ from e] at hne; cases hne
  | opq _ e _ _ _ => rw [show g.ins c' = some _ from e] at hne; cases hne
end
end DI
namespace DI
open PySem PySem.Spec PyProof.Rows L2
structure XcA (K : PySem.W.Frag) (mg : Str → Option Value) (n qual : Str) (st : Stmt) (ps ns : List Str) (C fI : Addr) (fd : FuncData) : Prop where
  T : XcT K mg n C
  iC : PySem.W.findIn K (.ref C) "__init__" = some (some (.ref fI))
  tI : PySem.W.typeIn K (.ref fI) = some (.type "function")
  Fn : Fun K "__init__" qual st fI fd
  hb : Binds K fd ps []
  no : ∀ f ∈ ns, PySem.W.findIn K (.ref C) f = some none
  xf : XfC K C
def XcE (K : PySem.W.Frag) (mg : Str → Option Value) (cE : Nat → Option (Addr × List Str)) (n qual : Str) (st : Stmt) (ps ns : List Str) (c : Nat) : Prop := ∃ C fI fd, XcA K mg n qual st ps ns C fI fd ∧ cE c = some (C, ns)
structure Xc0 (K : PySem.W.Frag) (mg : Str → Option Value) (n : Str) (C : Addr) : Prop where
  ex : PySem.W.excIn K C [Value.type "ValueError", Value.type "Exception", Value.type "BaseException", Value.type "object"] "ValueError.__new__" = true
  mgC : mg n = some (.ref C)
  kC : PySem.W.keepIn K (.ref C) = true
  h3 : PySem.W.subIn K (.ref C) (.type "BaseException") = some true
  h4 : PySem.W.typeIn K (.ref C) = some (.type "type")
  ec : ExcC K C
def XcN (K : PySem.W.Frag) (mg : Str → Option Value) (cE : Nat → Option (Addr × List Str)) (n : Str) (c : Nat) : Prop := ∃ C, Xc0 K mg n C ∧ cE c = some (C, [])
def XcM (K : PySem.W.Frag) (mg : Str → Option Value) (cE : Nat → Option (Addr × List Str)) (n : Str) (k : Nat → Bool) : Prop := ∃ C, mg n = some (.ref C) ∧ ∀ c C' ns, cE c = some (C', ns) → PySem.W.exmOne K (.ref C') (.ref C) = some (k c)
def XcI (K : PySem.W.Frag) (mg : Str → Option Value) (cE : Nat → Option (Addr × List Str)) (n : Str) (k : Nat → Bool) : Prop := ∃ C, mg n = some (.ref C) ∧ ∀ c C' ns, cE c = some (C', ns) → PySem.W.kitOne K (.ref C') (.ref C) = some (k c)
def XcV (K : PySem.W.Frag) (cE : Nat → Option (Addr × List Str)) (T : String) : Prop := ∀ c C' ns, cE c = some (C', ns) → PySem.W.kitOne K (.ref C') (.type T) = some true
def tabE : List (Nat × Addr × List Str) → Nat → Option (Addr × List Str)
  | [], _ => none
  | (k, p) :: r, c => if c = k then some p else tabE r c
theorem tabE_all {P : Nat → Addr → List Str → Prop} : ∀ {l : List (Nat × Addr × List Str)}, (∀ t ∈ l, P t.1 t.2.1 t.2.2) → ∀ c C ns, tabE l c = some (C, ns) → P c C ns
  | [], _, c, C, ns, h => by cases h
  | (k, p) :: r, a, c, C, ns, h => by
    rw [tabE] at h
    by_cases e : c = k
    · rw [if_pos e] at h
      cases h
      rw [e]
      exact a _ List.mem_cons_self
    · rw [if_neg e] at h
      exact tabE_all (fun t ht => a t (List.mem_cons_of_mem _ ht)) c C ns h
theorem xc_eq {cE : Nat → Option (Addr × List Str)} {c : Nat} {C C' : Addr} {ns ns' : List Str} (h : cE c = some (C, ns)) (h' : cE c = some (C', ns')) : C' = C ∧ ns' = ns := by
  have e := h.symm.trans h'
  cases e
  exact ⟨rfl, rfl⟩
def oneOfN (l : List Nat) (c : Nat) : Bool := l.contains c
section
variable {X : Cx} {g : Gv} {W : L2.WX} {e : Expr} {es : List Expr} {f : Sl → R D} {x : Bool} {pos p pos' : Pos} {n : Str} {c : Nat}
theorem t_raise {qual : Str} {st : Stmt} {ps ns : List Str} (m : Nat) (h : XcE X.K X.mg g.cls n qual st ps ns c) (ok : ∀ {C fI : Addr} {fd : FuncData}, XcA X.K X.mg n qual st ps ns C fI fd → FnOk X.prog X.w X.K X.mg X.base (L2.CX X.prog X.w) 1 fI fd ps (spX X.K C m ns)) (hr : Room 2 X.A) (tk : Takes X W)
    (ha : PA X (e :: es) (tIA g W x f)) (hlen : ∀ σ ds, f σ = .ok (.tup ds) → ds.length = m) (hns : ns.length = m := by rfl) (hm0 : ns ≠ [] := by decide) (hm1 : m ≤ 900 := by decide) (hc : X.calm = true := by rfl)
    (hg : Gl X n := by rfl) (hdb : (n == ("__debug__" : Str)) = false := by decide) (he : starEach (e :: es) X.env = (false, eval e X.env) :: starEach es X.env := by exact starE (by rfl)) (hpl : (backTo pos (starEach es X.env)).any (·.1) = false := by rfl) :
    PS X (.Raise (some (.Call (.Name n p) (e :: es) [] pos)) none pos') (tS g W (sRaise c f)) := by
  obtain ⟨C, fI, fd, a, hcl⟩ := h
  exact ss_raise hc tk a.T a.iC a.tI (ok a) a.hb hr hcl hns hm0 hm1 passL ha hlen hg hdb he hpl
end
def spLaw (K : PySem.W.Frag) : Sp := fun vs H Q _ => ∃ (a : Addr) (ns : List Int), vs = [.ref a] ∧ SqL K H a (ns.map V.int) ∧ Only H ∧ ns.length ≤ 63 ∧ ∀ v H', v = V.bl true → Q v H'
theorem FnOk.imp {P : Program} {w : World} {K : PySem.W.Frag} {mg : Str → Option Value} {base : Heap} {CX : CXT} {k : Nat} {f : Addr} {fd : FuncData} {ps : List Str} {sp sp' : Sp} (F : FnOk P w K mg base CX k f fd ps sp) (h : ∀ vs H Q E, sp' vs H Q E → sp vs H Q E) : FnOk P w K mg base CX k f fd ps sp' :=
  ⟨fun vs H Q E q => F.len vs H Q E (h vs H Q E q), fun A outer s H args us vs Q E r e b v q => F.run A outer s H args us vs Q E r e b v (h vs H Q E q)⟩
theorem sp_law {g : Gv} {h : List D → R D} (hh : ∀ ns : List Int, ns.length ≤ 63 → h [.lst false (ns.map D.int)] = .ok (.bl true)) : ∀ vs H Q E, spLaw g.K vs H Q E → spI g 1 h vs H Q E := by
  intro vs H Q E q
  obtain ⟨a, ns, rfl, hS, hO, hl, k⟩ := q
  refine ⟨fun _ => False, [.lst false (ns.map D.int)], fun _ z => z.elim, ?_, rfl, ?_⟩
  · have rs : Reps g (fun _ => False) H (ns.map D.int) (ns.map V.int) [] := by
      clear hS hl
      induction ns with
      | nil => exact .nil
      | cons n r ih => exact .cons (f := []) (fs := []) (.int n) ih
    refine .cons (f := []) (fs := []) (.lstR ?_ rs) .nil
    rcases hS with (q | q) | q
    · rcases hO a with e | ⟨o, xs, e⟩
      · rw [e] at q; cases q
      · rw [e] at q; cases q
    · exact .inl q
    · exact .inr q
  · rw [hh ns hl]
    intro v H' Z' fp p
    exact k v H' (rep_bl p.rep).1
end DI
namespace DI
open PySem PySem.Spec PyProof.Rows L2
end DI
namespace DI
open PySem PySem.Spec PyProof.Rows L2
end DI
namespace DI
open PySem PySem.Spec PyProof.Rows L2
def tGL (g : Gv) (is : List Nat) : TG := fun v σ H Q => ∃ H0 Z fps σl a vs xs σl', v = .ref a ∧ SqL g.K H a vs ∧ SR g H0 Z fps σl σ H ∧ Reps g Z H xs vs [] ∧ putAll σl is xs = .ok σl' ∧ ∀ σ' fps', SR g H0 Z fps' σl' σ' H → Wa (psl (.many is)) σ σ' → Q σ' H
section
variable {X : Cx} {g : Gv} {W : L2.WX} {e tg : Expr} {es : List Expr} {fe : Sl → R D} {b : Bool} {pos : Pos} {is : List Nat}
theorem g_manyL {kk : Nat} (G : Gof g X) (h : PGs X es (tGs g is)) (hc : X.calm = true := by rfl) (hn : (assignEach es X.env).length = is.length := by rfl) (hst : (assignEach es X.env).findIdx? (·.1) = none := by rfl) : PG X (.Tuple es kk pos) (tGL g is) := (pg_unl hc h hn hst).imp fun v σ H Q q => by
  obtain ⟨H0, Z, fps, σl, a, vs, xs, σl', rfl, hq, sr, rs, e, q⟩ := q
  rw [G.K]
  exact ⟨a, vs, rfl, hq, by rw [← rs.length, putAll_len e], H0, Z, fps, σl, xs, σl', sr, rs, e, q⟩
end
end DI
namespace DI
open PySem PySem.Spec PyProof.Rows L2
section
variable {X : Cx} {g : Gv} {W : L2.WX} {e : Expr} {es : List Expr} {f : Sl → R D} {x : Bool} {pos p p2 pos2 : Pos} {n : Str}
theorem call_list_txt (hc : X.calm = true) : CallR X (.type "list") (fun xs H Q => ∃ z, xs = [V.str z] ∧ z.length ≤ sizeLine ∧ ∀ q, H q = none → Q (.ref q) (upd H q (.lst (chV z)))) := by
  intro pins s σ H xs us Q I r h
  obtain ⟨z, rfl, hl, q⟩ := h
  obtain ⟨u, rfl, rx⟩ := vals1 r
  obtain ⟨t, rfl⟩ := rx
  have hz : z.cps.size ≤ sizeLine := hl
  refine call_list_str (hn := hz) (I.ok.hd hc) z t fun h' tk acc' c' hkeep hS hacc => ?_
  have el : acc'.toList.length = acc'.size := by simp
  have ec : (chV z).length = z.cps.size := by unfold chV; simp
  refine ⟨.ref s.heap.objs.size, upd H s.heap.objs.size (.lst (chV z)), I.laid hkeep (Nat.le_refl _) (show ObjOk X.prog X.w _ _ _ (.lst (chV z)) from ⟨by rw [ec]; exact hz, acc'.toList, c', ?_, ?_⟩), rfl, q _ (I.hok.fresh (Nat.le_refl _))⟩
  · refine vals_of_at (by rw [ec, el, hacc.1]) fun j y w h1 h2 => ?_
    unfold chV at h1
    obtain ⟨c, tk2, hc1, rfl⟩ := hacc.2 j w (by rw [← Array.getElem?_toList]; exact h2)
    rw [List.getElem?_map, Array.getElem?_toList, hc1] at h1
    cases h1
    exact ⟨tk2, rfl⟩
  · rw [Array.toArray_toList]; exact hS
def liD : List D → R D
  | [.lst _ xs] => if cleanL xs = true then .ok (.lst true xs) else .bad
  | [.tup xs] => if cleanL xs = true then .ok (.lst true xs) else .bad
  | [.str z] => if z.length ≤ sizeLine then .ok (.lst true (z.cps.toList.map oneOf)) else .bad
  | _ => .bad
theorem opc_li (G : Gof g X) : OpC g W true (fun xs H Q => (∃ p ys, xs = [.ref p] ∧ (SqL X.K H p ys ∨ SqT X.K H p ys) ∧ ∀ l, H l = none → Q (.ref l) (upd H l (.lst ys))) ∨ ∃ z, xs = [V.str z] ∧ z.length ≤ sizeLine ∧ ∀ q, H q = none → Q (.ref q) (upd H q (.lst (chV z)))) liD := by
  intro Z σ H ds vs fp Q hz r o
  by_cases hs : ∃ z, ds = [.str z]
  · obtain ⟨z, rfl⟩ := hs
    obtain ⟨v, rfl, rx⟩ := reps1 r
    obtain ⟨hl, o⟩ := Out.guard (show Out g W Z σ H (if z.length ≤ sizeLine then R.ok (D.lst true (z.cps.toList.map oneOf)) else .bad) _ from o)
    obtain ⟨rfl, _⟩ := rep_str rx
    exact .inr ⟨z, rfl, hl, fun p hp => o _ _ Z [p] (post_new hz hp (.lst upd_same (reps_chars _) own_new) (.inr rfl))⟩
  · refine .inl (opc_list (W := W) G Z σ H ds vs fp Q hz r ?_)
    cases ds with
    | nil => exact o.elim
    | cons x r' =>
      cases r' with
      | nil =>
        cases x with
        | str z => exact absurd ⟨z, rfl⟩ hs
        | _ => exact o
      | cons y r' => cases x <;> exact o.elim
noncomputable def eLi (f : Sl → R D) : Sl → R D := fun σ => (f σ).bind fun r => (tupOf r).bind fun ds => liD ds
theorem z_li (hc : X.calm = true) (G : Gof g X) (ha : PA X (e :: es) (tIA g W x f)) (hm : X.mg "list" = none) (hg : Gl X "list" := by rfl) (he : starEach (e :: es) X.env = (false, eval e X.env) :: starEach es X.env := by exact starE (by rfl)) (hpl : (backTo pos (starEach es X.env)).any (·.1) = false := by rfl) :
    PE X (.Call (.Name "list" p) (e :: es) [] pos) (tI g W true (eLi f)) := se_callTy (call_list_of.or (call_list_txt hc)) (opc_li G) hg hm (by decide +kernel) ha (by decide) (by decide) he hpl
end
def rIsX (K : PySem.W.Frag) (C a : Addr) (d : Option Addr) : List V → Hp → VK → Prop := fun xs H Q => ∃ (c : V) (b : Bool), xs = [.ref a, c] ∧ (∀ dd, d = some dd → ∃ fs, H dd = some (.xd fs)) ∧
  ((∃ cv : Value, (∀ u, RelV c u → u = cv) ∧ PySem.W.kitOne K (.ref C) cv = some b) ∨ ∃ (T : Addr) (cs : List Addr), c = .ref T ∧ H T = some (.tup (cs.map V.ref)) ∧ PySem.W.kitAny K (.ref C) (cs.map Value.ref) = some b) ∧ Q (.bl b) H
theorem vals_refs_eq : ∀ (cs : List Addr) {us : List Value}, Vals (cs.map V.ref) us → us = cs.map Value.ref
  | [], us, h => by cases h; rfl
  | c :: cs, us, h => by
    cases h with
    | cons r t => rw [vals_refs_eq cs t]; cases r; rfl
section
variable {X : Cx} {g : Gv} {W : L2.WX} {x : Expr} {fx : Sl → R D} {bo : Bool} {pos p p3 : Pos} {a : Addr} {oe : Obj} {pn : List (Addr × Obj)} {c : Nat} {d : Option Addr} {C : Addr} {ns : List Str}
theorem isx_dict {Z Z' : Addr → Prop} {H H' : Hp} {fs : List D} {v : V} {fp : List Addr} {c' : Nat} (hins : g.ins c' = none) (r : Rep (g.at a c d) Z H (.obj c' fs) v fp) : v = .ref a ∧ c' = c ∧ fp = [] ∧ ∀ dd, d = some dd → ∃ fs, H dd = some (.xd fs) := by
  obtain ⟨e1, e2, e3, ⟨rfl, rfl⟩ | ⟨dd, C2, ns2, vs, rfl, e4, h2, hs⟩⟩ := out_obj r hins
  · exact ⟨e1, e2, e3, fun dd h => nomatch h⟩
  · exact ⟨e1, e2, e3, fun dd h => by cases h; exact ⟨_, h2⟩⟩
end
section
variable {X : Cx} {g : Gv} {W : L2.WX}
def XeC (K : PySem.W.Frag) (cE : Nat → Option (Addr × List Str)) (c : Nat) : Prop := ∃ C ns, cE c = some (C, ns) ∧ ExcC K C
theorem xe_ec {K : PySem.W.Frag} {cE : Nat → Option (Addr × List Str)} {c : Nat} {C : Addr} {ns : List Str} (h : XeC K cE c) (q : cE c = some (C, ns)) : ExcC K C := by
  obtain ⟨C', ns', e, x⟩ := h
  rw [e] at q
  cases q
  exact x
end
end DI
namespace DI
open PySem PySem.Spec PyProof.Rows L2
section
variable {g : Gv} {Z : Addr → Prop} {H : Hp}
theorem Reps.app0 {xs ys : List D} {vs us : List V} (h : Reps g Z H xs vs []) (h2 : Reps g Z H ys us []) : Reps g Z H (xs ++ ys) (vs ++ us) [] := h.append h2
variable {X : Cx} {W : L2.WX} {e e2 : Expr} {fe fk : Sl → R D} {i : Nat} {x : Str} {p pos spos apos cpos : Pos} {b b' : Bool}
theorem intOf_err {d : D} {c : Nat} {fs : List D} : intOf d ≠ .err c fs := fun h => by cases d <;> cases h
theorem ofR_err {α : Type} {o : Option α} {c : Nat} {fs : List D} : ofR o ≠ .err c fs := fun h => by cases o <;> cases h
theorem intOf_ok {d : D} {j : Int} (h : intOf d = .ok j) : d = .int j := by
  cases d with
  | int i => cases h; rfl
  | _ => cases h
theorem ofR_ok {α : Type} {o : Option α} {a : α} (h : ofR o = .ok a) : o = some a := by
  cases o with
  | none => cases h
  | some b => cases h; rfl
end
end DI
namespace DI
open PySem PySem.Spec PyProof.Rows L2
mutual
def unkey : NestedKey → D
  | .none => .non
  | .num i => .int i
  | .text x => .str x
  | .tup qs => .tup (unkeyL qs)
def unkeyL : List NestedKey → List D
  | [] => []
  | q :: qs => unkey q :: unkeyL qs
end
section
variable {g : Gv} {Z : Addr → Prop} {H : Hp}
mutual
theorem KRep.rep : ∀ {q : NestedKey} {v : V}, KRep g.K H q v → Rep g Z H (unkey q) v []
  | _, _, .none => by rw [unkey]; exact .non
  | _, _, .num i => by rw [unkey]; exact .int i
  | _, _, .text x => by rw [unkey]; exact .str x
  | _, _, .tup h hs => by rw [unkey]; exact .tup h (KReps.rep hs)
theorem KReps.rep : ∀ {qs : List NestedKey} {vs : List V}, KReps g.K H qs vs → Reps g Z H (unkeyL qs) vs []
  | _, _, .nil => by rw [unkeyL]; exact .nil
  | _, _, .cons h hs => by rw [unkeyL]; exact .cons (f := []) (fs := []) (KRep.rep h) (KReps.rep hs)
end
variable {X : Cx} {W : L2.WX} {e : Expr} {es : List Expr} {f : Sl → R D} {x : Bool} {pos p : Pos}
end
end DI
namespace DI
open PySem PySem.Spec PyProof.Rows L2
inductive AtomV : D → Value → Prop
  | int (i : Int) (t : Tok) : AtomV (.int i) (.int i t)
  | str (x : Str) (t : Tok) : AtomV (.str x) (.str x t)
def TupC (K : PySem.W.Frag) (mg : Str → Option Value) (n : Str) (ds : List D) : Prop := ∃ (a : Addr) (od : Option Addr) (its : List Value) (m : Nat) (sl : Array (Option Value)), mg n = some (.ref a) ∧ K.lookup a = some ⟨.type "tuple", od, .seq its.toArray m, sl⟩ ∧ its.length ≤ sizeLine ∧ Paired AtomV ds its
theorem atoms_reps {g : Gv} {Z : Addr → Prop} {H : Hp} {ds : List D} {its : List Value} (h : Paired AtomV ds its) : ∃ vs, Vals vs its ∧ Reps g Z H ds vs [] := by
  induction h with
  | nil => exact ⟨[], .nil, .nil⟩
  | cons hp _ ih =>
    obtain ⟨vs, h1, h2⟩ := ih
    cases hp with
    | int i t => exact ⟨.int i :: vs, .cons ⟨t, rfl⟩ h1, .cons (f := []) (fs := []) (.int i) h2⟩
    | str x t => exact ⟨.str x :: vs, .cons ⟨t, rfl⟩ h1, .cons (f := []) (fs := []) (.str x) h2⟩
section
variable {X : Cx} {g : Gv} {W : L2.WX} {e : Expr} {es : List Expr} {f : Sl → R D} {x : Bool} {pos p : Pos} {n : Str}
theorem z_gtup {ds : List D} (G : Gof g X) (h : TupC X.K X.mg n ds) (hg : Gl X n := by rfl) (hd : (n == ("__debug__" : Str)) = false := by decide) : PE X (.Name n pos) (tI g W true (eK (.tup ds))) := by
  obtain ⟨a, od, its, m, sl, hm, hl, hz, hp⟩ := h
  refine se_con (pe_glob (v := .ref a) hg hm rfl hd) fun Z H => ?_
  obtain ⟨vs, h1, h2⟩ := atoms_reps (g := g) (Z := Z) (H := H) hp
  exact .tup (.inr ⟨_, its.toArray, m, by rw [← G.K]; exact hl, rfl, rfl, by rw [List.size_toArray]; exact hz, h1⟩) h2
end
end DI
set_option maxHeartbeats 1000000
namespace ZQ
open PySem
open PySem.Sem (wp)
abbrev Z5 (h : Heap) (z TI TO : Addr) (f0 : Value) (f : Bool) : Prop := h.get? z = some { cls := .type "zip", dict := none, data := .fields #[f0, .bool f, .bool false, .ref TI, .ref TO], slots := #[] }
end ZQ
set_option maxHeartbeats 1000000
namespace ZQ
open PySem
open PySem.Sem (wp)
end ZQ
set_option maxHeartbeats 1000000
namespace ZQ
open PySem
open PySem.Sem (wp)
end ZQ
namespace DI
open PySem PySem.Spec PyProof.Rows L2 ZQ
end DI
namespace DI
open PySem PySem.Spec PyProof.Rows L2
end DI
namespace DI
open PySem PySem.Spec PyProof.Rows L2
end DI
set_option maxHeartbeats 1000000
namespace DI
open PySem PySem.Spec PyProof.Rows L2
inductive XR where
  | ok (d : D) (σ : Sl) | er (c : Nat) (fs : List D) (σ : Sl) | bad
abbrev XF := Sl → XR
section
variable {g : Gv} {W : L2.WX} {Z0 Z Z1 Z' : Addr → Prop} {H0 H H1 H' : Hp} {fps : List (List Addr)} {σl : Sl} {σ : L2.St}
def OutX (g : Gv) (W : L2.WX) (H0 : Hp) (Z0 Z : Addr → Prop) (H : Hp) (σ : L2.St) (r : XR) (P : D → Sl → Prop) : Prop :=
  match r with
  | .ok d σl => P d σl
  | .er c fs σl => ∀ H' Z' fps' cls d, SS g H0 Z0 Z' fps' σl σ H' → Ev g.tab Z Z' H H' → ExR g c fs cls d H' → W cls d σ H'
  | .bad => False
theorem OutX.pre {r : XR} {P P' : D → Sl → Prop} (e : Ev g.tab Z Z1 H H1) (hp : ∀ d σl, P d σl → P' d σl) (o : OutX g W H0 Z0 Z H σ r P) : OutX g W H0 Z0 Z1 H1 σ r P' := by
  cases r with
  | ok d σl => exact hp d σl o
  | er c fs σl => exact fun H' Z' fps' cls d s e' x => o H' Z' fps' cls d s (e.trans e') x
  | bad => exact o
theorem OutX.guard {c : Prop} [Decidable c] {r : XR} {P : D → Sl → Prop} (h : OutX g W H0 Z0 Z H σ (if c then r else .bad) P) : c ∧ OutX g W H0 Z0 Z H σ r P := by
  by_cases hc : c
  · rw [if_pos hc] at h; exact ⟨hc, h⟩
  · rw [if_neg hc] at h; exact h.elim
end
end DI
set_option maxHeartbeats 1000000
namespace DI
open PySem PySem.Spec PyProof.Rows L2
mutual
def noB : D → Bool
  | .non => true | .bl _ => true | .int _ => true | .str _ => true
  | .tup xs => noBL xs
  | .lst _ xs => noBL xs
  | .dct _ kvs => noBK kvs
  | .obj c fs => decide (c ≠ boxC) && noBL fs
def noBL : List D → Bool
  | [] => true
  | x :: xs => noB x && noBL xs
def noBK : List (NestedKey × D) → Bool
  | [] => true
  | (_, x) :: xs => noB x && noBK xs
end
def Gv.box (g : Gv) (a : Addr) : Gv := ⟨g.P, g.w, g.K, g.cls, fun c => if c = boxC then some (a, []) else g.ins c, g.cur, g.pin, g.tab, g.opq⟩
section
variable {g : Gv} {Z Z' Z1 : Addr → Prop} {H H' H0 : Hp} {a : Addr} {od : Obj} {kv : List (Key × V)}
def cb : Option D → Option D
  | some d => if noB d = true then some d else none
  | none => none
end
end DI
set_option maxHeartbeats 1000000
namespace DI
open PySem PySem.Spec PyProof.Rows L2
section
variable {X : Cx} {g : Gv} {W : L2.WX} {e a b : Expr} {f k : Sl → R D} {i : Nat} {x y : Bool} {pos p apos cpos : Pos} {n : Str}
theorem lstOf_err0 {d : D} : ∀ c fs, lstOf d ≠ .err c fs := fun c fs => lstOf_err (r := .ok d) (fun h => nomatch h)
end
end DI
set_option maxHeartbeats 1000000
namespace DI
open PySem PySem.Spec PyProof.Rows L2
end DI
set_option maxHeartbeats 3200000
namespace DI
open PySem PySem.Spec PyProof.Rows L2
instance instBEqKey' : BEq Key := instBEqOfDecidableEq
end DI
namespace DI
open PySem PySem.Spec PyProof.Rows L2
theorem call_isP {X : Cx} {a C : Addr} {d : Option Addr} {oe : Obj} (hpn : (a, oe) ∈ X.pn) (T : ExcC X.K C) (hz : Zc (.ref C) d oe) (hf : ∃ vs, oe.data = .fields vs) : CallR X (.builtin "isinstance") (rIsX X.K C a d) := by
  intro pins s σ H xs us Q I r h
  obtain ⟨c, b, rfl, hd, hc, q⟩ := h
  obtain ⟨u0, u1, rfl, rx, rt⟩ := vals2 r
  cases rx
  obtain ⟨hget, _⟩ := I.pin (a, oe) (List.mem_append.mpr (.inl hpn))
  obtain ⟨vs, hv⟩ := hf
  have nc : PySem.W.notCls oe = true := by unfold PySem.W.notCls; rw [hv]
  have J : ∃ od, PySem.W.InstAt s.heap a oe C od := by
    obtain ⟨h1, h2⟩ := hz
    cases d with
    | none => exact ⟨none, hget, h1, nc, by rw [h2]; exact True.intro⟩
    | some dd =>
      obtain ⟨fs, hx⟩ := hd dd rfl
      have hx : ObjOk X.prog X.w H s.heap dd (.xd fs) := I.hok dd _ hx
      obtain ⟨mA, hns, hr⟩ := hx
      obtain ⟨od, ho, hl⟩ := lookIn_ns hns
      exact ⟨some od, hget, h1, nc, by rw [h2]; exact ho⟩
  obtain ⟨od, J⟩ := J
  have hcl : (PySem.W.clsIn X.K C).isSome = true := by
    have := T.hd
    unfold PySem.W.hasDictIn at this
    obtain ⟨cd, hc, _⟩ := PySem.W.any_some this
    rw [hc]; rfl
  have Z := PySem.W.kitx_exc (x := a) (ox := oe) (od := od) hcl T.hg T.hk T.hs T.ha T.hn T.ht T.hm
  rcases hc with ⟨cv, hcv, e⟩ | ⟨T', cs, rfl, hT, e⟩
  · have ec := hcv _ rt
    subst ec
    exact PySem.W.kia_one Z I.kIn J e (fun z => nomatch z) fun tk => ⟨.bl b, H, I.kept (t' := tk) fun _ _ z => z, rfl, q⟩
  · cases rt
    obtain ⟨_, its, vi, ho⟩ := (show ObjOk X.prog X.w H s.heap T' (.tup (cs.map V.ref)) from I.hok T' _ hT)
    obtain ⟨⟨oc, odd, oda, osl⟩, ho, hc1, n, hc2⟩ := ho
    dsimp only at hc1 hc2
    subst hc1 hc2
    have ei := vals_refs_eq cs vi
    subst ei
    exact PySem.W.kia_tup Z I.kIn J ho e (fun z => nomatch z) fun tk => ⟨.bl b, H, I.kept (t' := tk) fun _ _ z => z, rfl, q⟩
section
variable {X : Cx} {g : Gv} {W : L2.WX} {x : Expr} {fx : Sl → R D} {bo : Bool} {pos p p3 : Pos} {a : Addr} {oe : Obj} {c : Nat} {d : Option Addr} {C : Addr} {ns : List Str}
theorem se_xXP {ce : Expr} {tc : TE} (hpn : (a, oe) ∈ X.pn) (k : Nat → Bool) (hc : c < 20) (T : ExcC X.K C) (hz : Zc (.ref C) d oe) (hd : ∃ vs, oe.data = .fields vs) (hins : ∀ c, c < 20 → g.ins c = none)
    (he : PE X x (tI (g.at a c d) W bo fx)) (hm : X.mg "isinstance" = none) (hN : PE X ce tc)
    (hcv : ∀ σ H Q, (∀ v H', Same H H' → (∀ H'', Same H' H'' → ((∃ cv : Value, (∀ u, RelV v u → u = cv) ∧ PySem.W.kitOne X.K (.ref C) cv = some (k c)) ∨ ∃ (T : Addr) (cs : List Addr), v = .ref T ∧ H'' T = some (.tup (cs.map V.ref)) ∧ PySem.W.kitAny X.K (.ref C) (cs.map Value.ref) = some (k c))) → Q v H') → tc σ H Q) (hg : Gl X "isinstance" := by rfl)
    (hst : starEach [x, ce] X.env = (false, eval x X.env) :: starEach [ce] X.env := by exact starE (by rfl)) (hst2 : starEach [ce] X.env = (false, eval ce X.env) :: starEach [] X.env := by exact starE (by rfl)) (hpl : (backTo pos (starEach [ce] X.env)).any (·.1) = false := by rfl) :
    PE X (.Call (.Name "isinstance" p) [x, ce] [] pos) (tI (g.at a c d) W true (eXi k fx)) :=
  (pe_callB (call_isP hpn T hz hd)  hg hm (by decide +kernel) (pa_cons he (pa_cons hN pa_nil hst2) hst) (by decide) (by decide) hst hpl).imp fun σ H Q q => by
  obtain ⟨H0, Z, fps, σl, sr, o⟩ := q
  refine ⟨H0, Z, fps, σl, sr, o.bind.imp fun y o v H1 Z1 fp q1 => ?_⟩
  cases y with
  | obj c' fs =>
    have o1 : Out (g.at a c d) W Z σ H (if c' < 20 then R.ok (D.bl (k c')) else .bad) _ := o
    obtain ⟨hn, o2⟩ := Out.guard o1
    have o3 : ∀ (v : V) (H' : Hp) (Z' : Addr → Prop) (fp : List Addr), PostE (g.at a c d) true Z Z' H H' (D.bl (k c')) v fp → Q v H' := o2
    obtain ⟨rfl, rfl, rfl, hx⟩ := isx_dict (Z' := Z1) (H' := H1) (hins c' hn) q1.rep
    refine hcv σ H1 _ fun v2 H2 s2 hk => ?_
    refine ⟨v2, k c', rfl, fun dd e => ?_, hk H2 (same_refl H2), o3 (V.bl (k c')) H2 Z1 [] ⟨same_trans q1.same s2, q1.zx.trans q1.same (.stay q1.zx.inn s2), .bl _, fun _ => ⟨List.nodup_nil, fun _ h => nomatch h⟩⟩⟩
    obtain ⟨fs, h⟩ := hx dd e
    exact ⟨fs, s2 _ _ h⟩
  | _ => exact (show False from o).elim
theorem z_xXP {n : Str} (hpn : (a, oe) ∈ X.pn) (k : Nat → Bool) (h : XcI X.K X.mg g.cls n k) (hcl : g.cls c = some (C, ns)) (hc : c < 20) (T : ExcC X.K C) (hz : Zc (.ref C) d oe) (hd : ∃ vs, oe.data = .fields vs) (hins : ∀ c, c < 20 → g.ins c = none)
    (he : PE X x (tI (g.at a c d) W bo fx)) (hm : X.mg "isinstance" = none) (hg : Gl X "isinstance" := by rfl) (hg2 : Gl X n := by rfl) (hdb : (n == ("__debug__" : Str)) = false := by decide)
    (hst : starEach [x, .Name n p3] X.env = (false, eval x X.env) :: starEach [.Name n p3] X.env := by exact starE (by rfl)) (hst2 : starEach [.Name n p3] X.env = (false, eval (.Name n p3) X.env) :: starEach [] X.env := by exact starE (by rfl)) (hpl : (backTo pos (starEach [.Name n p3] X.env)).any (·.1) = false := by rfl) :
    PE X (.Call (.Name "isinstance" p) [x, .Name n p3] [] pos) (tI (g.at a c d) W true (eXi k fx)) := by
  obtain ⟨C', hmg, hk⟩ := h
  refine se_xXP hpn k hc T hz hd hins he hm (pe_glob  (v := .ref C') hg2 hmg rfl hdb) (fun σ H Q q => ?_) hg hst hst2 hpl
  exact q _ H (same_refl H) fun H'' _ => .inl ⟨.ref C', fun u r => r, hk c C ns hcl⟩
theorem z_xXvP {ty : String} {n : Str} (hpn : (a, oe) ∈ X.pn) (h : XcV X.K g.cls ty) (hcl : g.cls c = some (C, ns)) (hc : c < 20) (T : ExcC X.K C) (hz : Zc (.ref C) d oe) (hd : ∃ vs, oe.data = .fields vs) (hins : ∀ c, c < 20 → g.ins c = none)
    (he : PE X x (tI (g.at a c d) W bo fx)) (hm : X.mg "isinstance" = none) (hm2 : X.mg n = none) (hb : bootBuiltins n = some (.type ty) := by decide +kernel) (hn : n ≠ "__name__" := by decide) (hg : Gl X "isinstance" := by rfl) (hg2 : Gl X n := by rfl) (hdb : (n == ("__debug__" : Str)) = false := by decide)
    (hst : starEach [x, .Name n p3] X.env = (false, eval x X.env) :: starEach [.Name n p3] X.env := by exact starE (by rfl)) (hst2 : starEach [.Name n p3] X.env = (false, eval (.Name n p3) X.env) :: starEach [] X.env := by exact starE (by rfl)) (hpl : (backTo pos (starEach [.Name n p3] X.env)).any (·.1) = false := by rfl) :
    PE X (.Call (.Name "isinstance" p) [x, .Name n p3] [] pos) (tI (g.at a c d) W true (eXi (fun _ => true) fx)) := by
  refine se_xXP hpn (fun _ => true) hc T hz hd hins he hm (pe_bltn  hg2 hm2 hb (v := .ty ty) rfl hn hdb) (fun σ H Q q => ?_) hg hst hst2 hpl
  exact q _ H (same_refl H) fun H'' _ => .inl ⟨.type ty, fun u r => r, h c C ns hcl⟩
end
end DI
set_option maxHeartbeats 1000000
namespace DI
open PySem PySem.Spec PyProof.Rows L2
section
variable {X : Cx} {g : Gv} {W : L2.WX} {e c a : Expr} {fe fc fk : Sl → R D} {i : Nat} {x y z : Bool} {pos p apos cpos spos spos2 : Pos} {n : Str}
theorem nodup_at {α : Type} : ∀ {fps : List (List α)} {i : Nat} {fp : List α}, fps.flatten.Nodup → fps[i]? = some fp → fp.Nodup
  | [], _, _, _, e => by simp at e
  | f :: fs, 0, fp, h, e => by
    simp at e; subst e
    rw [List.flatten_cons] at h
    exact (List.nodup_append.mp h).1
  | f :: fs, i + 1, fp, h, e => by
    rw [List.flatten_cons] at h
    exact nodup_at (List.nodup_append.mp h).2.1 (by simpa using e)
theorem Reps.setL {Z : Addr → Prop} {H : Hp} : ∀ {xs : List D} {vs : List V} {fp : List Addr}, Reps g Z H xs vs fp → fp.Nodup → ∀ {j : Nat} {ys : List D}, xs[j]? = some (.lst true ys) → cleanL ys = true →
    ∃ l us, vs[j]? = some (.ref l) ∧ H l = some (.lst us) ∧ Reps g Z H ys us [] ∧ l ∈ fp ∧ ∀ us' ys', ¬ Z l → Reps g Z H ys' us' [] → Reps g Z (upd H l (.lst us')) (xs.set j (.lst true ys')) vs fp
  | _, _, _, .nil, _, _, _, h, _ => by simp at h
  | _, _, _, .cons (x := x0) (v := v) (xs := xs) (vs := vs) (f := f) (fs := fs) r rs, nd, 0, ys, h, hc => by
    simp at h
    subst h
    obtain ⟨l, us, gs, rfl, hl, rs', rfl⟩ := rep_own r
    have hg := Reps.clean rs' hc
    subst hg
    refine ⟨l, us, rfl, hl, rs', List.mem_append_left _ List.mem_cons_self, fun us' ys' nz h' => ?_⟩
    have ow : Owd g.P g.w l (H l) := .inl ⟨us, hl⟩
    have nm : l ∉ fs := fun hm => by
      have := (List.nodup_append.mp nd).2.2 l List.mem_cons_self l hm
      exact this rfl
    exact .cons (.lst upd_same (h'.keep (fun _ z => z) (kp_upd ow nz (fun h => nomatch h))) own_new) (rs.keep (fun _ z => z) (kp_upd ow nz nm))
  | _, _, _, .cons (x := x0) (v := v) (xs := xs) (vs := vs) (f := f) (fs := fs) r rs, nd, j + 1, ys, h, hc => by
    have nd' := List.nodup_append.mp nd
    obtain ⟨l, us, h1, hl, h3, h4, h5⟩ := Reps.setL rs nd'.2.1 (j := j) (by simpa using h) hc
    refine ⟨l, us, by simpa using h1, hl, h3, List.mem_append_right _ h4, fun us' ys' nz h' => ?_⟩
    have ow : Owd g.P g.w l (H l) := .inl ⟨us, hl⟩
    have nm : l ∉ f := fun hm => nd'.2.2 l hm l h4 rfl
    exact .cons (r.keep (fun _ z => z) (kp_upd ow nz nm)) (h5 us' ys' nz h')
theorem sub_write {H0 H : Hp} {Z0 Z : Addr → Prop} {fps : List (List Addr)} {σl : Sl} {σ : L2.St} {E : Ends} {xs ys : List D} {j : Nat} (ss : SS g H0 Z0 Z fps σl σ H) (e0 : getS σl i = .ok (.lst true xs)) (hj : xs[j]? = some (.lst true ys)) (hc : cleanL ys = true) :
    ∃ pa vs l us, σ[i]? = some (some (.ref pa)) ∧ H pa = some (.lst vs) ∧ vs[j]? = some (.ref l) ∧ vs.length = xs.length ∧ H l = some (.lst us) ∧ Reps g Z H ys us [] ∧
      ∀ us' ys', Reps g Z H ys' us' [] → OutS g W H0 Z0 Z H E (.nx (σl.set i (some (.lst true (xs.set j (.lst true ys')))))) → E.nx σ (upd H l (.lst us')) := by
  obtain ⟨v, fp, e1, e2, rp⟩ := ss.sr.slot i _ (getS_ok e0)
  obtain ⟨pa, vs, fs, rfl, hl, rs, rfl⟩ := rep_own rp
  have nd : (pa :: fs).Nodup := nodup_at ss.sr.nd e2
  obtain ⟨l, us, h1, h2, h3, h4, h5⟩ := rs.setL (List.nodup_cons.mp nd).2 hj hc
  refine ⟨pa, vs, l, us, e1, hl, h1, rs.length.symm, h2, h3, fun us' ys' r' o => ?_⟩
  have lm : l ∈ pa :: fs := List.mem_cons_of_mem _ h4
  have own := ss.sr.own l (mem_at e2 l lm)
  have ap := mem_apart ss.sr.nd e2 l lm
  have ow : Owd g.P g.w l (H l) := .inl ⟨us, h2⟩
  have np : pa ≠ l := fun q => (List.nodup_cons.mp nd).1 (by rw [q]; exact h4)
  have rep2 : Rep g Z (upd H l (.lst us')) (.lst true (xs.set j (.lst true ys'))) (.ref pa) (pa :: fs) := .lst (show (if pa = l then _ else H pa) = _ by rw [if_neg np]; exact hl) (h5 us' ys' own.1 r') (.inl ⟨rfl, rfl⟩)
  have r2 := ss.sr.put (i := i) (same_updO ss.sr.same own.2.1) (fun _ z => z) (fun a z => upd_some (ss.sr.z a z)) (kp_upd ow own.1 ap) (fun a ha => (ss.sr.own a (mem_set0 ha)).1) rep2 nd
    (fun a ha => ⟨mem_apart ss.sr.nd e2 a ha, (ss.sr.own a (mem_at e2 a ha)).1, (ss.sr.own a (mem_at e2 a ha)).2.1⟩)
  rw [set_self e1] at r2
  have e2' : fps.set i (pa :: fs) = fps := set_self e2
  rw [e2'] at r2
  exact o σ _ Z _ ⟨r2, ss.z0, ss.zn, ss.gh.ev (.upd ow own.1)⟩ (.upd ow own.1)
end
end DI
set_option maxHeartbeats 1000000
namespace DI
open PySem PySem.Spec PyProof.Rows L2
theorem pe_xfP {X : Cx} {a C : Addr} {oe : Obj} {cls : Value} {d : Option Addr} {e : Expr} {te : TE} {pos : Pos} {n : Str} (hpn : (a, oe) ∈ X.pn) (T : XfC X.K C) (hno : PySem.W.findIn X.K (.ref C) n = some none)
    (hz : Zc cls d oe) (hf : ∃ vs, oe.data = .fields vs) (he : PE X e te) (hb : attributeBase e n X.env (eval e X.env) = eval e X.env) :
    PE X (.Attribute e n pos) (tXf a cls d C n te) := by
  refine ⟨fun pins s σ H Q I h => ?_⟩
  refine attr_of hb (thn (he.run pins s σ H _ I h) fun u s1 hh => ?_)
  obtain ⟨x, H1, I1, rx, ex, ec, dd, fs, v, ed, ea, l, q⟩ := hh
  subst ex
  obtain rfl : u = Value.ref a := rx
  subst ec
  subst ed
  obtain ⟨ha, _⟩ := I1.pin (a, oe) (List.mem_append_left _ hpn)
  obtain ⟨vs, hd⟩ := hf
  have hx : ObjOk X.prog X.w H1 s1.heap dd (.xd fs) := I1.hok dd _ ea
  obtain ⟨mA, hns, hr⟩ := hx
  obtain ⟨od, ho, hl⟩ := lookIn_ns hns
  obtain ⟨u, hu, ru⟩ := RelO.some_of (v := v) (o := mA n) (by rw [← l]; exact hr n)
  have J : PySem.W.InstAt s1.heap a oe C (some od) := ⟨ha, hz.1, by unfold PySem.W.notCls; rw [hd] <;> rfl, by rw [hz.2]; exact ho⟩
  exact HandSPX.exc_get I1.kIn J T.ga T.gg T.exC (PySem.W.findObj_own T.hdC hno rfl (by rw [hl, hu])) (handed_of ru) ⟨v, H1, I1.tok _, ru, q⟩
section
variable {X : Cx} {g : Gv} {W : L2.WX} {e x : Expr} {fe fx : Sl → R D} {bo : Bool} {pos p : Pos} {f : Str}
theorem se_xfP {a : Addr} {oe : Obj} {c : Nat} {C : Addr} {d : Option Addr} {ns : List Str} (hpn : (a, oe) ∈ X.pn) (t : Nat → List Str) (hc : c < 20) (T : XfC X.K C) (hno : PySem.W.findIn X.K (.ref C) f = some none) (hz : Zc (.ref C) d oe) (hd : ∃ vs, oe.data = .fields vs)
    (hcl : g.cls c = some (C, ns)) (ht : ∀ c C ns, g.cls c = some (C, ns) → t c = ns) (hins : ∀ c, t c ≠ [] → g.ins c = none) (he : PE X e (tI (g.at a c d) W bo fe))
    (hb : attributeBase e f X.env (eval e X.env) = eval e X.env := by rfl) :
    PE X (.Attribute e f pos) (tI (g.at a c d) W true (eXf t f fe)) := (pe_xfP hpn T hno hz hd he hb).imp fun σ H Q q => by
  obtain ⟨H0, Z, fps, σl, sr, o⟩ := q
  refine ⟨H0, Z, fps, σl, sr, o.bind.imp fun x o v H' Z' fp p => ?_⟩
  cases x with
  | obj c' fs =>
    have o : Out (g.at a c d) W Z σ H (if t c' ≠ [] then ofR (((t c').zip fs).lookup f) else .bad) _ := o
    obtain ⟨hn, o⟩ := Out.guard o
    obtain ⟨x, hx, o⟩ := ofR_out o
    obtain ⟨rfl, rfl, rfl, ⟨rfl, rfl⟩ | ⟨dd, C2, ns2, vs, rfl, e2, h2, hs⟩⟩ := out_obj p.rep (hins c' hn)
    · cases h : t c' <;> rw [h] at hx <;> cases hx
    · rw [hcl] at e2
      cases e2
      rw [ht c' C ns hcl] at hx
      obtain ⟨w, hw, rw'⟩ := zip_look hs hx
      exact ⟨rfl, rfl, dd, _, w, rfl, h2, hw, o w H' Z' [] ⟨p.same, p.zx, rw', fun _ => ⟨List.nodup_nil, fun _ h => nomatch h⟩⟩⟩
  | _ => exact (show False from o).elim
theorem no_obj {Z : Addr → Prop} {H : Hp} {c : Nat} {fs : List D} {v : V} {fp : List Addr} (r : Rep g Z H (.obj c fs) v fp) (hg : g.cur = none) (hins : g.ins c = none) : False := by
  cases r with
  | exc0 e => rw [hg] at e; cases e
  | excD e _ _ _ _ => rw [hg] at e; cases e
  | ins e _ _ _ _ => rw [hins] at e; cases e
  | box e _ _ _ _ => rw [hins] at e; cases e
  | opq _ e _ _ _ => rw [hins] at e; cases e
theorem z_xfN (t : Nat → List Str) (hg : g.cur = none) (hins : ∀ c, t c ≠ [] → g.ins c = none) (he : PE X e (tI g W bo fe)) (hb : attributeBase e f X.env (eval e X.env) = eval e X.env := by rfl) :
    PE X (.Attribute e f pos) (tI g W true (eXf t f fe)) := by
  have go : PE X e (fun σ H (Q : VK) => tI g W true (eXf t f fe) σ H Q ∧ True) → True := fun _ => True.intro
  refine ⟨fun pins s σ H Q I h => ?_⟩
  refine attr_of hb (thn (he.run pins s σ H (fun _ _ => False) I ?_) fun u s1 hh => ?_)
  · obtain ⟨H0, Z, fps, σl, sr, o⟩ := h
    refine ⟨H0, Z, fps, σl, sr, o.bind.imp fun x o v H' Z' fp p => ?_⟩
    cases x with
    | obj c' fs =>
      have o : Out g W Z σ H (if t c' ≠ [] then ofR (((t c').zip fs).lookup f) else .bad) _ := o
      obtain ⟨hn, o⟩ := Out.guard o
      exact no_obj p.rep hg (hins c' hn)
    | _ => exact (show False from o).elim
  · obtain ⟨_, _, _, _, q⟩ := hh
    exact q.elim
theorem call_none : CallR X (.builtin "isinstance") (fun _ _ _ => False) := fun pins s σ H xs us Q I r h => h.elim
theorem z_xN {ce : Expr} {tc : TE} (k : Nat → Bool) (hg : g.cur = none) (hins : ∀ c, c < 20 → g.ins c = none) (he : PE X x (tI g W bo fx)) (hm : X.mg "isinstance" = none) (hN : PE X ce tc) (hgl : Gl X "isinstance" := by rfl)
    (hst : starEach [x, ce] X.env = (false, eval x X.env) :: starEach [ce] X.env := by exact starE (by rfl)) (hst2 : starEach [ce] X.env = (false, eval ce X.env) :: starEach [] X.env := by exact starE (by rfl)) (hpl : (backTo pos (starEach [ce] X.env)).any (·.1) = false := by rfl) :
    PE X (.Call (.Name "isinstance" p) [x, ce] [] pos) (tI g W true (eXi k fx)) :=
  (pe_callB call_none hgl hm (by decide +kernel) (pa_cons he (pa_cons hN pa_nil hst2) hst) (by decide) (by decide) hst hpl).imp fun σ H Q q => by
  obtain ⟨H0, Z, fps, σl, sr, o⟩ := q
  refine ⟨H0, Z, fps, σl, sr, o.bind.imp fun y o v H1 Z1 fp q1 => ?_⟩
  cases y with
  | obj c' fs =>
    have o1 : Out g W Z σ H (if c' < 20 then R.ok (D.bl (k c')) else .bad) _ := o
    obtain ⟨hn, o2⟩ := Out.guard o1
    exact (no_obj q1.rep hg (hins c' hn)).elim
  | _ => exact (show False from o).elim
end
def wKp (K : PySem.W.Frag) (c : Value) (i : Nat) (ts tr2 : Addr → Value → Option Addr → TS) (Wout : WX) (D : Ends) : WX := fun cls d σ H =>
  ∃ b, PySem.W.exmOne K cls c = some b ∧ (b = true → ∀ a, H a = none → ts a cls d { nx := fun σ' H' => tr2 a cls d D (σ'.set i none) H', rt := fun _ _ => False, bk := fun _ _ => False, ct := fun _ _ => False } (σ.set i (some (.ref a))) H) ∧
    (b = false → Wout cls d σ H)
section
variable {X : Cx} {x n : Str} {c : Value} {i : Nat} {body suite rest : List Stmt} {b₀ : Stmt} {np pos pos' : Pos} {tb : WX → TS} {ts tr2 : Addr → Value → Option Addr → TS} {tr : TS} {Wout : WX}
theorem Inv.keepPin {pins : List (Addr × Obj)} {σ : L2.St} {H : Hp} {s : Shared} {a : Addr} {oe : Obj} (I : Inv (X.suite a ((a, oe) :: (X.pn ++ pins))) [] σ H s) (ok : X.Ok) : Inv (X.tr ((a, oe) :: X.pn) X.xe) pins σ H s :=
  ⟨ok.toTry _ _, I.os, I.bare, I.base, I.loc, I.cell, I.free, I.freeC, fun p hp => I.pin p (List.mem_append_left _ hp), I.hok, I.len⟩
theorem Inv.dropPin {pins : List (Addr × Obj)} {σ : L2.St} {H : Hp} {s : Shared} {q : Addr × Obj} (I : Inv (X.tr (q :: X.pn) X.xe) pins σ H s) (ok : X.Ok) : Inv X pins σ H s :=
  ⟨ok, I.os, I.bare, I.base, I.loc, I.cell, I.free, I.freeC, fun p hp => I.pin p (List.mem_cons_of_mem _ hp), I.hok, I.len⟩
theorem pss_keep (hs : X.stack = X.env :: X.outer) (hf : X.env.frame = some X.env.locals) (hN : X.N.Nodup) (hi : X.N[i]? = some n) (hln : X.env.kindOf n = some .local) (hc : Names X x c) (tk : Takes X Wout)
    (hb : ∀ (W : WX) (pn : List (Addr × Obj)) (xe : Value → Shared → Prop), Takes (X.tr pn xe) W → PassesOwn (model X.prog X.w) X.A X.env xe → PSs (X.tr pn xe) body (tb W))
    (hsu : ∀ (a : Addr) (oe : Obj) (cls : Value) (d : Option Addr) (pn : List (Addr × Obj)), Zc cls d oe → (∃ vs, oe.data = .fields vs) → PSs (X.suite a ((a, oe) :: pn)) (b₀ :: suite) (ts a cls d))
    (hr : PSs X rest tr)
    (hr2 : ∀ (a : Addr) (oe : Obj) (cls : Value) (d : Option Addr), Zc cls d oe → (∃ vs, oe.data = .fields vs) → PSs (X.tr ((a, oe) :: X.pn) X.xe) rest (tr2 a cls d)) :
    PSs X (.Try body [.ExceptHandler (some (.Name x np)) (some n) (b₀ :: suite) pos'] [] [] pos :: rest) (fun D σ H => tb (wKp X.K c i ts tr2 Wout D) { D with nx := tr D } σ H) := by
  refine ⟨fun pins s σ H D I h => ?_⟩
  have ok := I.ok
  have hfr : X.A.frames = some (X.env :: X.outer) := by rw [ok.frames, hs]
  have hloc : Loc X.env.scope n := .inl hln
  refine wpAny_execs_cons ?_
  refine wpAny_Try_except ?_
  refine wpAny_mono ((hb (wKp X.K c i ts tr2 Wout D) (X.pn ++ pins) (fun e s₁ => wpAny (model X.prog X.w) X.A (noteFrame e X.env) (fun _ s₂ => wpAny (model X.prog X.w) X.A (setFlight e none) (fun _ s₃ =>
    wpAny (model X.prog X.w) X.A (handleBy e X.env [.ExceptHandler (some (.Name x np)) (some n) (b₀ :: suite) pos']) (fun f s' => match f with | .next => wpAny (model X.prog X.w) X.A (execs rest X.env) (SP X pins D) X.xe s' | f => SP X pins D f s') X.xe s₃) X.xe s₂) X.xe s₁) (fun u s' xx => ?_) PassesOwn.looking).run [] s σ H { D with nx := tr D } (I.toTry _) h) (fun f s1 hsp => ?_) (fun e s1 he => he)
  · -- the catch
    obtain ⟨a, B, sI, pins', σ', H', cls, d, rfl, J', nb, up, sky, na, os, ag, w⟩ := xx
    have J : Inv X pins σ' H' sI := J'.ofTry ok
    have sky' : Sky B (X.env :: X.outer) a (Zc cls d) X.env.locals s'.heap := by rw [← hs]; exact sky
    show wpAny (model X.prog X.w) X.A (noteFrame (.ref a) X.env) _ _ _
    refine Sky.land Zc.steady hfr hf sky' fun h3 fl3 up3 => ?_
    have J3 : Inv X pins σ' H' { s' with heap := h3 } := J.landed nb fl3.1 (up.trans up3) os ag
    obtain ⟨oe3, vs3, he3, hz3, hd3⟩ := fl3.there
    have notFr : ∀ {h : Heap} {o : Obj} {vs : Array Value}, h.FunFrames B (X.env :: X.outer) → h.get? a = some o → o.data = .fields vs → a ∉ frs (X.env :: X.outer) := fun {h o vs} ff e dd hm => by
      obtain ⟨_, o', e', hnf⟩ := ff.mem hm
      rw [e] at e'; cases e'
      exact hnf _ dd
    have nfr := notFr fl3.2.2.1 he3 hd3
    have nL : a ≠ X.env.locals := fun z => nfr (List.mem_filterMap.mpr ⟨X.env, List.mem_cons_self, by rw [hf, z]⟩)
    have nF : a ∉ X.fs := fun hm => by
      obtain ⟨e, he, q⟩ := List.mem_filterMap.mp hm
      exact nfr (List.mem_filterMap.mpr ⟨e, List.mem_cons_of_mem _ he, q⟩)
    have S3 := J3.suite he3 hd3 na nL nF
    obtain ⟨b, hb1, hyes, hno⟩ := w
    refine wpAny_handleBy_cons (codeAny_handlers_test ?_) (by intro q; cases q)
    have LT : PySem.W.Looks (model X.prog X.w) h3 (typeOf (.ref a)) cls := fun A Q E s k q => wpAny_typeOf_ref (k _ _ he3) (by rw [hz3.1]; exact q)
    have LM := PySem.W.exm_one (M := model X.prog X.w) (J3.kIn) LT hb1
    have test : ∀ {Q : Value → Shared → Prop} {E : Value → Shared → Prop}, Q c { s' with heap := h3 } → wpAny (model X.prog X.w) (X.A.mark (some (.ref a))) (eval (.Name x np) X.env) Q E { s' with heap := h3 } := fun {Q E} q => by
      obtain ⟨hg, hdbg, hm | ⟨hm, hv, hnn⟩⟩ := hc
      · exact ld_glob (X := X.suite a ((a, oe3) :: (X.pn ++ pins))) S3 hg hm q hdbg
      · exact ld_blt (X := X.suite a ((a, oe3) :: (X.pn ++ pins))) S3 hg hm hv q hnn hdbg
    refine test (LM.here ?_)
    cases b with
    | true =>
      refine codeAny_handlers_suite_as ?_
      refine HandSPX.lands_againZ fl3 fun h4 fl4 up4 => ?_
      have J4 : Inv X pins σ' H' { s' with heap := h4 } := J.landed nb fl4.1 ((up.trans up3).trans up4) os ag
      obtain ⟨oe4, vs4, he4, hz4, hd4⟩ := fl4.there
      have S4 := J4.suite he4 hd4 na nL nF
      refine store_ok (X := X.suite a ((a, oe4) :: (X.pn ++ pins))) (v := .ref a) S4 hN hi hloc rfl (fun s5 S5 => ?_) (.inr hln)
      refine wpAny_mono ((hsu a oe4 cls d (X.pn ++ pins) hz4 ⟨_, hd4⟩).run [] s5 _ H' _ S5 (hyes rfl a na)) (fun f s6 hsp => ?_) (fun _ _ z => False.elim z)
      cases f with
      | next =>
        obtain ⟨σ6, H6, S6, q6⟩ := hsp
        refine gone_ok (X := X.tr ((a, oe4) :: X.pn) X.xe) (Inv.keepPin S6 ok) hN hi hln fun s7 J7 => ?_
        refine wpAny_mono ((hr2 a oe4 cls d hz4 ⟨_, hd4⟩).run pins s7 _ H6 D J7 q6) (fun f s8 h8 => ?_) (fun _ _ z => z)
        cases f with
        | next =>
          obtain ⟨σ8, H8, J8, q8⟩ := h8
          exact ⟨σ8, H8, Inv.dropPin J8 ok, q8⟩
        | brk =>
          obtain ⟨σ8, H8, J8, q8⟩ := h8
          exact ⟨σ8, H8, Inv.dropPin J8 ok, q8⟩
        | cont =>
          obtain ⟨σ8, H8, J8, q8⟩ := h8
          exact ⟨σ8, H8, Inv.dropPin J8 ok, q8⟩
        | ret u =>
          obtain ⟨v8, σ8, H8, J8, r8, q8⟩ := h8
          exact ⟨v8, σ8, H8, Inv.dropPin J8 ok, r8, q8⟩
      | brk =>
        obtain ⟨_, _, _, q6⟩ := hsp
        exact q6.elim
      | cont =>
        obtain ⟨_, _, _, q6⟩ := hsp
        exact q6.elim
      | ret u =>
        obtain ⟨_, _, _, _, _, q6⟩ := hsp
        exact q6.elim
    | false =>
      refine wpAny_handleBy_nil ?_
      obtain ⟨k1, k2, k3, oe, vs, T, oT, ts', he, hz, hd, h1, hr'⟩ := id fl3
      unfold PySem.passOn
      refine wpAny_bind (wpAny_field he hd h1 ?_)
      rw [if_neg (show ¬ ((Value.ref T == Value.none) = true) from by simp)]
      have fin : wpAny (model X.prog X.w) X.A (setFlight (.ref a) X.env.frame) (fun _ s4 => wpAny (model X.prog X.w) X.A (throw (.ref a) : Sem Flow) (fun f s' => match f with | .next => wpAny (model X.prog X.w) X.A (execs rest X.env) (SP X pins D) X.xe s' | f => SP X pins D f s') X.xe s4) X.xe { s' with heap := h3 } := by
        rw [hf]
        refine HandSPX.setFlight_upZ fl3 fun h4 hh4 up4 => wpAny_throw (tk _ _ ?_)
        exact ⟨a, B, sI, pins, σ', H', cls, d, rfl, J, nb, (up.trans up3).trans up4, .inr (.inr (by rw [hs]; exact hh4)), na, os, ag, hno rfl⟩
      first
        | exact wpAny_bind (wpAny_pure (wpAny_bind fin))
        | exact wpAny_bind fin
  · cases f with
    | next =>
      obtain ⟨σ', H', J', q⟩ := hsp
      exact wpAny_execs_nil (hr.run pins s1 σ' H' D (J'.ofTry ok) q)
    | brk =>
      obtain ⟨σ', H', J', q⟩ := hsp
      exact ⟨σ', H', J'.ofTry ok, q⟩
    | cont =>
      obtain ⟨σ', H', J', q⟩ := hsp
      exact ⟨σ', H', J'.ofTry ok, q⟩
    | ret u =>
      obtain ⟨v, σ', H', J', r, q⟩ := hsp
      exact ⟨v, σ', H', J'.ofTry ok, r, q⟩
end
end DI
namespace DI
open PySem PySem.Spec PyProof.Rows L2
def sKeep (i : Nat) (k y : Nat → Bool) (b h f1 f2 : SF) : SF := fun σ => match b σ with
  | .nx σ' => f1 σ'
  | .er c fs σ' => if k c = true then (if y c = true then (match h (σ'.set i (some (.obj c fs))) with
      | .nx σ2 => (match f2 (σ2.set i none) with
        | .rt d => if noX d = true then .rt d else .bad
        | _ => .bad)
      | _ => .bad) else .bad) else .er c fs σ'
  | r => r
section
variable {X : Cx} {g : Gv} {W : L2.WX} {fb fh f1 f2 : SF} {nm xn : Str} {body suite rest : List Stmt} {b₀ : Stmt} {np pos pos' : Pos}
theorem t_keep (i : Nat) (k y : Nat → Bool) (hm : XcM X.K X.mg g.cls xn k) (h20 : ∀ c, y c = true → c < 20) (nd : X.N.Nodup) (tk : Takes X W)
    (hb : ∀ (W' : L2.WX) (pn : List (Addr × Obj)) (xe : Value → Shared → Prop), Takes (X.tr pn xe) W' → PassesOwn (model X.prog X.w) X.A X.env xe → PSs (X.tr pn xe) body (tS g W' fb))
    (hh : ∀ (a : Addr) (oe : Obj) (d : Option Addr) (pn : List (Addr × Obj)) (c : Nat) (C : Addr) (ns : List Str), g.cls c = some (C, ns) → y c = true → (ns = [] → d = none) → Zc (.ref C) d oe → (∃ vs, oe.data = .fields vs) → PSs (X.suite a ((a, oe) :: pn)) (b₀ :: suite) (tS (g.at a c d) WF fh))
    (hr : PSs X rest (tS g W f1))
    (hr2 : ∀ (a : Addr) (oe : Obj) (d : Option Addr) (c : Nat) (C : Addr) (ns : List Str), g.cls c = some (C, ns) → y c = true → (ns = [] → d = none) → Zc (.ref C) d oe → (∃ vs, oe.data = .fields vs) → PSs (X.tr ((a, oe) :: X.pn) X.xe) rest (tS (g.at a c d) WF f2))
    (hg : g.cur = none := by rfl) (hpn : g.pin = none := by rfl) (hs : X.stack = X.env :: X.outer := by rfl) (hf : X.env.frame = some X.env.locals := by rfl) (hi : X.N[i]? = some nm := by rfl) (hln : X.env.kindOf nm = some .local := by rfl) (hgl : Gl X xn := by rfl) (hdb : (xn == ("__debug__" : Str)) = false := by decide) :
    PSs X (.Try body [.ExceptHandler (some (.Name xn np)) (some nm) (b₀ :: suite) pos'] [] [] pos :: rest) (tS g W (sKeep i k y fb fh f1 f2)) := by
  obtain ⟨CE, hmg, hex⟩ := hm
  refine (pss_keep (c := .ref CE) (i := i) (tb := fun W' => tS g W' fb) (tr := tS g W f1) (Wout := W)
    (ts := fun a cls d D σ H => ∃ c C ns, g.cls c = some (C, ns) ∧ y c = true ∧ (ns = [] → d = none) ∧ cls = .ref C ∧ tS (g.at a c d) WF fh D σ H)
    (tr2 := fun a cls d D σ H => ∃ c C ns, g.cls c = some (C, ns) ∧ y c = true ∧ (ns = [] → d = none) ∧ cls = .ref C ∧ tS (g.at a c d) WF f2 D σ H)
    hs hf nd hi hln ⟨hgl, hdb, .inl hmg⟩ tk hb ?_ hr ?_).imp fun E σ H q => ?_
  · intro a oe cls d pn hz hd
    refine ⟨fun pins s σ H Q I h => ?_⟩
    obtain ⟨c, C, ns, h1, h2, hdn, rfl, h3⟩ := h
    exact (hh a oe d pn c C ns h1 h2 hdn hz hd).run pins s σ H Q I h3
  · intro a oe cls d hz hd
    refine ⟨fun pins s σ H Q I h => ?_⟩
    obtain ⟨c, C, ns, h1, h2, hdn, rfl, h3⟩ := h
    exact (hr2 a oe d c C ns h1 h2 hdn hz hd).run pins s σ H Q I h3
  · obtain ⟨H0, Z0, Z, fps, σl, ss, o⟩ := q
    refine ⟨H0, Z0, Z, fps, σl, ss, ?_⟩
    unfold sKeep at o
    cases hb : fb σl with
    | nx σ1 =>
      rw [hb] at o
      exact fun σ' H' Z' fps' s1 ev => ⟨H0, Z0, Z', fps', σ1, s1, OutS.pre ev o⟩
    | rt d => rw [hb] at o; exact o
    | bk σ1 => rw [hb] at o; exact o
    | ct σ1 => rw [hb] at o; exact o
    | bad => rw [hb] at o; exact o
    | er c fs σ1 =>
      rw [hb] at o
      simp only at o
      intro σ' H' Z' fps' cls d s1 ev ex
      obtain ⟨C, ns, h1, h2, alt⟩ := id ex
      have hdn : ns = [] → d = none := fun e => by
        rcases alt with ⟨_, _, e3⟩ | ⟨e1, _⟩
        · exact e3
        · exact absurd e e1
      refine ⟨k c, by rw [h2]; exact hex c C ns h1, fun hk a na => ?_, fun hk => ?_⟩
      · rw [if_pos hk] at o
        obtain ⟨hy, o⟩ := OutS.guard o
        have hc20 := h20 c hy
        have rp : Rep (g.at a c d) Z' H' (.obj c fs) (.ref a) [] := exr_rep hg ex
        have s2 : SS (g.at a c d) H0 Z0 Z' fps' σ1 σ' H' := s1.addcur hg
        refine ⟨c, C, ns, h1, hy, hdn, h2, H0, Z0, Z', _, _, ⟨s2.sr.bind0 i rp, s2.z0, s2.zn, s2.gh.set (.inl hpn)⟩, ?_⟩
        cases hh : fh (σ1.set i (some (.obj c fs))) with
        | nx σ2 =>
          rw [hh] at o
          simp only at o
          intro σ3 H3 Z3 fps3 s3 e3
          have s4 : SR (g.at a c d) H0 Z3 (fps3.set i []) (σ2.set i none) (σ3.set i none) H3 := s3.sr.drop2 i
          refine ⟨c, C, ns, h1, hy, hdn, h2, H0, Z0, Z3, _, _, ⟨s4, s3.z0, s3.zn, s3.gh.set (.inl hpn)⟩, ?_⟩
          cases h2' : f2 (σ2.set i none) with
          | rt dd =>
            rw [h2'] at o
            have o : OutS g W H0 Z0 Z H E (if noX dd = true then .rt dd else .bad) := o
            obtain ⟨hx, o⟩ := OutS.guard o
            refine RtOk.of (g := g.at a c d) hpn fun v H4 Z4 fp p tz => ?_
            exact RtOk.n o hpn v H4 Z4 fp ⟨p.same, p.zx, p.rep.uncur hc20 hx, p.own⟩ tz
          | nx _ => rw [h2'] at o; exact (show False from o).elim
          | bk _ => rw [h2'] at o; exact (show False from o).elim
          | ct _ => rw [h2'] at o; exact (show False from o).elim
          | er _ _ _ => rw [h2'] at o; exact (show False from o).elim
          | bad => rw [h2'] at o; exact (show False from o).elim
        | rt _ => rw [hh] at o; exact (show False from o).elim
        | bk _ => rw [hh] at o; exact (show False from o).elim
        | ct _ => rw [hh] at o; exact (show False from o).elim
        | er _ _ _ => rw [hh] at o; exact (show False from o).elim
        | bad => rw [hh] at o; exact (show False from o).elim
      · rw [if_neg (by rw [hk]; decide)] at o
        exact o σ' H' Z' fps' cls d s1 ev ex
end
end DI
set_option maxHeartbeats 1000000
namespace DI
open PySem PySem.Spec PyProof.Rows L2
section
variable {X : Cx} {g : Gv} {W : L2.WX} {e x : Expr} {fe fx : Sl → R D} {bo : Bool} {pos p p3 : Pos} {f : Str}
theorem z_xXN {n : Str} (k : Nat → Bool) (h : XcI X.K X.mg g.cls n k) (hg : g.cur = none) (hins : ∀ c, c < 20 → g.ins c = none) (he : PE X x (tI g W bo fx)) (hm : X.mg "isinstance" = none) (hgl : Gl X "isinstance" := by rfl) (hg2 : Gl X n := by rfl) (hdb : (n == ("__debug__" : Str)) = false := by decide)
    (hst : starEach [x, .Name n p3] X.env = (false, eval x X.env) :: starEach [.Name n p3] X.env := by exact starE (by rfl)) (hst2 : starEach [.Name n p3] X.env = (false, eval (.Name n p3) X.env) :: starEach [] X.env := by exact starE (by rfl)) (hpl : (backTo pos (starEach [.Name n p3] X.env)).any (·.1) = false := by rfl) :
    PE X (.Call (.Name "isinstance" p) [x, .Name n p3] [] pos) (tI g W true (eXi k fx)) := by
  obtain ⟨C, hmg, _⟩ := h
  exact z_xN k hg hins he hm (pe_glob (v := .ref C) hg2 hmg rfl hdb) hgl hst hst2 hpl
theorem z_xXvN {ty : String} {n : Str} (hg : g.cur = none) (hins : ∀ c, c < 20 → g.ins c = none) (he : PE X x (tI g W bo fx)) (hm : X.mg "isinstance" = none) (hm2 : X.mg n = none) (hb : bootBuiltins n = some (.type ty) := by decide +kernel) (hn : n ≠ "__name__" := by decide) (hgl : Gl X "isinstance" := by rfl) (hg2 : Gl X n := by rfl) (hdb : (n == ("__debug__" : Str)) = false := by decide)
    (hst : starEach [x, .Name n p3] X.env = (false, eval x X.env) :: starEach [.Name n p3] X.env := by exact starE (by rfl)) (hst2 : starEach [.Name n p3] X.env = (false, eval (.Name n p3) X.env) :: starEach [] X.env := by exact starE (by rfl)) (hpl : (backTo pos (starEach [.Name n p3] X.env)).any (·.1) = false := by rfl) :
    PE X (.Call (.Name "isinstance" p) [x, .Name n p3] [] pos) (tI g W true (eXi (fun _ => true) fx)) :=
  z_xN (fun _ => true) hg hins he hm (pe_bltn hg2 hm2 hb (v := .ty ty) rfl hn hdb) hgl hst hst2 hpl
theorem lookup_zip_in {ns : List Str} {fs : List D} {f : Str} {x : D} : ((ns.zip fs).lookup f) = some x → f ∈ ns := by
  induction ns generalizing fs with
  | nil => intro h; simp at h
  | cons n ns ih =>
    intro h
    cases fs with
    | nil => simp at h
    | cons y ys =>
      rw [List.zip_cons_cons, List.lookup_cons] at h
      by_cases e : (f == n) = true
      · have : f = n := by simpa using e
        rw [this]; exact List.mem_cons_self
      · rw [show (f == n) = false by simpa using e] at h
        exact List.mem_cons_of_mem _ (ih h)
theorem z_xfV {a : Addr} {c : Nat} {C : Addr} {d : Option Addr} {ns : List Str} (t : Nat → List Str) (hf : f ∉ ns) (hcl : g.cls c = some (C, ns)) (ht : ∀ c C ns, g.cls c = some (C, ns) → t c = ns) (hins : ∀ c, t c ≠ [] → g.ins c = none) (he : PE X e (tI (g.at a c d) W bo fe))
    (hb : attributeBase e f X.env (eval e X.env) = eval e X.env := by rfl) :
    PE X (.Attribute e f pos) (tI (g.at a c d) W true (eXf t f fe)) := by
  refine ⟨fun pins s σ H Q I h => ?_⟩
  refine attr_of hb (thn (he.run pins s σ H (fun _ _ => False) I ?_) fun u s1 hh => ?_)
  · obtain ⟨H0, Z, fps, σl, sr, o⟩ := h
    refine ⟨H0, Z, fps, σl, sr, o.bind.imp fun x o v H' Z' fp p => ?_⟩
    cases x with
    | obj c' fs =>
      have o : Out (g.at a c d) W Z σ H (if t c' ≠ [] then ofR (((t c').zip fs).lookup f) else .bad) _ := o
      obtain ⟨hn, o⟩ := Out.guard o
      obtain ⟨x, hx, o⟩ := ofR_out o
      obtain ⟨rfl, rfl, rfl, _⟩ := out_obj p.rep (hins c' hn)
      rw [ht c' C ns hcl] at hx
      exact hf (lookup_zip_in hx)
    | _ => exact (show False from o).elim
  · obtain ⟨_, _, _, _, q⟩ := hh
    exact q.elim
end
end DI
namespace DI
open PySem PySem.Spec PyProof.Rows L2
end DI
set_option maxHeartbeats 1000000
namespace DI
open PySem PySem.Spec PyProof.Rows L2
end DI
namespace DI
open PySem PySem.Spec PyProof.Rows L2
end DI
set_option maxHeartbeats 1000000
namespace DI
open PySem PySem.Spec PyProof.Rows L2
end DI
set_option maxHeartbeats 1000000
namespace DI
open PySem PySem.Spec PyProof.Rows L2
end DI
namespace DI
open PySem PySem.Spec PyProof.Rows L2
end DI
set_option maxHeartbeats 1000000
namespace DI
open PySem PySem.Spec PyProof.Rows L2
abbrev Gv.np (g : Gv) : Gv := ⟨g.P, g.w, g.K, g.cls, g.ins, g.cur, none, none, g.opq⟩
abbrev Gv.pn (g : Gv) (a : Addr) : Gv := ⟨g.P, g.w, g.K, g.cls, g.ins, g.cur, some a, none, g.opq⟩
end DI
set_option maxHeartbeats 1000000
namespace DI
open PySem PySem.Spec PyProof.Rows L2
end DI
set_option maxHeartbeats 1000000
namespace DI
open PySem PySem.Spec PyProof.Rows L2
def eTmp (j : Nat) (f : Sl → R D) : Sl → R D := fun σ => (getS σ j).bind fun d => match f (σ.set j (some (frz d))) with
  | .ok r => if noFrz r = true then .ok r else .bad
  | _ => .bad
section
variable {X : Cx} {g : Gv} {W : L2.WX} {H0 : Hp} {Z : Addr → Prop} {fps : List (List Addr)} {σl : Sl} {σ : L2.St} {H : Hp} {f0 : Sl → R D} {j : Nat}
theorem tmp_out {P : D → Prop} (sr : SR g H0 Z fps σl σ H) (o : Out g W Z σ H (eTmp j f0 σl) P) :
    ∃ (Z2 : Addr → Prop) (fps2 : List (List Addr)) (σl2 : Sl), (∀ a, Z a → Z2 a) ∧ SR g H0 Z2 fps2 σl2 σ H ∧ Out g W Z2 σ H (f0 σl2) fun d => noFrz d = true ∧ P d := by
  have o : Out g W Z σ H ((getS σl j).bind fun d => match f0 (σl.set j (some (frz d))) with
    | .ok r => if noFrz r = true then .ok r else .bad
    | _ => .bad) P := o
  obtain ⟨d, e, o⟩ := o.bind.okOf fun c fs => getS_err
  obtain ⟨v, fp, e1, e2, rp⟩ := sr.slot j d (getS_ok e)
  have own := fun a ha => sr.own a (mem_at e2 a ha)
  have r2 : SR g H0 (fun a => Z a ∨ a ∈ fp) (fps.set j []) (σl.set j (some (frz d))) (σ.set j (some v)) H :=
    sr.put sr.same (fun a z => .inl z) (fun a z => by
      rcases z with z | m
      · exact sr.z a z
      · exact (own a m).2.2) (.of_same (same_refl H)) (fun a ha q => by
      rcases q with z | m
      · exact (sr.own a (mem_set0 ha)).1 z
      · exact mem_apart sr.nd e2 a m ha) (rp.frz (fun a z => .inl z) fun a m => .inr m) List.nodup_nil fun a ha => nomatch ha
  rw [set_self e1] at r2
  refine ⟨fun a => Z a ∨ a ∈ fp, _, _, fun a z => .inl z, r2, ?_⟩
  cases h : f0 (σl.set j (some (frz d))) with
  | ok r =>
    rw [h] at o
    have o : Out g W Z σ H (if noFrz r = true then .ok r else .bad) P := o
    exact Out.guard o
  | err c fs => rw [h] at o; exact (show False from o).elim
  | bad => rw [h] at o; exact (show False from o).elim
theorem tmp_post {Z2 Z' : Addr → Prop} {H' : Hp} {d : D} {v : V} {fp : List Addr} (hz : ∀ a, Z a → H a ≠ none) (le : ∀ a, Z a → Z2 a) (hn : noFrz d = true) (p : PostE g true Z2 Z' H H' d v fp) : PostE g true Z Z H H' d v fp :=
  ⟨p.same, ⟨fun a z => z, fun a z => .inl z, fun a z q => hz a z (same_none p.same q)⟩, p.rep.unzone hn, fun _ => ⟨(p.own rfl).1, fun a ha => ⟨((p.own rfl).2 a ha).1, fun z => ((p.own rfl).2 a ha).2 (p.zx.le a (le a z))⟩⟩⟩
theorem z_tmp {e : Expr} (j : Nat) (he : PE X e (tI g W true f0)) : PE X e (tI g W true (eTmp j f0)) := he.imp fun σ H Q q => by
  obtain ⟨H0, Z, fps, σl, sr, o⟩ := q
  obtain ⟨Z2, fps2, σl2, le, sr2, o⟩ := tmp_out sr o
  exact ⟨H0, Z2, fps2, σl2, sr2, o.imp fun d ⟨hn, o⟩ v H' Z' fp p => o v H' Z fp (tmp_post sr.z le hn p)⟩
end
end DI
namespace DI
open PySem PySem.Spec PyProof.Rows L2
def eFrz (f : Sl → R D) : Sl → R D := fun σ => (f σ).bind fun d => .ok (frz d)
theorem z_frz {X : Cx} {g : Gv} {W : L2.WX} {e : Expr} {f : Sl → R D} {b : Bool} (he : PE X e (tI g W true f)) : PE X e (tI g W b (eFrz f)) := he.imp fun σ H Q q => by
  obtain ⟨H0, Z, fps, σl, sr, o⟩ := q
  have o : Out g W Z σ H ((f σl).bind fun d => .ok (frz d)) _ := o
  refine ⟨H0, Z, fps, σl, sr, o.bind.imp fun d o v H' Z' fp p => ?_⟩
  have o : ∀ v H' Z' fp, PostE g b Z Z' H H' (frz d) v fp → Q v H' := o
  refine o v H' (fun a => Z' a ∨ a ∈ fp) [] ⟨p.same, ⟨fun a z => .inl (p.zx.le a z), fun a z => ?_, fun a z => ?_⟩, p.rep.frz (fun a z => .inl z) fun a m => .inr m, fun _ => ⟨List.nodup_nil, fun _ h => nomatch h⟩⟩
  · rcases z with z | m
    · exact p.zx.new a z
    · exact .inr ((p.own rfl).2 a m).1
  · rcases z with z | m
    · exact p.zx.inn a z
    · exact p.rep.there a m
end DI
set_option maxHeartbeats 1000000
namespace DI
open PySem PySem.Spec PyProof.Rows L2 LamX NdefX
end DI
set_option maxHeartbeats 1000000
namespace DI
open PySem PySem.Spec PyProof.Rows L2 LamX NdefX
end DI
set_option maxHeartbeats 1000000
namespace DI
open PySem PySem.Spec PyProof.Rows L2 LamX NdefX
end DI
set_option maxHeartbeats 1000000
namespace DI
open PySem PySem.Spec PyProof.Rows L2 LamX NdefX
end DI
set_option maxHeartbeats 2000000
namespace DI
open PySem PySem.Spec PyProof.Rows L2
abbrev excM : Nat := 1004
def excD (c : Nat) (fs : List D) : D := .obj excM [.tup (.int c :: fs)]
end DI
set_option maxHeartbeats 1000000
namespace DI
open PySem PySem.Spec PyProof.Rows L2
def AL (i j k : Nat) (σ : L2.St) (H : Hp) : Prop := ∃ pa vs l, σ[i]? = some (some (.ref pa)) ∧ H pa = some (.lst vs) ∧ vs[k]? = some (.ref l) ∧ σ[j]? = some (some (.ref l))
theorem AL.same {i j k : Nat} {σ : L2.St} {H H' : Hp} (a : AL i j k σ H) (s : Same H H') : AL i j k σ H' := by
  obtain ⟨pa, vs, l, h1, h2, h3, h4⟩ := a
  exact ⟨pa, vs, l, h1, s _ _ h2, h3, h4⟩
def eAl (i j k : Nat) (f : Sl → R D) : Sl → R D := fun σ => ((getS σ i).bind lstOf).bind fun xs => (ofR xs[k]?).bind fun y => match f ((σ.set i (some (frz (.lst true xs)))).set j (some (frz y))) with
  | .ok r => if noFrz r = true then .ok r else .bad
  | _ => .bad
abbrev AF := Nat → SF
def aSkip : AF := fun _ σ => .nx σ
def aIf (i j : Nat) (fc : Sl → R D) (F G : AF) : AF := fun k σ => rS (eAl i j k fc σ) σ fun d => cond d (F k σ) (G k σ)
def aPut (i j : Nat) (fk fe : Sl → R D) : AF := fun k σ => rS (eAl i j k fe σ) σ fun y => rS ((getS σ i).bind lstOf) σ fun xs => rS (ofR xs[k]?) σ fun yd => rS (lstOf yd) σ fun ys => rS (fk σ) σ fun kd => rS (intOf kd) σ fun jk => rS (ofR (L2.ixN ys.length jk)) σ fun q =>
  if cleanL ys = true then .nx (σ.set i (some (.lst true (xs.set k (.lst true (ys.set q (frz y))))))) else .bad
def sAl (i j : Nat) (fc : Sl → R D) (F : AF) : SF := fun σ => rS ((getS σ i).bind lstOf) σ fun xs => rS (fc σ) σ fun cd => rS (intOf cd) σ fun jc => rS (ofR (L2.ixN xs.length jc)) σ fun k => rS (ofR xs[k]?) σ fun yd => rS (lstOf yd) σ fun _ => if j < σ.length then F k (σ.set j none) else .bad
section
variable {X : Cx} {g : Gv} {W : L2.WX} {H0 : Hp} {Z0 Z : Addr → Prop} {fps : List (List Addr)} {σl : Sl} {σ : L2.St} {H : Hp} {f0 : Sl → R D} {i j k : Nat}
def tA (g : Gv) (W : L2.WX) (i j k : Nat) (F : SF) : TS := fun E σ H => AL i j k σ H ∧ tS g W F E σ H
theorem al_out {P : D → Prop} (sr : SR g H0 Z fps σl σ H) (al : AL i j k σ H) (o : Out g W Z σ H (eAl i j k f0 σl) P) :
    ∃ (Z2 : Addr → Prop) (fps2 : List (List Addr)) (σl2 : Sl), (∀ a, Z a → Z2 a) ∧ SR g H0 Z2 fps2 σl2 σ H ∧ Out g W Z2 σ H (f0 σl2) fun d => noFrz d = true ∧ P d := by
  obtain ⟨xs, e, o⟩ := (Out.bind (show Out g W Z σ H (((getS σl i).bind lstOf).bind fun xs => (ofR xs[k]?).bind fun y => match f0 ((σl.set i (some (frz (.lst true xs)))).set j (some (frz y))) with
    | .ok r => if noFrz r = true then .ok r else .bad
    | _ => .bad) P from o)).okOf fun c fs => lstOf_err getS_err
  obtain ⟨y, ey, o⟩ := o.bind.okOf fun c fs => ofR_err
  have e0 := lstOf_ok e
  obtain ⟨v, fp, e1, e2, rp⟩ := sr.slot i _ (getS_ok e0)
  obtain ⟨pa, vs, l, a1, a2, a3, a4⟩ := al
  rw [e1] at a1
  cases a1
  have own := fun a ha => sr.own a (mem_at e2 a ha)
  have rf := rp.frz (Z' := fun a => Z a ∨ a ∈ fp) (fun a z => .inl z) fun a m => .inr m
  have r2 : SR g H0 (fun a => Z a ∨ a ∈ fp) (fps.set i []) (σl.set i (some (frz (.lst true xs)))) (σ.set i (some (.ref pa))) H :=
    sr.put sr.same (fun a z => .inl z) (fun a z => by
      rcases z with z | m
      · exact sr.z a z
      · exact (own a m).2.2) (.of_same (same_refl H)) (fun a ha q => by
      rcases q with z | m
      · exact (sr.own a (mem_set0 ha)).1 z
      · exact mem_apart sr.nd e2 a m ha) rf List.nodup_nil fun a ha => nomatch ha
  rw [set_self e1] at r2
  obtain ⟨pa', vs', fs, q1, hl, rs, q2⟩ := rep_own rp
  cases q1
  rw [a2] at hl
  cases hl
  have rsf : Reps g (fun a => Z a ∨ a ∈ fp) H (frzL xs) vs [] := rs.frz (fun a z => .inl z) fun a m => .inr (by rw [q2]; exact List.mem_cons_of_mem _ m)
  have gx : (frzL xs)[k]? = some (frz y) := by
    have : ∀ (xs : List D) (k : Nat), xs[k]? = some y → (frzL xs)[k]? = some (frz y) := by
      intro xs
      induction xs with
      | nil => intro k h; simp at h
      | cons x xs ih =>
        intro k h
        rw [frzL]
        cases k with
        | zero => simp at h ⊢; rw [h]
        | succ k => simpa using ih k (by simpa using h)
    exact this xs k (ofR_ok ey)
  obtain ⟨u, eu, ru⟩ := reps_nil_get rsf gx
  rw [a3] at eu
  cases eu
  have r3 := r2.bind0 j ru
  rw [set_self a4] at r3
  refine ⟨fun a => Z a ∨ a ∈ fp, _, _, fun a z => .inl z, r3, ?_⟩
  cases h : f0 ((σl.set i (some (frz (.lst true xs)))).set j (some (frz y))) with
  | ok r =>
    rw [h] at o
    exact Out.guard (show Out g W Z σ H (if noFrz r = true then .ok r else .bad) P from o)
  | err c fs => rw [h] at o; exact (show False from o).elim
  | bad => rw [h] at o; exact (show False from o).elim
theorem a_skip : PSs X [] (tA g W i j k (aSkip k)) := L2.PSs.imp pss_nil fun E σ H q => by
  obtain ⟨_, H0, Z0, Z, fps, σl, ss, o⟩ := q
  exact o σ H Z fps ss .refl
theorem a_one {st : Stmt} {F : AF} (h : PS X st (tA g W i j k (F k))) : PSs X [st] (tA g W i j k (F k)) := pss_one h
theorem a_if {c : Expr} {p q : List Stmt} {pos : Pos} {fc : Sl → R D} {F G : AF} (hc : PT X c (tIT g W fc)) (ha : PSs X p (tA g W i j k (F k))) (hb : PSs X q (tA g W i j k (G k))) : PS X (.If c p q pos) (tA g W i j k (aIf i j fc F G k)) := (ps_if hc ha hb).imp fun E σ H q => by
  obtain ⟨al, H0, Z0, Z, fps, σl, ss, o⟩ := q
  obtain ⟨Z2, fps2, σl2, le, sr2, o⟩ := al_out ss.sr al (OutS.rS ss o)
  refine ⟨H0, Z2, fps2, σl2, sr2, o.imp fun d ⟨_, o⟩ => ?_⟩
  cases d with
  | bl b =>
    refine ⟨b, rfl, fun H' Z' s z => ?_⟩
    have zx : Zx Z Z H H' := ⟨fun a z => z, fun a z => .inl z, fun a z q => ss.sr.z a z (same_none s q)⟩
    cases b with
    | true => exact ⟨al.same s, H0, Z0, Z, fps, σl, ss.step s zx, OutS.pre (.of_zx s zx) o⟩
    | false => exact ⟨al.same s, H0, Z0, Z, fps, σl, ss.step s zx, OutS.pre (.of_zx s zx) o⟩
  | _ => exact o.elim
theorem frz_post {b : Bool} {Z' : Addr → Prop} {H' : Hp} {d : D} {v : V} {fp : List Addr} (p : PostE g true Z Z' H H' d v fp) : PostE g b Z (fun a => Z' a ∨ a ∈ fp) H H' (frz d) v [] := by
  refine ⟨p.same, ⟨fun a z => .inl (p.zx.le a z), fun a z => ?_, fun a z => ?_⟩, p.rep.frz (fun a z => .inl z) fun a m => .inr m, fun _ => ⟨List.nodup_nil, fun _ h => nomatch h⟩⟩
  · rcases z with z | m
    · exact p.zx.new a z
    · exact .inr ((p.own rfl).2 a m).1
  · rcases z with z | m
    · exact p.zx.inn a z
    · exact p.rep.there a m
theorem a_put {e a : Expr} {n : Str} {p pos spos : Pos} {y : Bool} {fe fk : Sl → R D} (he : PE X e (tI g W true fe)) (hk : PE X a (tI g W y fk)) (hN : X.N[j]? = some n := by rfl) (hv : Vis X.env.scope n := by first | exact Or.inl rfl | exact Or.inr (Or.inl rfl) | exact Or.inr (Or.inr rfl)) (hd : (n == ("__debug__" : Str)) = false := by decide) (hcd : (n == ("__classdict__" : Str)) = false := by decide)
    (ha : ∀ v, assign (.Subscript (.Name n p) a pos) X.env v = (do
      let ov ← holding [v] (eval (.Name n p) X.env)
      let iv ← holding [v, ov] (eval a X.env)
      standAt pos
      holding [v, ov, iv] (setItem ov iv v)
      release [v, ov, iv] []) := by intro _; rfl)
    (hs : swapsWithSole [.Subscript (.Name n p) a pos] e spos.line X.env = pure false := by rfl) (hw : swappedStores [.Subscript (.Name n p) a pos] e X.env = pure none := by rfl) (h1 : (assignEach [.Subscript (.Name n p) a pos] X.env).map (·.2) = [assign (.Subscript (.Name n p) a pos) X.env] := by rfl) :
    PS X (.Assign [.Subscript (.Name n p) a pos] e spos) (tA g W i j k (aPut i j fk fe k)) :=
  (ps_asg he (pg_sub (pe_var hN hv hd hcd) hk set_list ha) hs hw h1).imp fun E σ H q => by
  obtain ⟨al, H0, Z0, Z, fps, σl, ss, o⟩ := q
  obtain ⟨Z2, fps2, σl2, le, sr2, o⟩ := al_out ss.sr al (OutS.rS ss o)
  refine ⟨H0, Z2, fps2, σl2, sr2, o.imp fun yv ⟨hn, o⟩ vy H1 Z1 fy p1 => ?_⟩
  have p1 := frz_post (b := true) (tmp_post ss.sr.z le hn p1)
  have ss1 := ss.step p1.same p1.zx
  have o := o.pre (.of_zx p1.same p1.zx)
  have al1 := al.same p1.same
  obtain ⟨xs, e0, o⟩ := (OutS.rS ss1 o).okOf fun c fs => lstOf_err getS_err
  have e0' := lstOf_ok e0
  obtain ⟨yd, ey, o⟩ := (OutS.rS ss1 o).okOf fun c fs => ofR_err
  obtain ⟨ys, el, o8⟩ := (OutS.rS ss1 o).okOf lstOf_err0
  have el := lstOf_ok (r := .ok yd) el
  cases el
  have ey := ofR_ok ey
  obtain ⟨pa, vs, l, a1, a2, a3, a4⟩ := al1
  refine ⟨.ref l, a4, H0, _, fps, σl, ss1.sr, (OutS.rS ss1 o8).imp fun kd o vk H3 Z3 fkd p3 => ?_⟩
  have ss3 := ss1.step p3.same p3.zx
  have o := o.pre (.of_zx p3.same p3.zx)
  obtain ⟨jk, ejk, o⟩ := (OutS.rS ss3 o).okOf fun c fs => intOf_err
  obtain ⟨k', ek, o⟩ := (OutS.rS ss3 o).okOf fun c fs => ofR_err
  obtain ⟨hcl, o9⟩ := OutS.guard o
  have ejk := intOf_ok ejk
  subst ejk
  obtain ⟨rfl, _⟩ := rep_int p3.rep
  have ek := ofR_ok ek
  obtain ⟨pa', vs', l', us, f1, f2, f3, f4, f5, f6, wr⟩ := sub_write (W := W) (E := E) ss3 e0' ey hcl
  rw [a1] at f1
  cases f1
  have hl5 := p3.same _ _ a2
  rw [hl5] at f2
  cases f2
  rw [a3] at f3
  cases f3
  have len := f6.length
  have ek2 := ek
  rw [len] at ek2
  obtain ⟨_, q2, _, _⟩ := ixN_seq ek2
  refine ⟨l, us, jk, k', rfl, rfl, f5, ek2, wr _ _ ?_ o9⟩
  rw [List.set_eq_take_append_cons_drop, List.set_eq_take_append_cons_drop, if_pos q2, if_pos (by rw [len]; exact q2)]
  exact Reps.app0 (Reps.take0 k' f6) (.cons (f := []) (fs := []) (p1.rep.same p3.zx.le p3.same) (Reps.drop0 (k' + 1) f6))
theorem SR.dropV (r : SR g H0 Z fps σl σ H) (i : Nat) (x : Option V) : SR g H0 Z (fps.set i []) (σl.set i none) (σ.set i x) H := by
  have r1 := r.drop i r.same (fun _ z => z) r.z (.of_same (same_refl H)) fun a ha => (r.own a (mem_set0 ha)).1
  refine { r1 with len := by rw [r1.len, List.length_set], lenf := by rw [r1.lenf, List.length_set], slot := fun j d e => ?_ }
  obtain ⟨v, fp, e1, e2, rp⟩ := r1.slot j d e
  refine ⟨v, fp, ?_, e2, rp⟩
  by_cases h : i = j
  · subst h
    have hl : i < σl.length := by have := lt_of_get e; rwa [List.length_set] at this
    rw [List.getElem?_set_self hl] at e
    cases e
  · rw [List.getElem?_set_ne h]; exact e1
theorem t_al {c : Expr} {n m : Str} {p pm spos pos : Pos} {y : Bool} {fc : Sl → R D} {F : AF} {st : Stmt} (i j : Nat) (nd : X.N.Nodup) (hc : PE X c (tI g W y fc)) (h : ∀ k, PS X st (tA g W i j k (F k))) (hij : i ≠ j := by decide)
    (hN : X.N[i]? = some n := by rfl) (hv : Vis X.env.scope n := by first | exact Or.inl rfl | exact Or.inr (Or.inl rfl) | exact Or.inr (Or.inr rfl)) (hd : (n == ("__debug__" : Str)) = false := by decide) (hcd : (n == ("__classdict__" : Str)) = false := by decide)
    (hp : PlainIx c := by intro _ _; rfl) (hi : X.N[j]? = some m := by rfl) (hx : Loc X.env.scope m := by first | exact Or.inl rfl | exact Or.inr rfl) (hs : swapsWith (.Subscript (.Name n p) c spos) (some (.Name m pm)) pos.line X.env = pure false := by rfl)
    (hf : X.fn m = true ∨ X.env.scope.names.lookup m = some .local := by first | exact Or.inl rfl | exact Or.inr rfl) (np : Np g j := by first | exact Or.inl rfl | exact Or.inr (by decide)) :
    PSs X [.Assign [.Name m pm] (.Subscript (.Name n p) c spos) pos, st] (tS g W (sAl i j fc F)) :=
  L2.PSs.imp (t' := tS g W (sAl i j fc F)) (t := fun D σ H => ∃ k, tSeq (tAsg (tOp (fun x y H Q => rIxL X.K x y H Q ∨ rIxT X.K x y H Q) (tVar i) (tI g W y fc)) (gName j)) (tA g W i j k (F k)) D σ H) ⟨fun pins s σ H D I q => by
    obtain ⟨k, q⟩ := q
    exact (pss_cons (ps_set nd hi hx (pe_ix (ix_list.or ix_tup) (pe_var hN hv hd hcd) hc hp) hs hf) (pss_one (h k))).run pins s σ H D I q⟩ fun E σ H q => by
  obtain ⟨H0, Z0, Z, fps, σl, ss, o⟩ := q
  obtain ⟨xs, e0, o⟩ := (OutS.rS ss o).okOf fun c fs => lstOf_err getS_err
  have e0' := lstOf_ok e0
  obtain ⟨v, fp, e1, e2, rp⟩ := ss.sr.slot i _ (getS_ok e0')
  obtain ⟨pa, vs, fs, rfl, hl, rs, rfl⟩ := rep_own rp
  obtain ⟨k, hk⟩ : ∃ k, ∀ cd jc k', fc σl = .ok cd → intOf cd = .ok jc → ofR (L2.ixN xs.length jc) = .ok k' → k' = k := by
    by_cases q : ∃ cd jc k', fc σl = .ok cd ∧ intOf cd = .ok jc ∧ ofR (L2.ixN xs.length jc) = .ok k'
    · obtain ⟨cd, jc, k', h1, h2, h3⟩ := q
      refine ⟨k', fun cd' jc' k2 g1 g2 g3 => ?_⟩
      rw [h1] at g1; cases g1
      rw [h2] at g2; cases g2
      rw [h3] at g3; cases g3
      rfl
    · exact ⟨0, fun cd jc k' h1 h2 h3 => absurd ⟨cd, jc, k', h1, h2, h3⟩ q⟩
  refine ⟨k, .ref pa, e1, H0, Z, fps, σl, ss.sr, ?_⟩
  have oo := OutS.rS ss o
  cases hfc : fc σl with
  | bad => rw [hfc] at oo; exact oo.elim
  | err c' fs' => rw [hfc] at oo; exact oo
  | ok cd =>
    rw [hfc] at oo
    intro vc H2 Z2 fcd p2
    have ss2 := ss.step p2.same p2.zx
    have o := OutS.pre (.of_zx p2.same p2.zx) oo
    obtain ⟨jc, ejc, o⟩ := (OutS.rS ss2 o).okOf fun c fs => intOf_err
    obtain ⟨k', ej, o⟩ := (OutS.rS ss2 o).okOf fun c fs => ofR_err
    have := hk cd jc k' hfc ejc ej
    subst this
    obtain ⟨yd, ey, o⟩ := (OutS.rS ss2 o).okOf fun c fs => ofR_err
    obtain ⟨ys, el, o8⟩ := (OutS.rS ss2 o).okOf lstOf_err0
    have el := lstOf_ok (r := .ok yd) el
    cases el
    have ejc := intOf_ok ejc
    subst ejc
    obtain ⟨rfl, _⟩ := rep_int p2.rep
    have ej := ofR_ok ej
    have ey := ofR_ok ey
    have hl2 := p2.same _ _ hl
    have rs2 := rs.same p2.zx.le p2.same
    have hat : ∃ l, L2.atI vs jc = some (.ref l) ∧ vs[k']? = some (.ref l) := by
      obtain ⟨u, f, eu, ru, _, _⟩ := rs2.get k' _ ey
      obtain ⟨l, us, gs, rfl, _, _, _⟩ := rep_own ru
      refine ⟨l, ?_, eu⟩
      unfold L2.atI
      rw [← rs2.length, ej]
      exact eu
    obtain ⟨l, hl3, hl4⟩ := hat
    refine .inl ⟨pa, vs, jc, .ref l, rfl, rfl, .inl (by exact .inl hl2), hl3, ?_⟩
    obtain ⟨hjl, o8⟩ := OutS.guard o8
    rw [ss2.sr.len] at hjl
    refine ⟨⟨pa, vs, l, by rw [List.getElem?_set_ne (Ne.symm hij)]; exact e1, hl2, hl4, List.getElem?_set_self hjl⟩, H0, Z0, Z2, _, _, ⟨ss2.sr.dropV j (some (.ref l)), ss2.z0, ss2.zn, ss2.gh.set np⟩, o8⟩
theorem Reps.setD {Z : Addr → Prop} {H : Hp} : ∀ {xs : List D} {vs : List V} {fp : List Addr}, Reps g Z H xs vs fp → ∀ {k : Nat} {d : D}, xs[k]? = some d →
    ∃ v A f B, fp = A ++ (f ++ B) ∧ vs[k]? = some v ∧ Rep g Z H d v f ∧ ∀ {H' : Hp} {d' : D} {v' : V} {f' : List Addr}, Kp Z (A ++ B) H H' → Rep g Z H' d' v' f' → Reps g Z H' (xs.set k d') (vs.set k v') (A ++ (f' ++ B))
  | _, _, _, .nil, _, _, h => by simp at h
  | _, _, _, .cons (x := x0) (v := v) (xs := xs) (vs := vs) (f := f) (fs := fs) r rs, 0, d, h => by
    simp at h
    subst h
    refine ⟨v, [], f, fs, rfl, rfl, r, fun {H' d' v' f'} kp r' => (show Reps g Z H' (d' :: xs) (v' :: vs) (f' ++ fs) from .cons r' (rs.keep (fun _ z => z) (kp.sub fun a m => m)))⟩
  | _, _, _, .cons (x := x0) (v := v) (xs := xs) (vs := vs) (f := f) (fs := fs) r rs, k + 1, d, h => by
    obtain ⟨u, A, f1, B, e, h1, h2, h3⟩ := Reps.setD rs (k := k) (by simpa using h)
    refine ⟨u, f ++ A, f1, B, by rw [e, List.append_assoc], by simpa using h1, h2, fun {H' d' v' f'} kp r' => ?_⟩
    have := h3 (kp.sub fun a m => by
      rcases List.mem_append.mp m with m | m
      · exact List.mem_append_left _ (List.mem_append_right _ m)
      · exact List.mem_append_right _ m) r'
    rw [List.append_assoc]
    exact .cons (r.keep (fun _ z => z) (kp.sub fun a m => List.mem_append_left _ (List.mem_append_left _ m))) this
theorem own_write {E : Ends} {pa l : Addr} {fp fp' : List Addr} {us' : List V} {us : List V} {d' : D} (ss : SS g H0 Z0 Z fps σl σ H) (e1 : σ[i]? = some (some (.ref pa))) (e2 : fps[i]? = some fp) (hm : l ∈ fp) (hl : H l = some (.lst us))
    (rep2 : Rep g Z (upd H l (.lst us')) d' (.ref pa) fp') (nd : fp'.Nodup) (sub : ∀ a ∈ fp', a ∈ fp) (o : OutS g W H0 Z0 Z H E (.nx (σl.set i (some d')))) : E.nx σ (upd H l (.lst us')) := by
  have own := ss.sr.own l (mem_at e2 l hm)
  have ap := mem_apart ss.sr.nd e2 l hm
  have ow : Owd g.P g.w l (H l) := .inl ⟨us, hl⟩
  have r2 := ss.sr.put (i := i) (same_updO ss.sr.same own.2.1) (fun _ z => z) (fun a z => upd_some (ss.sr.z a z)) (kp_upd ow own.1 ap) (fun a ha => (ss.sr.own a (mem_set0 ha)).1) rep2 nd
    (fun a ha => ⟨mem_apart ss.sr.nd e2 a (sub a ha), (ss.sr.own a (mem_at e2 a (sub a ha))).1, (ss.sr.own a (mem_at e2 a (sub a ha))).2.1⟩)
  rw [set_self e1] at r2
  exact o σ _ Z _ ⟨r2, ss.z0, ss.zn, ss.gh.ev (.upd ow own.1)⟩ (.upd ow own.1)
def sSubPutG (i : Nat) (fc fk fe : Sl → R D) : SF := fun σ => rS (fe σ) σ fun y => rS ((getS σ i).bind lstOf) σ fun xs => rS (fc σ) σ fun cd => rS (intOf cd) σ fun jc => rS (ofR (L2.ixN xs.length jc)) σ fun j => rS (ofR xs[j]?) σ fun yd => rS (lstOf yd) σ fun ys => rS (fk σ) σ fun kd => rS (intOf kd) σ fun jk => rS (ofR (L2.ixN ys.length jk)) σ fun k =>
  if clean y = true then .nx (σ.set i (some (.lst true (xs.set j (.lst true (ys.set k y)))))) else .bad
theorem nd_mid {A f f' B : List Addr} (h : (A ++ (f ++ B)).Nodup) (nf : f'.Nodup) (sub : ∀ a ∈ f', a ∈ f) : (A ++ (f' ++ B)).Nodup := by
  rw [List.nodup_append] at h
  obtain ⟨h1, h2, h3⟩ := h
  rw [List.nodup_append] at h2
  obtain ⟨h4, h5, h6⟩ := h2
  rw [List.nodup_append]
  refine ⟨h1, ?_, fun a ha b hb => ?_⟩
  · rw [List.nodup_append]
    exact ⟨nf, h5, fun a ha b hb => h6 a (sub a ha) b hb⟩
  · rcases List.mem_append.mp hb with hb | hb
    · exact h3 a ha b (List.mem_append_left _ (sub b hb))
    · exact h3 a ha b (List.mem_append_right _ hb)
theorem nd_out {A f B : List Addr} (h : (A ++ (f ++ B)).Nodup) : ∀ a ∈ f, a ∉ A ++ B := fun a ha hm => by
  rw [List.nodup_append] at h
  obtain ⟨h1, h2, h3⟩ := h
  rw [List.nodup_append] at h2
  rcases List.mem_append.mp hm with m | m
  · exact h3 a m a (List.mem_append_left _ ha) rfl
  · exact h2.2.2 a ha a m rfl
theorem nd_f {A f B : List Addr} (h : (A ++ (f ++ B)).Nodup) : f.Nodup := (List.nodup_append.mp (List.nodup_append.mp h).2.1).1
end
section
variable {X : Cx} {g : Gv} {W : L2.WX} {e c a c2 : Expr} {fe fc fk f2 : Sl → R D} {i : Nat} {x y z : Bool} {pos p apos cpos spos spos2 : Pos} {n : Str}
theorem t_subputG (i : Nat) (G : Gof g X) (he : PE X e (tI g W x fe)) (hc : PE X c (tI g W y fc)) (hk : PE X a (tI g W z fk)) (hN : X.N[i]? = some n := by rfl) (hv : Vis X.env.scope n := by first | exact Or.inl rfl | exact Or.inr (Or.inl rfl) | exact Or.inr (Or.inr rfl)) (hd : (n == ("__debug__" : Str)) = false := by decide) (hcd : (n == ("__classdict__" : Str)) = false := by decide)
    (hp : PlainIx c := by intro _ _; rfl)
    (ha : ∀ v, assign (.Subscript (.Subscript (.Name n p) c spos2) a pos) X.env v = (do
      let ov ← holding [v] (eval (.Subscript (.Name n p) c spos2) X.env)
      let iv ← holding [v, ov] (eval a X.env)
      standAt pos
      holding [v, ov, iv] (setItem ov iv v)
      release [v, ov, iv] []) := by intro _; rfl)
    (hs : swapsWithSole [.Subscript (.Subscript (.Name n p) c spos2) a pos] e spos.line X.env = pure false := by rfl) (hw : swappedStores [.Subscript (.Subscript (.Name n p) c spos2) a pos] e X.env = pure none := by rfl) (h1 : (assignEach [.Subscript (.Subscript (.Name n p) c spos2) a pos] X.env).map (·.2) = [assign (.Subscript (.Subscript (.Name n p) c spos2) a pos) X.env] := by rfl) :
    PS X (.Assign [.Subscript (.Subscript (.Name n p) c spos2) a pos] e spos) (tS g W (sSubPutG i fc fk fe)) :=
  (ps_asg he (pg_sub (pe_ix (ix_list.or ix_tup) (pe_var hN hv hd hcd) hc hp) hk set_list ha) hs hw h1).imp fun E σ H q => by
  obtain ⟨H0, Z0, Z, fps, σl, ss, o⟩ := q
  refine ⟨H0, Z, fps, σl, ss.sr, (OutS.rS ss o).imp fun yv o vy H1 Z1 fy p1 => ?_⟩
  have ss1 := ss.step p1.same p1.zx
  have o := o.pre (.of_zx p1.same p1.zx)
  obtain ⟨xs, e0, o⟩ := (OutS.rS ss1 o).okOf fun c fs => lstOf_err getS_err
  have e0' := lstOf_ok e0
  obtain ⟨v, fp, e1, e2, rp⟩ := ss1.sr.slot i _ (getS_ok e0')
  obtain ⟨pa, vs, fs, rfl, hl, rs, rfl⟩ := rep_own rp
  refine ⟨.ref pa, e1, H0, Z1, fps, σl, ss1.sr, (OutS.rS ss1 o).imp fun cd o vc H2 Z2 fcd p2 => ?_⟩
  have ss2 := ss1.step p2.same p2.zx
  have o := o.pre (.of_zx p2.same p2.zx)
  obtain ⟨jc, ejc, o⟩ := (OutS.rS ss2 o).okOf fun c fs => intOf_err
  obtain ⟨j, ej, o⟩ := (OutS.rS ss2 o).okOf fun c fs => ofR_err
  obtain ⟨yd, ey, o⟩ := (OutS.rS ss2 o).okOf fun c fs => ofR_err
  obtain ⟨ys, el, o8⟩ := (OutS.rS ss2 o).okOf lstOf_err0
  have el := lstOf_ok (r := .ok yd) el
  cases el
  have ejc := intOf_ok ejc
  subst ejc
  obtain ⟨rfl, _⟩ := rep_int p2.rep
  have ej := ofR_ok ej
  have ey := ofR_ok ey
  have hl2 := p2.same _ _ hl
  have rs2 := rs.same p2.zx.le p2.same
  have hat : ∃ l, L2.atI vs jc = some (.ref l) ∧ vs[j]? = some (.ref l) := by
    obtain ⟨u, f, eu, ru, _, _⟩ := rs2.get j _ ey
    obtain ⟨l, us, gs, rfl, _, _, _⟩ := rep_own ru
    refine ⟨l, ?_, eu⟩
    unfold L2.atI
    rw [← rs2.length, ej]
    exact eu
  obtain ⟨l, hl3, hl4⟩ := hat
  refine .inl ⟨pa, vs, jc, .ref l, rfl, rfl, .inl (by exact .inl hl2), hl3, H0, Z2, fps, σl, ss2.sr, (OutS.rS ss2 o8).imp fun kd o vk H3 Z3 fkd p3 => ?_⟩
  have ss3 := ss2.step p3.same p3.zx
  have o := o.pre (.of_zx p3.same p3.zx)
  obtain ⟨jk, ejk, o⟩ := (OutS.rS ss3 o).okOf fun c fs => intOf_err
  obtain ⟨k, ek, o⟩ := (OutS.rS ss3 o).okOf fun c fs => ofR_err
  obtain ⟨hy, o9⟩ := OutS.guard o
  have ejk := intOf_ok ejk
  subst ejk
  obtain ⟨rfl, _⟩ := rep_int p3.rep
  have ek := ofR_ok ek
  have hl5 := p3.same _ _ hl2
  have rs3 := rs2.same p3.zx.le p3.same
  obtain ⟨v1, A, f1, B, q1, q2, q3, q4⟩ := rs3.setD ey
  rw [hl4] at q2
  cases q2
  obtain ⟨l', us, gs, q5, q6, q7, q8⟩ := rep_own q3
  cases q5
  have len := q7.length
  have ek2 := ek
  rw [len] at ek2
  obtain ⟨_, kl, _, _⟩ := ixN_seq ek2
  obtain ⟨yk, eyk⟩ : ∃ yk, ys[k]? = some yk := ⟨_, List.getElem?_eq_getElem (by rw [len]; exact kl)⟩
  obtain ⟨v2, A2, f2, B2, r1, r2, r3, r4⟩ := q7.setD eyk
  refine ⟨l, us, jk, k, rfl, rfl, q6, ek2, ?_⟩
  have nd0 : (pa :: fs).Nodup := nd_at ss3.sr.nd e2
  have nd1 := (List.nodup_cons.mp nd0).2
  rw [q1] at nd1
  have ndf := nd_f nd1
  rw [q8] at ndf
  have ndg := (List.nodup_cons.mp ndf).2
  rw [r1] at ndg
  have ow : Owd g.P g.w l (H3 l) := .inl ⟨us, q6⟩
  have lm : l ∈ pa :: fs := List.mem_cons_of_mem _ (by rw [q1, q8]; exact List.mem_append_right _ (List.mem_append_left _ List.mem_cons_self))
  have own := ss3.sr.own l (mem_at e2 l lm)
  have np : pa ≠ l := fun q => (List.nodup_cons.mp nd0).1 (by rw [q, q1, q8]; exact List.mem_append_right _ (List.mem_append_left _ List.mem_cons_self))
  have lng : l ∉ gs := (List.nodup_cons.mp ndf).1
  have sub2 : ∀ b ∈ A2 ++ ([] ++ B2), b ∈ gs := fun b hb => by
    rw [r1]
    rcases List.mem_append.mp hb with m | m
    · exact List.mem_append_left _ m
    · exact List.mem_append_right _ (List.mem_append_right _ m)
  have yrep := ((p1.rep.to0 hy).same p2.zx.le p2.same).same p3.zx.le p3.same
  have yr2 : Rep g Z3 (upd H3 l (.lst (us.set k vy))) yv vy [] := yrep.keep (fun _ z => z) (kp_upd ow own.1 (fun h => nomatch h))
  have part : Rep g Z3 (upd H3 l (.lst (us.set k vy))) (.lst true (ys.set k yv)) (.ref l) (l :: (A2 ++ ([] ++ B2))) := .lst upd_same (r4 (kp_upd ow own.1 fun hm => lng (by
    rw [r1]
    rcases List.mem_append.mp hm with m | m
    · exact List.mem_append_left _ m
    · exact List.mem_append_right _ (List.mem_append_right _ m))) yr2) (.inl ⟨rfl, rfl⟩)
  have whole := q4 (kp_upd ow own.1 (nd_out (A := A) (f := f1) (B := B) nd1 l (by rw [q8]; exact List.mem_cons_self))) part
  rw [set_self hl4] at whole
  have nd2 : (A ++ ((l :: (A2 ++ ([] ++ B2))) ++ B)).Nodup := nd_mid nd1 (List.nodup_cons.mpr ⟨fun m => lng (sub2 _ m), nd_mid ndg List.nodup_nil fun _ h => nomatch h⟩) fun b hb => by
    rw [q8]
    rcases List.mem_cons.mp hb with rfl | hb
    · exact List.mem_cons_self
    · exact List.mem_cons_of_mem _ (sub2 b hb)
  have subw : ∀ b ∈ A ++ ((l :: (A2 ++ ([] ++ B2))) ++ B), b ∈ fs := fun b hb => by
    rw [q1, q8]
    rcases List.mem_append.mp hb with m | m
    · exact List.mem_append_left _ m
    · refine List.mem_append_right _ ?_
      rcases List.mem_append.mp m with m | m
      · refine List.mem_append_left _ ?_
        rcases List.mem_cons.mp m with rfl | m
        · exact List.mem_cons_self
        · exact List.mem_cons_of_mem _ (sub2 b m)
      · exact List.mem_append_right _ m
  exact own_write ss3 e1 e2 lm q6 (.lst (show (if pa = l then _ else H3 pa) = _ by rw [if_neg np]; exact hl5) whole (.inl ⟨rfl, rfl⟩)) (List.nodup_cons.mpr ⟨fun m => (List.nodup_cons.mp nd0).1 (subw _ m), nd2⟩) (fun b hb => by
    rcases List.mem_cons.mp hb with rfl | hb
    · exact List.mem_cons_self
    · exact List.mem_cons_of_mem _ (subw b hb)) o9
def sSub2App (i : Nat) (fc f2 fe : Sl → R D) : SF := fun σ => rS ((getS σ i).bind lstOf) σ fun xs => rS (fc σ) σ fun cd => rS (intOf cd) σ fun jc => rS (ofR (L2.ixN xs.length jc)) σ fun j => rS (ofR xs[j]?) σ fun yd => rS (lstOf yd) σ fun ys => rS (f2 σ) σ fun kd => rS (intOf kd) σ fun jk => rS (ofR (L2.ixN ys.length jk)) σ fun k => rS (ofR ys[k]?) σ fun zd => rS (lstOf zd) σ fun zs => rS (fe σ) σ fun u =>
  if zs.length < sizeLine ∧ clean u = true then .nx (σ.set i (some (.lst true (xs.set j (.lst true (ys.set k (.lst true (zs ++ [u])))))))) else .bad
theorem Reps.snoc {Z : Addr → Prop} {H : Hp} {xs : List D} {vs : List V} {fp : List Addr} {d : D} {v : V} (r : Reps g Z H xs vs fp) (h : Rep g Z H d v []) : Reps g Z H (xs ++ [d]) (vs ++ [v]) fp := by
  induction r using Reps.rec (motive_1 := fun _ _ _ _ => True) with
  | nil => exact .cons (f := []) (fs := []) h .nil
  | cons a b _ ih => rw [List.cons_append, List.cons_append]; exact .cons a ih
  | _ => trivial
theorem t_sub2app (i : Nat) (G : Gof g X) (hc : PE X c (tI g W y fc)) (hc2 : PE X c2 (tI g W z f2)) (he : PE X e (tI g W x fe)) (hN : X.N[i]? = some n := by rfl) (hv : Vis X.env.scope n := by first | exact Or.inl rfl | exact Or.inr (Or.inl rfl) | exact Or.inr (Or.inr rfl)) (hd : (n == ("__debug__" : Str)) = false := by decide) (hcd : (n == ("__classdict__" : Str)) = false := by decide)
    (hp : PlainIx c := by intro _ _; rfl) (hp2 : PlainIx c2 := by intro _ _; rfl) (hst : starEach [e] X.env = (false, eval e X.env) :: starEach [] X.env := by exact starE (by rfl))
    (hbase : attributeBase (.Subscript (.Subscript (.Name n p) c spos) c2 spos2) "append" X.env (eval (.Subscript (.Subscript (.Name n p) c spos) c2 spos2) X.env) = eval (.Subscript (.Subscript (.Name n p) c spos) c2 spos2) X.env := by rfl)
    (hfew : ((backTo cpos (starEach [e] X.env)).all (fun x => !x.1) && (backToKw cpos (keywordEach [] X.env)).all (fun x => x.1.isSome)
      && decide ([e].length + ([] : List Keyword).length + (if ([] : List Keyword).isEmpty then 0 else 1) < 30)) = true := by rfl)
    (hline : (apos.endLine == cpos.line) = true := by rfl) (hplain : (backTo cpos (starEach [] X.env)).any (·.1) = false := by rfl)
    (hs : swapsWith (.Call (.Attribute (.Subscript (.Subscript (.Name n p) c spos) c2 spos2) "append" apos) [e] [] cpos) none pos.line X.env = pure false := by rfl) :
    PS X (.Expr (.Call (.Attribute (.Subscript (.Subscript (.Name n p) c spos) c2 spos2) "append" apos) [e] [] cpos) pos) (tS g W (sSub2App i fc f2 fe)) :=
  (ps_expr (pe_bm PySem.F.plainAttrs_list PySem.F.slot_list_append PySem.F.type_list_append mt_append (pe_ix (ix_list.or ix_tup) (pe_ix (ix_list.or ix_tup) (pe_var hN hv hd hcd) hc hp) hc2 hp2) (pa_cons he pa_nil hst) hbase hfew hline hst hplain) hs).imp fun E σ H q => by
  obtain ⟨H0, Z0, Z, fps, σl, ss1, o⟩ := q
  obtain ⟨xs, e0, o⟩ := (OutS.rS ss1 o).okOf fun c fs => lstOf_err getS_err
  have e0' := lstOf_ok e0
  obtain ⟨v, fp, e1, e2, rp⟩ := ss1.sr.slot i _ (getS_ok e0')
  obtain ⟨pa, vs, fs, rfl, hl, rs, rfl⟩ := rep_own rp
  refine ⟨.ref pa, e1, H0, Z, fps, σl, ss1.sr, (OutS.rS ss1 o).imp fun cd o vc H2 Z2 fcd p2 => ?_⟩
  have ss2 := ss1.step p2.same p2.zx
  have o := o.pre (.of_zx p2.same p2.zx)
  obtain ⟨jc, ejc, o⟩ := (OutS.rS ss2 o).okOf fun c fs => intOf_err
  obtain ⟨j, ej, o⟩ := (OutS.rS ss2 o).okOf fun c fs => ofR_err
  obtain ⟨yd, ey, o⟩ := (OutS.rS ss2 o).okOf fun c fs => ofR_err
  obtain ⟨ys, el, o8⟩ := (OutS.rS ss2 o).okOf lstOf_err0
  have el := lstOf_ok (r := .ok yd) el
  cases el
  have ejc := intOf_ok ejc
  subst ejc
  obtain ⟨rfl, _⟩ := rep_int p2.rep
  have ej := ofR_ok ej
  have ey := ofR_ok ey
  have hl2 := p2.same _ _ hl
  have rs2 := rs.same p2.zx.le p2.same
  have hat : ∃ l us, L2.atI vs jc = some (.ref l) ∧ vs[j]? = some (.ref l) ∧ H2 l = some (.lst us) := by
    obtain ⟨u, f, eu, ru, _, _⟩ := rs2.get j _ ey
    obtain ⟨l, us, gs, rfl, hu, _, _⟩ := rep_own ru
    refine ⟨l, us, ?_, eu, hu⟩
    unfold L2.atI
    rw [← rs2.length, ej]
    exact eu
  obtain ⟨l, us0, hl3, hl4, hlu⟩ := hat
  refine .inl ⟨pa, vs, jc, .ref l, rfl, rfl, .inl (by exact .inl hl2), hl3, H0, Z2, fps, σl, ss2.sr, (OutS.rS ss2 o8).imp fun kd o vk H3 Z3 fkd p3 => ?_⟩
  have ss3 := ss2.step p3.same p3.zx
  have o := o.pre (.of_zx p3.same p3.zx)
  obtain ⟨jk, ejk, o⟩ := (OutS.rS ss3 o).okOf fun c fs => intOf_err
  obtain ⟨k, ek, o⟩ := (OutS.rS ss3 o).okOf fun c fs => ofR_err
  obtain ⟨zd, ez, o⟩ := (OutS.rS ss3 o).okOf fun c fs => ofR_err
  obtain ⟨zs, ezl, o9⟩ := (OutS.rS ss3 o).okOf lstOf_err0
  have ezl := lstOf_ok (r := .ok zd) ezl
  cases ezl
  have ejk := intOf_ok ejk
  subst ejk
  obtain ⟨rfl, _⟩ := rep_int p3.rep
  have ek := ofR_ok ek
  have ez := ofR_ok ez
  have hl5 := p3.same _ _ hl2
  have hlu3 := p3.same _ _ hlu
  have rs3 := rs2.same p3.zx.le p3.same
  have hat2 : ∃ l2 ws, L2.atI us0 jk = some (.ref l2) ∧ H3 l2 = some (.lst ws) := by
    obtain ⟨v1, A, f1, B, q1, q2, q3, q4⟩ := rs3.setD ey
    rw [hl4] at q2
    cases q2
    obtain ⟨l', us, gs, q5, q6, q7, q8⟩ := rep_own q3
    cases q5
    rw [hlu3] at q6
    cases q6
    obtain ⟨u, f, eu, ru, _, _⟩ := q7.get k _ ez
    obtain ⟨l2, ws, gs2, rfl, hw, _, _⟩ := rep_own ru
    refine ⟨l2, ws, ?_, hw⟩
    unfold L2.atI
    rw [← q7.length, ek]
    exact eu
  obtain ⟨l2, ws0, hm3, hw0⟩ := hat2
  refine .inl ⟨l, us0, jk, .ref l2, rfl, rfl, .inl (by exact .inl hlu3), hm3, .inl ⟨rfl, ws0, .inl (.inl hw0)⟩, H0, Z3, fps, σl, ss3.sr, (OutS.rS ss3 o9).imp fun ud o vu H4 Z4 fu p4 => ?_⟩
  have ss4 := ss3.step p4.same p4.zx
  have o := o.pre (.of_zx p4.same p4.zx)
  obtain ⟨⟨hn, hu⟩, o10⟩ := OutS.guard o
  have hl6 := p4.same _ _ hl5
  have hlu4 := p4.same _ _ hlu3
  have rs4 := rs3.same p4.zx.le p4.same
  obtain ⟨v1, A, f1, B, q1, q2, q3, q4⟩ := rs4.setD ey
  rw [hl4] at q2
  cases q2
  obtain ⟨l', us, gs, q5, q6, q7, q8⟩ := rep_own q3
  cases q5
  rw [hlu4] at q6
  cases q6
  obtain ⟨v2, A2, f2', B2, r1, r2, r3, r4⟩ := q7.setD ez
  obtain ⟨l2', ws, gw, r5, r6, r7, r8⟩ := rep_own r3
  cases r5
  have : l2 = l2' := by
    unfold L2.atI at hm3
    rw [← q7.length, ek] at hm3
    rw [show us0[k]? = some (.ref l2) from hm3] at r2
    cases r2
    rfl
  subst this
  refine ⟨l2, ws, vu, rfl, rfl, r6, by rw [← r7.length]; exact hn, ?_⟩
  have nd0 : (pa :: fs).Nodup := nd_at ss4.sr.nd e2
  have nd1 := (List.nodup_cons.mp nd0).2
  rw [q1] at nd1
  have ndf := nd_f nd1
  rw [q8] at ndf
  have ndg := (List.nodup_cons.mp ndf).2
  rw [r1] at ndg
  have ndw := nd_f ndg
  have m2 : l2 ∈ f2' := by rw [r8]; exact List.mem_cons_self
  have m2g : l2 ∈ gs := by rw [r1]; exact List.mem_append_right _ (List.mem_append_left _ m2)
  have m2f : l2 ∈ f1 := by rw [q8]; exact List.mem_cons_of_mem _ m2g
  have m2s : l2 ∈ fs := by rw [q1]; exact List.mem_append_right _ (List.mem_append_left _ m2f)
  have lm : l2 ∈ pa :: fs := List.mem_cons_of_mem _ m2s
  have own := ss4.sr.own l2 (mem_at e2 l2 lm)
  have ow : Owd g.P g.w l2 (H4 l2) := .inl ⟨ws, r6⟩
  have np : pa ≠ l2 := fun q => (List.nodup_cons.mp nd0).1 (by rw [q]; exact m2s)
  have np2 : l ≠ l2 := fun q => (List.nodup_cons.mp ndf).1 (by rw [q]; exact m2g)
  have l2w : l2 ∉ gw := by rw [r8] at ndw; exact (List.nodup_cons.mp ndw).1
  have kp0 : Kp Z4 [] H4 (upd H4 l2 (.lst (ws ++ [vu]))) := kp_upd ow own.1 (fun h => nomatch h)
  have ur : Rep g Z4 (upd H4 l2 (.lst (ws ++ [vu]))) ud vu [] := (p4.rep.to0 hu).keep (fun _ z => z) kp0
  have inner : Rep g Z4 (upd H4 l2 (.lst (ws ++ [vu]))) (.lst true (zs ++ [ud])) (.ref l2) (l2 :: gw) := .lst upd_same ((r7.keep (fun _ z => z) (kp_upd ow own.1 l2w)).snoc ur) (.inl ⟨rfl, rfl⟩)
  have mid := r4 (kp_upd ow own.1 (nd_out (A := A2) (f := f2') (B := B2) ndg l2 m2)) inner
  rw [set_self r2, ← r8, ← r1] at mid
  have part : Rep g Z4 (upd H4 l2 (.lst (ws ++ [vu]))) (.lst true (ys.set k (.lst true (zs ++ [ud])))) (.ref l) (l :: gs) := .lst (show (if l = l2 then _ else H4 l) = _ by rw [if_neg np2]; exact hlu4) mid (.inl ⟨rfl, rfl⟩)
  have whole := q4 (kp_upd ow own.1 (nd_out (A := A) (f := f1) (B := B) nd1 l2 m2f)) part
  rw [set_self hl4, ← q8, ← q1] at whole
  exact own_write ss4 e1 e2 lm r6 (.lst (show (if pa = l2 then _ else H4 pa) = _ by rw [if_neg np]; exact hl6) whole (.inl ⟨rfl, rfl⟩)) nd0 (fun b hb => hb) o10
end
end DI
set_option maxHeartbeats 1000000
namespace DI
open PySem PySem.Spec PyProof.Rows L2
def itemsA : D → R (List D)
  | .tup xs => if cleanL xs = true then .ok xs else .bad
  | .lst _ xs => if cleanL xs = true then .ok xs else .bad
  | _ => .bad
def sUnpA (is : List Nat) (f : Sl → R D) : SF := fun σ => rS (f σ) σ fun d => rS (itemsA d) σ fun xs => rS (putAll σ is xs) σ .nx
section
variable {X : Cx} {g : Gv} {W : L2.WX} {e tg : Expr} {es : List Expr} {fe : Sl → R D} {b : Bool} {pos : Pos} {is : List Nat}
theorem pg_or {t u : TG} (h1 : PG X tg t) (h2 : PG X tg u) : PG X tg (fun v σ H Q => t v σ H Q ∨ u v σ H Q) := ⟨fun pins s σ H v w Q I r h => h.elim (h1.run pins s σ H v w Q I r) (h2.run pins s σ H v w Q I r)⟩
theorem itemsA_err {d : D} : ∀ c fs, itemsA d ≠ .err c fs := fun c fs h => by
  unfold itemsA at h
  split at h <;> (try split at h) <;> cases h
theorem t_unpA (he : PE X e (tI g W b fe)) (hg : PG X tg (tG g (.many is))) (hl : PG X tg (tGL g is)) (hs : swapsWithSole [tg] e pos.line X.env = pure false := by rfl) (hw : swappedStores [tg] e X.env = pure none := by rfl) (h1 : (assignEach [tg] X.env).map (·.2) = [assign tg X.env] := by rfl) (np : NpL g is := by first | exact Or.inl rfl | exact Or.inr (by decide)) :
    PS X (.Assign [tg] e pos) (tS g W (sUnpA is fe)) := (ps_asg he (pg_or hg hl) hs hw h1).imp fun E σ H q => by
  obtain ⟨H0, Z0, Z, fps, σl, ss, o⟩ := q
  refine ⟨H0, Z, fps, σl, ss.sr, (OutS.rS ss o).imp fun d o v H' Z' fp pp => ?_⟩
  have ss1 := ss.step pp.same pp.zx
  obtain ⟨xs, ei, o⟩ := (OutS.rS ss o).okOf itemsA_err
  obtain ⟨σl', e, oF⟩ := (OutS.rS ss o).okOf fun c fs => bindP_err (p := .many is) (d := .tup xs)
  cases d with
  | tup ys =>
    have ei : (if cleanL ys = true then R.ok ys else .bad) = .ok xs := ei
    by_cases hc : cleanL ys = true
    · rw [if_pos hc] at ei
      cases ei
      refine .inl ⟨H0, Z', fps, σl, .tup xs, σl', ss1.sr, pp.rep.to0 (by rw [clean]; exact hc), e, fun σ' fps' sr wa => ?_⟩
      exact oF σ' H' Z' fps' ⟨sr, ss1.z0, ss1.zn, ss1.gh.wa np wa⟩ (.of_zx pp.same pp.zx)
    · rw [if_neg hc] at ei; cases ei
  | lst ow ys =>
    have ei : (if cleanL ys = true then R.ok ys else .bad) = .ok xs := ei
    by_cases hc : cleanL ys = true
    · rw [if_pos hc] at ei
      cases ei
      obtain ⟨a, vs, fs, rfl, hq, rs, _⟩ := rep_lst' pp.rep
      refine .inr ⟨H0, Z', fps, σl, a, vs, xs, σl', rfl, hq, ss1.sr, rs.to0 hc, e, fun σ' fps' sr wa => ?_⟩
      exact oF σ' H' Z' fps' ⟨sr, ss1.z0, ss1.zn, ss1.gh.wa np wa⟩ (.of_zx pp.same pp.zx)
    · rw [if_neg hc] at ei; cases ei
  | _ => cases ei
end
end DI
set_option maxHeartbeats 1000000
namespace DI
open PySem PySem.Spec PyProof.Rows L2 PySem.MeetsSeq
theorem list_add_any (l : Addr) (items : Array Value) (n : Nat) (s1 : Array (Option Value)) (b : Addr) (items2 : Array Value) (n2 : Nat) (s2 : Array (Option Value)) (hc0 : items.size + items2.size ≤ sizeLine) :
    Meets (Builtin.«list.__add__» ⟨[.ref l, .ref b], []⟩) (fun _ R s => s.heap.get? l = some { cls := .type "list", dict := none, data := .seq items n, slots := s1 } ∧ s.heap.get? b = some { cls := .type "list", dict := none, data := .seq items2 n2, slots := s2 } ∧ R (.ok (.ret (Value.ref s.heap.objs.size))) { s with heap := s.heap.push { cls := Value.type "list", data := Data.seq (items ++ items2) }, toks := s.toks }) :=
  .of_wp fun prog w A R s h => by obtain ⟨hp, g, d, tk, os⟩ := s; obtain ⟨hl, hb, h⟩ := h; have f1 := AutoSeq1.idx_int; have f2 := AutoSeq1.sub_tuple_tuple; have f3 := AutoSeq1.sub_list_list; have f4 := AutoSeq1.sub_tuple_list; have f5 := AutoSeq1.sub_list_tuple; wp_walk using AutoSeq1.wpAny_loadPart' hl, AutoSeq1.wpAny_loadPart' hb; exact ⟨_, rfl, h⟩
theorem add_list_any {prog : Program} {w : World} {A : Around} {E : Value → Shared → Prop} {s : Shared} {Q : Value → Shared → Prop} {l b : Addr} {items items2 : Array Value} {n n2 : Nat} {s1 s2 : Array (Option Value)} (hl : s.heap.get? l = some { cls := .type "list", dict := none, data := .seq items n, slots := s1 }) (hb : s.heap.get? b = some { cls := .type "list", dict := none, data := .seq items2 n2, slots := s2 })
    (h : Q (.ref s.heap.objs.size) { s with heap := s.heap.push { cls := .type "list", data := .seq (items ++ items2) } }) (hsz : items.size + items2.size ≤ sizeLine) : wpAny (model prog w) A (binaryOp .Add (.ref l) (.ref b)) Q E s :=
  concat_meets ⟨_, hl, rfl⟩ ⟨_, hb, rfl⟩ noFill_list_add seq_list_add F.slot_list_add F.entry_list_add (F.args_list_add_2 _ _) (list_add_any l items n s1 b items2 n2 s2 hsz) ⟨hl, hb, h⟩
section
variable {X : Cx}
def rCatL (K : PySem.W.Frag) : R2 := fun x y H Q => ∃ l b xs zs, x = .ref l ∧ y = .ref b ∧ SqL K H l xs ∧ SqL K H b zs ∧ xs.length + zs.length ≤ sizeLine ∧ ∀ p, H p = none → Q (.ref p) (upd H p (.lst (xs ++ zs)))
theorem op_catL : OpR X (binaryOp .Add) (rCatL X.K) := by
  intro pins s σ H x y v u Q I rx ry h
  obtain ⟨l, b, xs, zs, rfl, rfl, hH, hB, hz, q⟩ := h
  cases rx
  cases ry
  obtain ⟨its, r, ⟨⟨c1, d1, t1, s1⟩, n, e, hc, hd, ht⟩, z⟩ := I.list hH
  obtain ⟨its2, r2, ⟨⟨c2, d2, t2, s2⟩, n2, e2, hc2, hd2, ht2⟩, z2⟩ := I.list hB
  simp only at hc hd ht hc2 hd2 ht2
  subst hc hd ht hc2 hd2 ht2
  have hl := r.length
  have hl2 := r2.length
  refine add_list_any e e2 ?_ (by rw [List.size_toArray, List.size_toArray]; omega)
  have ea : its.toArray ++ its2.toArray = (its ++ its2).toArray := by simp
  rw [ea]
  exact ⟨.ref _, _, I.lnew (t' := s.toks) (r.append r2) (by rw [List.length_append]; omega), rfl, q _ I.fresh⟩
end
def catD : D → D → R D
  | .lst _ xs, .lst _ ys => if (cleanL xs && cleanL ys) = true ∧ xs.length + ys.length ≤ sizeLine then .ok (.lst true (xs ++ ys)) else .bad
  | _, _ => .bad
section
variable {X : Cx} {g : Gv} {W : L2.WX}
theorem opd_catL : OpD g W true (rCatL g.K) catD := by
  intro Z σ H x y v u fx fy Q hz rx ry o
  cases x with
  | lst o1 xs =>
    cases y with
    | lst o2 ys =>
      obtain ⟨⟨hc, hn⟩, o⟩ := Out.guard o
      rw [Bool.and_eq_true] at hc
      obtain ⟨l, vs, fs, rfl, hq, rs, _⟩ := rep_lst' rx
      obtain ⟨b, us, gs, rfl, hq2, rs2, _⟩ := rep_lst' ry
      have r1 := rs.to0 hc.1
      have r2 := rs2.to0 hc.2
      refine ⟨l, b, vs, us, rfl, rfl, hq, hq2, by rw [← r1.length, ← r2.length]; exact hn, fun p hp => ?_⟩
      exact o _ _ Z [p] (post_new hz hp (.lst upd_same ((r1.append r2).same (fun _ z => z) (same_upd hp)) own_new) (.inr rfl))
    | _ => exact o.elim
  | _ => exact o.elim
def eCat (f k : Sl → R D) : Sl → R D := fun σ => (f σ).bind fun x => (k σ).bind fun y => catD x y
theorem z_cat {a b : Expr} {f k : Sl → R D} {x y : Bool} {pos : Pos} (G : Gof g X) (h : PE X a (tI g W x f)) (h' : PE X b (tI g W y k)) : PE X (.BinOp a .Add b pos) (tI g W true (eCat f k)) := se_bin op_catL (by rw [G.K]; exact opd_catL) h h'
end
end DI
namespace DI
open PySem
@[simp] theorem u_eV (i : Nat) (σ : Sl) : eV i σ = getS σ i := rfl
@[simp] theorem u_eK (d : D) (σ : Sl) : eK d σ = .ok d := rfl
@[simp] theorem u_eO (f : Sl → R D) (σ : Sl) : eO f σ = (f σ).bind fun d => if clean d = true then .ok d else .bad := rfl
@[simp] theorem u_eNeg (f : Sl → R D) (σ : Sl) : eNeg f σ = (f σ).bind fun x => (intOf x).bind fun i => .ok (.int (-i)) := rfl
@[simp] theorem u_eNot (f : Sl → R D) (σ : Sl) : eNot f σ = (f σ).bind fun x => (boolOf x).bind fun i => .ok (.bl (!i)) := rfl
@[simp] theorem u_eB (o : Bop) (f k : Sl → R D) (σ : Sl) : eB o f k σ = (f σ).bind fun x => (k σ).bind fun y => binD o x y := rfl
@[simp] theorem u_eC (o : Cop) (f k : Sl → R D) (σ : Sl) : eC o f k σ = (f σ).bind fun x => (k σ).bind fun y => blR (cmpD o x y) := rfl
@[simp] theorem u_eCC (o o' : Cop) (f k l : Sl → R D) (σ : Sl) : eCC o o' f k l σ = (f σ).bind fun x => (k σ).bind fun y => (cmpD o x y).bind fun r => if r = true then (l σ).bind fun z => (cmpD o' y z).bind fun r => .ok (.bl r) else .ok (.bl false) := rfl
@[simp] theorem u_eAnd (f k : Sl → R D) (σ : Sl) : eAnd f k σ = (f σ).bind fun x => (boolOf x).bind fun r => if r = true then (k σ).bind fun y => (boolOf y).bind fun r => .ok (.bl r) else .ok (.bl false) := rfl
@[simp] theorem u_eOr (f k : Sl → R D) (σ : Sl) : eOr f k σ = (f σ).bind fun x => (boolOf x).bind fun r => if r = true then .ok (.bl true) else (k σ).bind fun y => (boolOf y).bind fun r => .ok (.bl r) := rfl
@[simp] theorem u_eIf (c f k : Sl → R D) (σ : Sl) : eIf c f k σ = (c σ).bind fun x => (boolOf x).bind fun r => if r = true then f σ else k σ := rfl
@[simp] theorem u_eIx (f k : Sl → R D) (σ : Sl) : eIx f k σ = (f σ).bind fun x => (k σ).bind fun y => idxD x y := rfl
@[simp] theorem u_aN (σ : Sl) : aN σ = .ok (.tup []) := rfl
@[simp] theorem u_aC (f k : Sl → R D) (σ : Sl) : aC f k σ = (f σ).bind fun x => (k σ).bind fun r => (tupOf r).bind fun xs => .ok (.tup (x :: xs)) := rfl
@[simp] theorem u_eTup (f : Sl → R D) (σ : Sl) : eTup f σ = (f σ).bind fun r => (tupOf r).bind fun xs => if xs.length ≤ sizeLine then .ok (.tup xs) else .bad := rfl
@[simp] theorem u_eLst (f : Sl → R D) (σ : Sl) : eLst f σ = (f σ).bind fun r => (tupOf r).bind fun xs => if xs.length ≤ sizeLine then .ok (.lst true xs) else .bad := rfl
@[simp] theorem u_eD0 (σ : Sl) : eD0 σ = .ok (.dct true []) := rfl
@[simp] theorem u_eD1 (f k : Sl → R D) (σ : Sl) : eD1 f k σ = (f σ).bind fun x => (k σ).bind fun y => dispD x y := rfl
@[simp] theorem u_eSl (f : Sl → R D) (nb : Bool) (k : Sl → R D) (nc : Bool) (l : Sl → R D) (σ : Sl) : eSl f nb k nc l σ = (f σ).bind fun x => (k σ).bind fun l' => (partD (if nb = true then none else some l')).bind fun l' => (l σ).bind fun h => (partD (if nc = true then none else some h)).bind fun h => slD x l' h := rfl
@[simp] theorem u_eBi (b : Bi) (f : Sl → R D) (σ : Sl) : eBi b f σ = (f σ).bind fun r => (tupOf r).bind fun ds => biD b ds := rfl
@[simp] theorem u_eF (h : List D → R D) (f : Sl → R D) (σ : Sl) : eF h f σ = (f σ).bind fun r => (tupOf r).bind fun ds => (h (frzL ds)).bind fun d => if (cleanL ds || noFrz d) = true then .ok d else .bad := rfl
@[simp] theorem u_eMt (m : Mt) (f k : Sl → R D) (σ : Sl) : eMt m f k σ = (f σ).bind fun x => if recvOk m x = true then (k σ).bind fun r => (tupOf r).bind fun ds => mtD m x ds else .bad := rfl
@[simp] theorem u_eIsi (t : Ty) (f : Sl → R D) (σ : Sl) : eIsi t f σ = (f σ).bind fun d => blR (isTy t d) := rfl
@[simp] theorem u_eT (σ : Sl) : eT σ = .ok (.bl true) := rfl
@[simp] theorem u_iSeqq (f : Sl → R D) (σ : Sl) : iSeq' f σ = (f σ).bind itemsD := rfl
@[simp] theorem u_iEn (f : Sl → R D) (σ : Sl) : iEn f σ = (f σ).bind fun r => (tupOf r).bind enumD := rfl
@[simp] theorem u_iR1 (f : Sl → R D) (σ : Sl) : iR1 f σ = (f σ).bind fun r => (tupOf r).bind rng1D := rfl
@[simp] theorem u_iR2 (f : Sl → R D) (σ : Sl) : iR2 f σ = (f σ).bind fun r => (tupOf r).bind rng2D := rfl
@[simp] theorem u_iZ (f : Sl → R D) (σ : Sl) : iZ f σ = (f σ).bind fun r => (tupOf r).bind zipD := rfl
@[simp] theorem u_sSkip (σ : Sl) : sSkip σ = .nx σ := rfl
@[simp] theorem u_sSeq (f k : SF) (σ : Sl) : sSeq f k σ = (f σ).andThen k := rfl
@[simp] theorem u_sSet (i : Nat) (f : Sl → R D) (σ : Sl) : sSet i f σ = rS (f σ) σ fun d => .nx (σ.set i (some d)) := rfl
@[simp] theorem u_sIf (c : Sl → R D) (f k : SF) (σ : Sl) : sIf c f k σ = rS (c σ) σ fun d => cond d (f σ) (k σ) := rfl
@[simp] theorem u_sRet (f : Sl → R D) (σ : Sl) : sRet f σ = rS (f σ) σ .rt := rfl
@[simp] theorem u_sRetV (i : Nat) (σ : Sl) : sRetV i σ = rS (getS σ i) σ .rt := rfl
@[simp] theorem u_sRetN (σ : Sl) : sRetN σ = .rt .non := rfl
@[simp] theorem u_sBrk (σ : Sl) : sBrk σ = .bk σ := rfl
@[simp] theorem u_sCnt (σ : Sl) : sCnt σ = .ct σ := rfl
@[simp] theorem u_sFz (i : Nat) (k : SF) (σ : Sl) : sFz i k σ = rS (getS σ i) σ fun d => k (σ.set i (some (frz d))) := rfl
@[simp] theorem u_sDrop (f : Sl → R D) (σ : Sl) : sDrop f σ = rS (f σ) σ fun _ => .nx σ := rfl
@[simp] theorem u_sUnp (p : Pat) (f : Sl → R D) (σ : Sl) : sUnp p f σ = rS (f σ) σ fun d => if clean d = true then rS (bindP σ p d) σ .nx else .bad := rfl
@[simp] theorem u_sApp (i : Nat) (f : Sl → R D) (σ : Sl) : sApp i f σ = rS ((getS σ i).bind lstOf) σ fun xs => rS (f σ) σ fun y => if xs.length < sizeLine then .nx (σ.set i (some (.lst true (xs ++ [y])))) else .bad := rfl
@[simp] theorem u_sPutK (i : Nat) (fk fe : Sl → R D) (σ : Sl) : sPutK i fk fe σ = rS (fe σ) σ fun y => rS ((getS σ i).bind dctOf) σ fun kvs => rS (fk σ) σ fun x => rS (keyIn x kvs) σ fun k => if clean y = true ∧ kvs.length < sizeLine then .nx (σ.set i (some (.dct true (dput kvs k y)))) else .bad := rfl
@[simp] theorem u_blR (r : R Bool) : blR r = r.bind fun b => .ok (.bl b) := rfl
@[simp] theorem u_startL (n : Nat) (ds : List D) : startL n ds = ds.map some ++ List.replicate (n - ds.length) none := rfl
@[simp] theorem ofR_some {α : Type} (a : α) : ofR (some a) = .ok a := rfl
@[simp] theorem ofR_none {α : Type} : ofR (none : Option α) = .bad := rfl
@[simp] theorem clean_non : clean .non = true := rfl
@[simp] theorem clean_bl (b : Bool) : clean (.bl b) = true := rfl
@[simp] theorem clean_int (b : Int) : clean (.int b) = true := rfl
@[simp] theorem clean_str (b : Str) : clean (.str b) = true := rfl
@[simp] theorem clean_tup (xs : List D) : clean (.tup xs) = cleanL xs := by rw [clean]
@[simp] theorem clean_lst (o : Bool) (xs : List D) : clean (.lst o xs) = (!o && cleanL xs) := by rw [clean]
@[simp] theorem clean_dct (o : Bool) (kvs : List (NestedKey × D)) : clean (.dct o kvs) = !o := by rw [clean]
@[simp] theorem cleanL_nil : cleanL [] = true := rfl
@[simp] theorem cleanL_cons (x : D) (xs : List D) : cleanL (x :: xs) = (clean x && cleanL xs) := by rw [cleanL]
@[simp] theorem frz_non : frz .non = .non := rfl
@[simp] theorem frz_bl (b : Bool) : frz (.bl b) = .bl b := rfl
@[simp] theorem frz_int (b : Int) : frz (.int b) = .int b := rfl
@[simp] theorem frz_str (b : Str) : frz (.str b) = .str b := rfl
@[simp] theorem frz_tup (xs : List D) : frz (.tup xs) = .tup (frzL xs) := by rw [frz]
@[simp] theorem frz_lst (o : Bool) (xs : List D) : frz (.lst o xs) = .lst false (frzL xs) := by rw [frz]
@[simp] theorem frz_dct (o : Bool) (kvs : List (NestedKey × D)) : frz (.dct o kvs) = .dct false kvs := by rw [frz]
@[simp] theorem frzL_nil : frzL [] = [] := rfl
@[simp] theorem frzL_cons (x : D) (xs : List D) : frzL (x :: xs) = frz x :: frzL xs := by rw [frzL]
@[simp] theorem noFrz_non : noFrz .non = true := rfl
@[simp] theorem noFrz_bl (b : Bool) : noFrz (.bl b) = true := rfl
@[simp] theorem noFrz_int (b : Int) : noFrz (.int b) = true := rfl
@[simp] theorem noFrz_str (b : Str) : noFrz (.str b) = true := rfl
@[simp] theorem noFrz_tup (xs : List D) : noFrz (.tup xs) = noFrzL xs := by rw [noFrz]
@[simp] theorem noFrz_lst (o : Bool) (xs : List D) : noFrz (.lst o xs) = (o && noFrzL xs) := by rw [noFrz]
@[simp] theorem noFrz_dct (o : Bool) (xs : List (NestedKey × D)) : noFrz (.dct o xs) = (o && noFrzK xs) := by rw [noFrz]
@[simp] theorem noFrzL_nil : noFrzL [] = true := rfl
@[simp] theorem noFrzL_cons (x : D) (xs : List D) : noFrzL (x :: xs) = (noFrz x && noFrzL xs) := by rw [noFrzL]
@[simp] theorem key_int (i : Int) : key (.int i) = some (.num i) := rfl
@[simp] theorem key_str (i : Str) : key (.str i) = some (.text i) := rfl
@[simp] theorem key_tup (xs : List D) : key (.tup xs) = (keyL xs).map .tup := by rw [key]
@[simp] theorem keyL_nil : keyL [] = some [] := rfl
@[simp] theorem keyL_cons (x : D) (xs : List D) : keyL (x :: xs) = (key x).bind fun d => (keyL xs).map fun ds => d :: ds := by rw [keyL]
@[simp] theorem rS_ok {α : Type} (a : α) (σ : Sl) (k : α → RS) : rS (.ok a) σ k = k a := rfl
@[simp] theorem rS_err {α : Type} (c : Nat) (fs : List D) (σ : Sl) (k : α → RS) : rS (.err c fs : R α) σ k = .er c fs σ := rfl
@[simp] theorem cond_bl (b : Bool) (r s : RS) : cond (.bl b) r s = if b = true then r else s := rfl
@[simp] theorem then_nx (σ : Sl) (k : SF) : (RS.nx σ).andThen k = k σ := rfl
@[simp] theorem then_rt (d : D) (k : SF) : (RS.rt d).andThen k = .rt d := rfl
@[simp] theorem then_bk (d : Sl) (k : SF) : (RS.bk d).andThen k = .bk d := rfl
@[simp] theorem then_ct (d : Sl) (k : SF) : (RS.ct d).andThen k = .ct d := rfl
@[simp] theorem then_er (c : Nat) (fs : List D) (d : Sl) (k : SF) : (RS.er c fs d).andThen k = .er c fs d := rfl
@[simp] theorem resR_rt (d : D) : resR (.rt d) = .ok d := rfl
@[simp] theorem resR_nx (d : Sl) : resR (.nx d) = .ok .non := rfl
@[simp] theorem resR_er (c : Nat) (fs : List D) (d : Sl) : resR (.er c fs d) = .err c fs := rfl
@[simp] theorem getS_0 (a : Option D) (s : Sl) : getS (a :: s) 0 = (match a with | some d => .ok d | none => .bad) := by cases a <;> rfl
@[simp] theorem getS_s (a : Option D) (s : Sl) (i : Nat) : getS (a :: s) (i + 1) = getS s i := by
  unfold getS; rw [List.getElem?_cons_succ]
@[simp] theorem boolOf_bl (b : Bool) : boolOf (.bl b) = .ok b := rfl
@[simp] theorem intOf_int (b : Int) : intOf (.int b) = .ok b := rfl
@[simp] theorem tupOf_tup (b : List D) : tupOf (.tup b) = .ok b := rfl
@[simp] theorem lstOf_lst (b : List D) : lstOf (.lst true b) = .ok b := rfl
@[simp] theorem dctOf_dct (b : List (NestedKey × D)) : dctOf (.dct true b) = .ok b := rfl
@[simp] theorem partD_none : partD none = .ok none := rfl
@[simp] theorem partD_int (i : Int) : partD (some (.int i)) = .ok (some i) := rfl
@[simp] theorem idxD_lst (o : Bool) (xs : List D) (i : Int) : idxD (.lst o xs) (.int i) = ofR (L2.atI xs i) := rfl
@[simp] theorem idxD_tup (xs : List D) (i : Int) : idxD (.tup xs) (.int i) = ofR (L2.atI xs i) := rfl
@[simp] theorem idxD_dct (o : Bool) (kvs : List (NestedKey × D)) (k : D) : idxD (.dct o kvs) k = (keyIn k kvs).bind fun k => ofR (dget kvs k) := rfl
@[simp] theorem itemsD_lst (o : Bool) (xs : List D) : itemsD (.lst o xs) = if cleanL xs = true then .ok xs else .bad := rfl
@[simp] theorem itemsD_tup (xs : List D) : itemsD (.tup xs) = if cleanL xs = true then .ok xs else .bad := rfl
@[simp] theorem itemsD_str (z : Str) : itemsD (.str z) = .ok (z.cps.toList.map oneOf) := rfl
@[simp] theorem enumD_one (x : D) : enumD [x] = (itemsD x).bind fun xs => .ok (enumL 0 xs) := rfl
@[simp] theorem rng1D_one (i : Int) : rng1D [.int i] = if small62 i = true then .ok (rngL 0 i.toNat) else .bad := rfl
@[simp] theorem rng2D_two (i j : Int) : rng2D [.int i, .int j] = if (small62 i && small62 j) = true then .ok (rngL i (j - i).toNat) else .bad := rfl
@[simp] theorem bindP_one (σ : Sl) (i : Nat) (d : D) : bindP σ (.one i) d = .ok (σ.set i (some d)) := rfl
@[simp] theorem bindP_many (σ : Sl) (is : List Nat) (xs : List D) : bindP σ (.many is) (.tup xs) = putAll σ is xs := rfl
@[simp] theorem bindP_two (σ : Sl) (i : Nat) (js : List Nat) (x : D) (ys : List D) : bindP σ (.two i js) (.tup [x, .tup ys]) = putAll (σ.set i (some x)) js ys := rfl
@[simp] theorem putAll_nil (σ : Sl) : putAll σ [] [] = .ok σ := rfl
@[simp] theorem putAll_cons (σ : Sl) (i : Nat) (is : List Nat) (x : D) (xs : List D) : putAll σ (i :: is) (x :: xs) = putAll (σ.set i (some x)) is xs := rfl
@[simp] theorem cmpD_lt (i j : Int) : cmpD .lt (.int i) (.int j) = .ok (decide (i < j)) := rfl
@[simp] theorem cmpD_le (i j : Int) : cmpD .le (.int i) (.int j) = .ok (decide (i ≤ j)) := rfl
@[simp] theorem cmpD_gt (i j : Int) : cmpD .gt (.int i) (.int j) = .ok (decide (j < i)) := rfl
@[simp] theorem cmpD_ge (i j : Int) : cmpD .ge (.int i) (.int j) = .ok (decide (j ≤ i)) := rfl
@[simp] theorem cmpD_eq (x y : D) : cmpD .eq x y = eqD x y := rfl
@[simp] theorem cmpD_ne (x y : D) : cmpD .ne x y = (eqD x y).bind fun b => .ok (!b) := rfl
@[simp] theorem cmpD_mem (x y : D) : cmpD .mem x y = memD x y := rfl
@[simp] theorem cmpD_nmem (x y : D) : cmpD .nmem x y = (memD x y).bind fun b => .ok (!b) := rfl
@[simp] theorem cmpD_isN (x : D) : cmpD .isN x .non = .ok (isNon x) := rfl
@[simp] theorem cmpD_notN (x : D) : cmpD .notN x .non = .ok (!isNon x) := rfl
@[simp] theorem isNon_non : isNon .non = true := rfl
@[simp] theorem isNon_int (i : Int) : isNon (.int i) = false := rfl
@[simp] theorem isNon_str (i : Str) : isNon (.str i) = false := rfl
@[simp] theorem isNon_tup (i : List D) : isNon (.tup i) = false := rfl
@[simp] theorem isNon_bl (i : Bool) : isNon (.bl i) = false := rfl
@[simp] theorem isNon_lst (o : Bool) (i : List D) : isNon (.lst o i) = false := rfl
@[simp] theorem memD_dct (x : D) (o : Bool) (kvs : List (NestedKey × D)) : memD x (.dct o kvs) = (keyIn x kvs).bind fun k => .ok (dget kvs k).isSome := rfl
@[simp] theorem memD_lst (x : D) (o : Bool) (ys : List D) : memD x (.lst o ys) = memS x ys := rfl
@[simp] theorem memD_tup (x : D) (ys : List D) : memD x (.tup ys) = memS x ys := rfl
theorem eqD_of {x y : D} {d e : PyData} (h1 : py x = some d) (h2 : py y = some e) (s1 : SeqAt.shaped d = true) (s2 : SeqAt.shaped e = true) : eqD x y = .ok (PyData.eqv d e) := by
  unfold eqD
  rw [h1, h2]
  simp [s1, s2]
@[simp] theorem eqD_int (i j : Int) : eqD (.int i) (.int j) = .ok (decide (i = j)) := by
  rw [eqD_of (d := .int i) (e := .int j) rfl rfl rfl rfl]
  rfl
@[simp] theorem biD_lenL (o : Bool) (xs : List D) : biD .len [.lst o xs] = .ok (.int xs.length) := rfl
@[simp] theorem biD_lenT (xs : List D) : biD .len [.tup xs] = .ok (.int xs.length) := rfl
@[simp] theorem biD_lenS (z : Str) : biD .len [.str z] = if z.length ≤ sizeLine then .ok (.int z.length) else .bad := rfl
@[simp] theorem biD_lenD (o : Bool) (kvs : List (NestedKey × D)) : biD .len [.dct o kvs] = .ok (.int kvs.length) := rfl
@[simp] theorem biD_tupleL (o : Bool) (xs : List D) : biD .tuple [.lst o xs] = if cleanL xs = true then .ok (.tup xs) else .bad := rfl
@[simp] theorem biD_tupleT (xs : List D) : biD .tuple [.tup xs] = if cleanL xs = true then .ok (.tup xs) else .bad := rfl
@[simp] theorem biD_listL (o : Bool) (xs : List D) : biD .list [.lst o xs] = if cleanL xs = true then .ok (.lst true xs) else .bad := rfl
@[simp] theorem biD_listT (xs : List D) : biD .list [.tup xs] = if cleanL xs = true then .ok (.lst true xs) else .bad := rfl
@[simp] theorem biD_intI (i : Int) : biD .int [.int i] = .ok (.int i) := rfl
@[simp] theorem biD_intB (b : Bool) : biD .int [.bl b] = .ok (.int (if b = true then 1 else 0)) := rfl
@[simp] theorem biD_min (i j : Int) : biD .min [.int i, .int j] = .ok (.int (if j < i then j else i)) := rfl
@[simp] theorem biD_max (i j : Int) : biD .max [.int i, .int j] = .ok (.int (if j > i then j else i)) := rfl
@[simp] theorem biD_abs (i : Int) : biD .abs [.int i] = .ok (.int (if i < 0 then -i else i)) := rfl
@[simp] theorem isTy_str (z : Str) : isTy .str (.str z) = .ok true := rfl
@[simp] theorem isTy_strN : isTy .str .non = .ok false := rfl
@[simp] theorem isTy_strI (i : Int) : isTy .str (.int i) = .ok false := rfl
@[simp] theorem isTy_intI (i : Int) : isTy .int (.int i) = .ok true := rfl
@[simp] theorem isTy_boolI (i : Int) : isTy .bool (.int i) = .ok false := rfl
@[simp] theorem isTy_boolB (i : Bool) : isTy .bool (.bl i) = .ok true := rfl
@[simp] theorem isTy_tupT (i : List D) : isTy .tuple (.tup i) = .ok true := rfl
@[simp] theorem isTy_lstL (o : Bool) (i : List D) : isTy .list (.lst o i) = .ok true := rfl
@[simp] theorem recv_join (z : Str) : recvOk .join (.str z) = true := rfl
@[simp] theorem recv_find (z : Str) : recvOk .find (.str z) = true := rfl
@[simp] theorem recv_split (z : Str) : recvOk .split (.str z) = true := rfl
@[simp] theorem recv_sindex (z : Str) : recvOk .strIndex (.str z) = true := rfl
@[simp] theorem recv_lindex (o : Bool) (z : List D) : recvOk .lstIndex (.lst o z) = true := rfl
@[simp] theorem recv_get1 (o : Bool) (z : List (NestedKey × D)) : recvOk .get1 (.dct o z) = true := rfl
@[simp] theorem mtD_get1 (o : Bool) (z : List (NestedKey × D)) (k : D) : mtD .get1 (.dct o z) [k] = (keyIn k z).bind fun k => .ok ((dget z k).getD .non) := rfl
@[simp] theorem binD_add (i j : Int) : binD .add (.int i) (.int j) = .ok (.int (i + j)) := rfl
@[simp] theorem binD_sub (i j : Int) : binD .sub (.int i) (.int j) = .ok (.int (i - j)) := rfl
theorem small64_of {i : Int} (h1 : -18446744073709551616 < i) (h2 : i < 18446744073709551616) : small64 i = true := by
  unfold small64
  simp only [Bool.and_eq_true, decide_eq_true_eq, lim64_eq]
  exact ⟨by omega, by omega⟩
@[simp] theorem binD_mulR (i j : Int) (h1 : -18446744073709551616 < j) (h2 : j < 18446744073709551616) : binD .mul (.int i) (.int j) = .ok (.int (i * j)) := by
  show (if (small64 i || small64 j) = true then R.ok (D.int (i * j)) else .bad) = _
  rw [small64_of h1 h2, Bool.or_true, if_pos rfl]
@[simp] theorem binD_mulL (i j : Int) (h1 : -18446744073709551616 < i) (h2 : i < 18446744073709551616) : binD .mul (.int i) (.int j) = .ok (.int (i * j)) := by
  show (if (small64 i || small64 j) = true then R.ok (D.int (i * j)) else .bad) = _
  rw [small64_of h1 h2, Bool.true_or, if_pos rfl]
theorem log2_small {j : Int} (h : 0 < j) (h2 : j < 18446744073709551616) : j.natAbs.log2 < 9000 := by
  have h3 : j.natAbs < 2 ^ 64 := by omega
  have h4 : j.natAbs ≠ 0 := by omega
  have := (Nat.log2_lt h4).mpr h3
  omega
@[simp] theorem binD_fdiv (i j : Int) (h1 : 0 < j) (h2 : j < 18446744073709551616) : binD .fdiv (.int i) (.int j) = .ok (.int (i / j)) := by
  show (if 0 < j ∧ j.natAbs.log2 < 9000 then R.ok (D.int (i / j)) else .bad) = _
  rw [if_pos ⟨h1, log2_small h1 h2⟩]
@[simp] theorem binD_mod (i j : Int) (h1 : 0 < j) : binD .mod (.int i) (.int j) = .ok (.int (i % j)) := by
  show (if 0 < j then R.ok (D.int (i % j)) else .bad) = _
  rw [if_pos h1]
theorem fr_inv {p : Pat} {f : SF} (Inv : Nat → Sl → Prop) : ∀ (xs : List D) (k : Nat) (σ : Sl), Inv k σ →
    (∀ i x σ, xs[i]? = some x → Inv (k + i) σ → ∃ σ1 σ', bindP σ p x = .ok σ1 ∧ (f σ1 = .nx σ' ∨ f σ1 = .ct σ') ∧ Inv (k + i + 1) σ') → ∃ σ', fr p f xs σ = .nx σ' ∧ Inv (k + xs.length) σ'
  | [], k, σ, h0, _ => ⟨σ, rfl, h0⟩
  | x :: xs, k, σ, h0, h => by
    obtain ⟨σ1, σ', e1, e2, i1⟩ := h 0 x σ rfl h0
    obtain ⟨σ2, e3, i2⟩ := fr_inv Inv xs (k + 1) σ' i1 fun i y σ hy hi => by
      have := h (i + 1) y σ (by simpa using hy) (by rw [show k + (i + 1) = k + 1 + i by omega]; exact hi)
      rw [show k + (i + 1) + 1 = k + 1 + i + 1 by omega] at this
      exact this
    refine ⟨σ2, ?_, by rw [List.length_cons, show k + (xs.length + 1) = k + 1 + xs.length by omega]; exact i2⟩
    rw [fr, e1]
    rcases e2 with e2 | e2
    · simp only [rS, e2]; exact e3
    · simp only [rS, e2]; exact e3
def M1 : Int := 2147483647
def M2 : Int := 2147483659
def scr (ns : List Int) : D := .lst false (ns.map D.int)
end DI
namespace DI
open PySem
theorem atI_ok {α : Type} {xs : List α} {i : Int} (h0 : 0 ≤ i) (h1 : i < xs.length) : ∃ x, L2.atI xs i = some x ∧ x ∈ xs ∧ xs[i.toNat]? = some x := by
  have hl : i.toNat < xs.length := by omega
  refine ⟨xs[i.toNat], ?_, List.getElem_mem _, List.getElem?_eq_getElem hl⟩
  have e : ((i.toNat : Nat) : Int) = i := by omega
  have := L2.atI_nat (List.getElem?_eq_getElem hl)
  rw [e] at this
  exact this
@[simp] theorem cleanL_ints (r : List Int) : cleanL (r.map D.int) = true := by induction r with
  | nil => rfl
  | cons x r ih => simpa [cleanL, clean] using ih
def rowD (r : List Int) : D := .tup (r.map D.int)
@[simp] theorem cleanL_rows (r : List (List Int)) : cleanL (r.map rowD) = true := by induction r with
  | nil => rfl
  | cons x r ih => simp [cleanL, rowD, clean] at ih ⊢; exact ih
@[simp] theorem cleanL_app {xs ys : List D} (a : cleanL xs = true) (b : cleanL ys = true) : cleanL (xs ++ ys) = true := cleanL_append a b
theorem small62_of {i : Int} (h1 : 0 ≤ i) (h2 : i < 1000000) : small62 i = true := by
  unfold small62
  simp only [Bool.and_eq_true, decide_eq_true_eq, lim62_eq]
  exact ⟨by omega, by omega⟩
theorem sizeLine_big : 1000000 ≤ sizeLine := by decide
end DI
namespace DI
open PySem
@[simp] theorem frz_scr (ns : List Int) : frz (scr ns) = scr ns := frz_clean _ (by simp [scr, clean])
@[simp] theorem clean_scr (ns : List Int) : clean (scr ns) = true := by simp [scr, clean]
@[simp] theorem idxD_scr (ns : List Int) (i : Int) : idxD (scr ns) (.int i) = ofR ((L2.atI ns i).map D.int) := by unfold scr; rw [idxD_lst, atI_map]
@[simp] theorem biD_scr (ns : List Int) : biD .len [scr ns] = .ok (.int ns.length) := by unfold scr; rw [biD_lenL, List.length_map]
end DI
namespace DI
end DI
namespace DI
@[simp] theorem le_line {n : Nat} (h : n ≤ 1000000) : n ≤ PySem.sizeLine := Nat.le_trans h sizeLine_big
@[simp] theorem lt_line {n : Nat} (h : n < 1000000) : n < PySem.sizeLine := Nat.lt_of_lt_of_le h sizeLine_big
end DI
namespace DI
open PySem
@[simp] theorem noErr_a {α : Type} (a : α) : noErr (.ok a) = .ok a := rfl
@[simp] theorem wipeL_nil (σ : Sl) : wipeL σ [] = σ := rfl
@[simp] theorem wipeL_cons (σ : Sl) (v : Nat) (vs : List Nat) : wipeL σ (v :: vs) = (wipeL σ vs).set v none := rfl
end DI
namespace DI
end DI
namespace DI
open PySem
abbrev St := List Char
def sD (s : St) : Str := ⟨(s.map Char.toNat).toArray⟩
def eSt (s : St) : D := .str (sD s)
def eNon (_ : Unit) : D := .non
def eOp {α : Type} (e : α → D) : Option α → D
  | none => .non
  | some a => e a
abbrev Turn := Int ⊕ St
instance decTurn : DecidableEq Turn := inferInstance
instance decRow : DecidableEq (Turn × List (Int × Int) × Turn) := inferInstance
def eTu : Turn → D
  | .inl i => .int i
  | .inr s => eSt s
def eT2 {α β : Type} (e : α → D) (f : β → D) (p : α × β) : D := .tup [e p.1, f p.2]
def eT3 {α β γ : Type} (e : α → D) (f : β → D) (g : γ → D) (p : α × β × γ) : D := .tup [e p.1, f p.2.1, g p.2.2]
def eSq {α : Type} (e : α → D) (xs : List α) : D := .tup (xs.map e)
def eLs {α : Type} (o : Bool) (e : α → D) (xs : List α) : D := .lst o (xs.map e)
section
variable {α β γ δ ε α' β' : Type}
def Cl (e : α → D) : Prop := ∀ a, clean (e a) = true
def Nf (e : α → D) : Prop := ∀ a, noFrz (e a) = true
def Fz (e e' : α → D) : Prop := ∀ a, frz (e a) = e' a
theorem Cl.fz {e : α → D} (h : Cl e) : Fz e e := fun a => frz_clean _ (h a)
theorem cl_int : Cl D.int := fun _ => rfl
theorem cl_bl : Cl D.bl := fun _ => rfl
theorem cl_st : Cl eSt := fun _ => rfl
theorem cl_tu : Cl eTu := fun a => by cases a <;> rfl
theorem cl_map {e : α → D} (h : Cl e) (xs : List α) : cleanL (xs.map e) = true := by
  rw [cleanL_all, List.all_map]
  exact List.all_eq_true.mpr fun a _ => h a
theorem cl_t2 {e : α → D} {f : β → D} (h : Cl e) (h2 : Cl f) : Cl (eT2 e f) := fun a => by simp [eT2, h _, h2 _]
theorem cl_t3 {e : α → D} {f : β → D} {g : γ → D} (h : Cl e) (h2 : Cl f) (h3 : Cl g) : Cl (eT3 e f g) := fun a => by simp [eT3, h _, h2 _, h3 _]
theorem cl_sq {e : α → D} (h : Cl e) : Cl (eSq e) := fun a => by simp [eSq, cl_map h]
theorem cl_ls {e : α → D} (h : Cl e) : Cl (eLs false e) := fun a => by simp [eLs, cl_map h]
theorem nf_int : Nf D.int := fun _ => rfl
theorem nf_st : Nf eSt := fun _ => rfl
theorem nf_tu : Nf eTu := fun a => by cases a <;> rfl
structure PyE (e : α → D) (p : α → PyData) (n : Nat) : Prop where
  py : ∀ a, py (e a) = some (p a)
  lay : ∀ a, (p a).canLay0 = true
  dep : ∀ a, (p a).depth ≤ n
  nn : ∀ a, p a = .none → e a = .non
def PyQ [DecidableEq α] (p : α → PyData) : Prop := ∀ a b, PyData.eqv (p a) (p b) = decide (a = b)
def pInt : Int → PyData := .int
def pSt (s : St) : PyData := .str (sD s)
def pTu : Turn → PyData
  | .inl i => .int i
  | .inr s => pSt s
def pT2 (p : α → PyData) (q : β → PyData) (x : α × β) : PyData := .tuple [p x.1, q x.2]
def pT3 (p : α → PyData) (q : β → PyData) (r : γ → PyData) (x : α × β × γ) : PyData := .tuple [p x.1, q x.2.1, r x.2.2]
def pSq (p : α → PyData) (xs : List α) : PyData := .tuple (xs.map p)
def pLs (p : α → PyData) (xs : List α) : PyData := .list (xs.map p)
theorem toNat_inj {a b : Char} (h : a.toNat = b.toNat) : a = b := by
  apply Char.ext
  exact UInt32.toNat_inj.mp h
theorem map_toNat_inj : ∀ {a b : St}, a.map Char.toNat = b.map Char.toNat → a = b
  | [], [], _ => rfl
  | x :: a, y :: b, h => by
    simp only [List.map_cons, List.cons.injEq] at h
    rw [toNat_inj h.1, map_toNat_inj h.2]
theorem sD_inj {a b : St} (h : sD a = sD b) : a = b := by
  unfold sD at h
  simp only [Str.mk.injEq] at h
  exact map_toNat_inj (by simpa using congrArg Array.toList h)
theorem sD_len (s : St) : (sD s).length = s.length := by simp [sD, Str.length]
theorem strOk_sD (s : St) : PyData.strOk (sD s) = true := by
  unfold PyData.strOk sD
  simp
  intro c _
  have h : c.val.toNat.isValidChar := c.valid
  show c.val.toNat < 1114112
  unfold Nat.isValidChar at h
  omega
theorem pyL_map {e : α → D} {p : α → PyData} (h : ∀ a, py (e a) = some (p a)) : ∀ xs : List α, pyL (xs.map e) = some (xs.map p)
  | [] => by rw [List.map_nil, List.map_nil, pyL]
  | x :: xs => by
    rw [List.map_cons, List.map_cons, pyL, h x, pyL_map h xs]
    rfl
theorem lay_map {p : α → PyData} (h : ∀ a, (p a).canLay0 = true) : ∀ xs : List α, PyData.canLayAll0 (xs.map p) = true
  | [] => by rw [List.map_nil, PyData.canLayAll0]
  | x :: xs => by rw [List.map_cons, PyData.canLayAll0, h x, lay_map h xs]; rfl
theorem dep_map {p : α → PyData} {n : Nat} (h : ∀ a, (p a).depth ≤ n) : ∀ xs : List α, PyData.depthAll (xs.map p) ≤ n
  | [] => by rw [List.map_nil, PyData.depthAll]; omega
  | x :: xs => by
    have := h x
    have := dep_map h xs
    rw [List.map_cons, PyData.depthAll]; omega
theorem eqv_map [DecidableEq α] {p : α → PyData} (h : PyQ p) : ∀ xs ys : List α, PyData.eqvAll (xs.map p) (ys.map p) = decide (xs = ys)
  | [], [] => by simp [PyData.eqvAll]
  | [], y :: ys => by simp [PyData.eqvAll]
  | x :: xs, [] => by simp [PyData.eqvAll]
  | x :: xs, y :: ys => by
    rw [List.map_cons, List.map_cons, PyData.eqvAll, h x y, eqv_map h xs ys]
    simp
theorem py_int : PyE D.int pInt 0 := ⟨fun _ => rfl, fun _ => rfl, fun _ => by simp [pInt, PyData.depth], fun _ h => by cases h⟩
theorem py_st : PyE eSt pSt 0 := ⟨fun _ => rfl, fun a => by simp [pSt, PyData.canLay0, strOk_sD], fun _ => by simp [pSt, PyData.depth], fun _ h => by cases h⟩
theorem py_tu : PyE eTu pTu 0 := ⟨fun a => by cases a <;> rfl, fun a => by cases a with
  | inl i => rfl
  | inr s => exact py_st.lay s, fun a => by cases a <;> simp [pTu, pSt, PyData.depth], fun a h => by cases a <;> cases h⟩
theorem py_t2 {e : α → D} {p : α → PyData} {f : β → D} {q : β → PyData} {n m : Nat} (h : PyE e p n) (h2 : PyE f q m) : PyE (eT2 e f) (pT2 p q) (max n m + 1) :=
  ⟨fun a => by unfold eT2; rw [DI.py, DI.pyL, DI.pyL, DI.pyL, h.py, h2.py]; rfl, fun a => by simp [pT2, PyData.canLay0, PyData.canLayAll0, h.lay, h2.lay], fun a => by
    have := h.dep a.1
    have := h2.dep a.2
    simp only [pT2, PyData.depth, PyData.depthAll]; omega, fun _ q => by cases q⟩
theorem py_t3 {e : α → D} {p : α → PyData} {f : β → D} {q : β → PyData} {g : γ → D} {r : γ → PyData} {n m k : Nat} (h : PyE e p n) (h2 : PyE f q m) (h3 : PyE g r k) : PyE (eT3 e f g) (pT3 p q r) (max (max n m) k + 1) :=
  ⟨fun a => by unfold eT3; rw [DI.py, DI.pyL, DI.pyL, DI.pyL, DI.pyL, h.py, h2.py, h3.py]; rfl, fun a => by simp [pT3, PyData.canLay0, PyData.canLayAll0, h.lay, h2.lay, h3.lay], fun a => by
    have := h.dep a.1
    have := h2.dep a.2.1
    have := h3.dep a.2.2
    simp only [pT3, PyData.depth, PyData.depthAll]; omega, fun _ q => by cases q⟩
theorem py_sq {e : α → D} {p : α → PyData} {n : Nat} (h : PyE e p n) : PyE (eSq e) (pSq p) (n + 1) :=
  ⟨fun a => by unfold eSq; rw [DI.py, pyL_map h.py]; rfl, fun a => by simp [pSq, PyData.canLay0, lay_map h.lay], fun a => by
    have := dep_map h.dep a
    simp only [pSq, PyData.depth]; omega, fun _ q => by cases q⟩
theorem py_ls {o : Bool} {e : α → D} {p : α → PyData} {n : Nat} (h : PyE e p n) : PyE (eLs o e) (pLs p) (n + 1) :=
  ⟨fun a => by unfold eLs; rw [DI.py, pyL_map h.py]; rfl, fun a => by simp [pLs, PyData.canLay0, lay_map h.lay], fun a => by
    have := dep_map h.dep a
    simp only [pLs, PyData.depth]; omega, fun _ q => by cases q⟩
theorem pq_int : PyQ pInt := fun a b => rfl
theorem pq_st : PyQ pSt := fun a b => by
  simp only [pSt, PyData.eqv]
  by_cases h : a = b
  · subst h; simp
  · have : sD a ≠ sD b := fun q => h (sD_inj q)
    simp [h, this]
theorem pq_tu : PyQ pTu := fun a b => by
  cases a with
  | inl i => cases b with
    | inl j => simp [pTu, PyData.eqv]; rfl
    | inr t => simp [pTu, pSt, PyData.eqv]
  | inr s => cases b with
    | inl j => simp [pTu, pSt, PyData.eqv]
    | inr t => simpa [pTu] using pq_st s t
theorem pq_t2 [DecidableEq α] [DecidableEq β] {p : α → PyData} {q : β → PyData} (h : PyQ p) (h2 : PyQ q) : PyQ (pT2 p q) := fun a b => by
  obtain ⟨a1, a2⟩ := a
  obtain ⟨b1, b2⟩ := b
  simp [pT2, PyData.eqv, PyData.eqvAll, h _ _, h2 _ _]
theorem pq_t3 [DecidableEq α] [DecidableEq β] [DecidableEq γ] {p : α → PyData} {q : β → PyData} {r : γ → PyData} (h : PyQ p) (h2 : PyQ q) (h3 : PyQ r) : PyQ (pT3 p q r) := fun a b => by
  obtain ⟨a1, a2, a3⟩ := a
  obtain ⟨b1, b2, b3⟩ := b
  simp [pT3, PyData.eqv, PyData.eqvAll, h _ _, h2 _ _, h3 _ _]
theorem pq_sq [DecidableEq α] {p : α → PyData} (h : PyQ p) : PyQ (pSq p) := fun a b => by
  simp [pSq, PyData.eqv, eqv_map h]
theorem pq_ls [DecidableEq α] {p : α → PyData} (h : PyQ p) : PyQ (pLs p) := fun a b => by
  simp [pLs, PyData.eqv, eqv_map h]
theorem eqD_ty [DecidableEq α] {e e' : α → D} {p : α → PyData} {n n' : Nat} (h : PyE e p n) (h' : PyE e' p n') (q : PyQ p) (hn : n ≤ 64) (hn' : n' ≤ 64) (a b : α) : eqD (e a) (e' b) = .ok (decide (a = b)) := by
  have s : ∀ {e : α → D} {n : Nat} (h : PyE e p n) (hn : n ≤ 64) (a : α), SeqAt.shaped (p a) = true := fun h hn a => by
    unfold SeqAt.shaped
    rw [Bool.and_eq_true, decide_eq_true_iff]
    exact ⟨h.lay a, Nat.le_trans (h.dep a) hn⟩
  rw [eqD_of (h.py a) (h'.py b) (s h hn a) (s h' hn' b), q]
theorem any_map [DecidableEq α] {p : α → PyData} (q : PyQ p) (a : α) : ∀ xs : List α, ((xs.map p).any fun z => PyData.eqv z (p a)) = decide (a ∈ xs)
  | [] => by simp
  | x :: xs => by
    rw [List.map_cons, List.any_cons, any_map q a xs, q]
    simp only [List.mem_cons, Bool.decide_or]
    congr 1
    exact decide_eq_decide.mpr ⟨Eq.symm, Eq.symm⟩
theorem memS_ty [DecidableEq α] {e e' : α → D} {p : α → PyData} {n n' : Nat} (h : PyE e p n) (h' : PyE e' p n') (q : PyQ p) (hn : n ≤ 63) (hn' : n' ≤ 63) (a : α) (xs : List α) : memS (e a) (xs.map e') = .ok (decide (a ∈ xs)) := by
  unfold memS
  rw [h.py, pyL_map h'.py]
  have s1 : SeqAt.shaped (p a) = true := by
    unfold SeqAt.shaped
    rw [Bool.and_eq_true, decide_eq_true_iff]
    exact ⟨h.lay a, Nat.le_trans (h.dep a) (by omega)⟩
  have s2 : SeqAt.shaped (.list (xs.map p)) = true := by
    unfold SeqAt.shaped
    have := dep_map h'.dep xs
    rw [Bool.and_eq_true, decide_eq_true_iff]
    exact ⟨by rw [PyData.canLay0]; exact lay_map h'.lay xs, by rw [PyData.depth]; omega⟩
  simp only [s1, s2, Bool.and_self, if_pos]
  rw [any_map q]
structure KD (e : α → D) (κ : α → NestedKey) : Prop where
  key : ∀ a, key (e a) = some (κ a)
  inj : ∀ a b, κ a = κ b → a = b
  kin : ∀ (a : α) (ks : List NestedKey), (∀ k ∈ ks, ∃ b, k = κ b) → (isLeafKey (κ a) && ks.all isLeafKey || isTupKey (κ a) && decide ((κ a).depth ≤ 8) && ks.all isTupKey) = true ∧ (isTupKey (κ a) || leafD (e a)) = true
def getT [DecidableEq α] (kvs : List (α × β)) (k : α) : Option β := (kvs.find? fun p => decide (p.1 = k)).map (·.2)
def hasT [DecidableEq α] (kvs : List (α × β)) (k : α) : Bool := kvs.any fun p => decide (p.1 = k)
def putT [DecidableEq α] (kvs : List (α × β)) (k : α) (v : β) : List (α × β) :=
  if hasT kvs k = true then kvs.map (fun p => if p.1 = k then (p.1, v) else p) else kvs ++ [(k, v)]
def encK (κ : α → NestedKey) (e : β → D) (kvs : List (α × β)) : List (NestedKey × D) := kvs.map fun p => (κ p.1, e p.2)
theorem KD.keyIn {e : α → D} {κ : α → NestedKey} (h : KD e κ) (f : β → D) (kvs : List (α × β)) (a : α) : DI.keyIn (e a) (encK κ f kvs) = .ok (κ a) := by
  unfold DI.keyIn
  rw [h.key]
  have q := h.kin a (kvs.map fun p => κ p.1) fun k m => by
    obtain ⟨p, _, rfl⟩ := List.mem_map.mp m
    exact ⟨p.1, rfl⟩
  have e1 : keysWith (κ a) (encK κ f kvs) = true := by
    unfold keysWith encK
    have := q.1
    simp only [List.all_map] at this ⊢
    exact this
  simp only [e1, q.2, Bool.and_self, if_pos]
theorem KD.dget [DecidableEq α] {e : α → D} {κ : α → NestedKey} (h : KD e κ) (f : β → D) (kvs : List (α × β)) (a : α) : DI.dget (encK κ f kvs) (κ a) = (getT kvs a).map f := by
  induction kvs with
  | nil => rfl
  | cons p kvs ih =>
    unfold DI.dget getT encK at ih ⊢
    rw [List.map_cons, List.find?_cons, List.find?_cons]
    by_cases q : p.1 = a
    · simp [q]
    · have : κ p.1 ≠ κ a := fun z => q (h.inj _ _ z)
      simp only [this, q, decide_false]
      exact ih
theorem KD.any [DecidableEq α] {e : α → D} {κ : α → NestedKey} (h : KD e κ) (f : β → D) (kvs : List (α × β)) (a : α) : ((encK κ f kvs).any fun p => decide (p.1 = κ a)) = hasT kvs a := by
  unfold hasT encK
  rw [List.any_map]
  congr 1
  funext p
  exact decide_eq_decide.mpr ⟨h.inj _ _, fun z => congrArg κ z⟩
theorem KD.dput [DecidableEq α] {e : α → D} {κ : α → NestedKey} (h : KD e κ) (f : β → D) (kvs : List (α × β)) (a : α) (v : β) : DI.dput (encK κ f kvs) (κ a) (f v) = encK κ f (putT kvs a v) := by
  unfold DI.dput putT
  rw [h.any]
  by_cases q : hasT kvs a = true
  · rw [if_pos q, if_pos q]
    unfold encK
    rw [List.map_map, List.map_map]
    apply List.map_congr_left
    intro p _
    by_cases z : p.1 = a
    · simp [z]
    · have : κ p.1 ≠ κ a := fun y => z (h.inj _ _ y)
      simp [z, this]
  · rw [if_neg q, if_neg q]
    unfold encK
    simp
end
end DI
namespace DI
open PySem
end DI
namespace DI
open PySem
theorem R.bind_assoc {α β γ : Type} (r : R α) (f : α → R β) (k : β → R γ) : (r.bind f).bind k = r.bind fun a => (f a).bind k := by cases r <;> rfl
section
variable {α β γ δ ε ζ η α' β' : Type}
def Wd (e : α → D) (e' : β → D) (w : α → β) : Prop := ∀ a, e' (w a) = e a
def Nw (e : α → D) (e' : β → D) (w : α → R β) : Prop := ∀ a, match w a with | .ok b => e' b = e a | .err _ _ => False | .bad => True
def Rf (r : R D) (m : R α) (e : α → D) : Prop :=
  match m with
  | .ok a => r = .ok (e a)
  | .err c fs => r = .err c fs
  | .bad => True
theorem Rf.bind {r : R D} {m : R α} {e : α → D} {k : D → R D} {M : α → R β} {e' : β → D} (h : Rf r m e) (h2 : ∀ a, Rf (k (e a)) (M a) e') : Rf (r.bind k) (m.bind M) e' := by
  cases m with
  | ok a => rw [show r = .ok (e a) from h]; exact h2 a
  | err c fs => rw [show r = .err c fs from h]; exact rfl
  | bad => exact True.intro
theorem rf_ok {r : R D} {a : α} {e : α → D} (h : r = .ok (e a)) : Rf r (.ok a) e := h
theorem Rf.guard {c c' : Prop} [Decidable c] [Decidable c'] {r : R D} {m : R α} {e : α → D} (hc : c' → c) (h : Rf r m e) : Rf (if c then r else .bad) (if c' then m else .bad) e := by
  by_cases q : c'
  · rw [if_pos q, if_pos (hc q)]; exact h
  · rw [if_neg q]; exact True.intro
theorem Rf.guard1 {c : Prop} [Decidable c] {r : R D} {m : R α} {e : α → D} (hc : c) (h : Rf r m e) : Rf (if c then r else .bad) m e := by
  rw [if_pos hc]; exact h
theorem Rf.wid {r : R D} {m : R α} {e : α → D} {e' : β → D} (w : α → β) (h : Rf r m e) (hw : Wd e e' w) : Rf r (m.bind fun a => .ok (w a)) e' := by
  cases m with
  | ok a => exact (show r = .ok (e a) from h).trans (congrArg R.ok (hw a).symm)
  | err c fs => exact h
  | bad => exact True.intro
theorem Rf.nar {r : R D} {m : R α} {e : α → D} {e' : β → D} (w : α → R β) (h : Rf r m e) (hw : Nw e e' w) : Rf r (m.bind w) e' := by
  cases m with
  | ok a =>
    have q := hw a
    show Rf r (w a) e'
    cases hb : w a with
    | ok b => rw [hb] at q; exact (show r = .ok (e a) from h).trans (congrArg R.ok q.symm)
    | err c fs => rw [hb] at q; exact q.elim
    | bad => exact True.intro
  | err c fs => exact h
  | bad => exact True.intro
variable {σ : Sl} {f k l : Sl → R D} {e : α → D} {e' : β → D} {m : R α} {n : R β}
theorem rf_v {i : Nat} {a : α} (e : α → D) (h : getS σ i = .ok (e a)) : Rf (eV i σ) (.ok a) e := h
theorem rf_k {d : D} {a : α} (e : α → D) (h : d = e a) : Rf (eK d σ) (.ok a) e := congrArg R.ok h
theorem rf_o (c : Cl e) (h : Rf (f σ) m e) : Rf (eO f σ) m e := by
  have := Rf.bind (k := fun d => if clean d = true then .ok d else .bad) (M := fun a => .ok a) (e' := e) h fun a => .guard1 (c a) rfl
  cases m <;> exact this
theorem rf_neg {m : R Int} (h : Rf (f σ) m D.int) : Rf (eNeg f σ) (m.bind fun i => .ok (-i)) D.int := h.bind fun _ => rfl
theorem rf_not {m : R Bool} (h : Rf (f σ) m D.bl) : Rf (eNot f σ) (m.bind fun i => .ok (!i)) D.bl := h.bind fun _ => rfl
def szT (n : Nat) (a : α) : R α := if n ≤ sizeLine then .ok a else .bad
noncomputable def mulT (i j : Int) : R Int := if (small64 i || small64 j) = true then .ok (i * j) else .bad
def fdivT (i j : Int) : R Int := if 0 < j ∧ j.natAbs.log2 < 9000 then .ok (i / j) else .bad
def modT (i j : Int) : R Int := if 0 < j then .ok (i % j) else .bad
def powT (i j : Int) : R Int := if 0 ≤ j ∧ j ≤ 1000000 ∧ i.natAbs < 2 ^ 64 then .ok (i ^ j.toNat) else .bad
theorem rf_add {m n : R Int} (h : Rf (f σ) m D.int) (h2 : Rf (k σ) n D.int) : Rf (eB .add f k σ) (m.bind fun i => n.bind fun j => .ok (i + j)) D.int := h.bind fun _ => h2.bind fun _ => rfl
theorem rf_sub {m n : R Int} (h : Rf (f σ) m D.int) (h2 : Rf (k σ) n D.int) : Rf (eB .sub f k σ) (m.bind fun i => n.bind fun j => .ok (i - j)) D.int := h.bind fun _ => h2.bind fun _ => rfl
theorem rf_mul {m n : R Int} (h : Rf (f σ) m D.int) (h2 : Rf (k σ) n D.int) : Rf (eB .mul f k σ) (m.bind fun i => n.bind fun j => mulT i j) D.int := h.bind fun i => h2.bind fun j => .guard id rfl
theorem rf_mulR {m : R Int} {j : Int} (b : -18446744073709551616 < j ∧ j < 18446744073709551616) (h : Rf (f σ) m D.int) : Rf (eB .mul f (eK (.int j)) σ) (m.bind fun i => .ok (i * j)) D.int := h.bind fun i => rf_ok (binD_mulR i j b.1 b.2)
theorem rf_mulL {m : R Int} {j : Int} (b : -18446744073709551616 < j ∧ j < 18446744073709551616) (h : Rf (f σ) m D.int) : Rf (eB .mul (eK (.int j)) f σ) (m.bind fun i => .ok (j * i)) D.int := h.bind fun i => rf_ok (binD_mulL j i b.1 b.2)
theorem rf_fdiv {m n : R Int} (h : Rf (f σ) m D.int) (h2 : Rf (k σ) n D.int) : Rf (eB .fdiv f k σ) (m.bind fun i => n.bind fun j => fdivT i j) D.int := h.bind fun i => h2.bind fun j => .guard id rfl
theorem rf_fdivK {m : R Int} {j : Int} (b : 0 < j ∧ j < 18446744073709551616) (h : Rf (f σ) m D.int) : Rf (eB .fdiv f (eK (.int j)) σ) (m.bind fun i => .ok (i / j)) D.int := h.bind fun i => rf_ok (binD_fdiv i j b.1 b.2)
theorem rf_mod {m n : R Int} (h : Rf (f σ) m D.int) (h2 : Rf (k σ) n D.int) : Rf (eB .mod f k σ) (m.bind fun i => n.bind fun j => modT i j) D.int := h.bind fun i => h2.bind fun j => .guard id rfl
theorem rf_modK {m : R Int} {j : Int} (b : 0 < j) (h : Rf (f σ) m D.int) : Rf (eB .mod f (eK (.int j)) σ) (m.bind fun i => .ok (i % j)) D.int := h.bind fun i => rf_ok (binD_mod i j b)
theorem rf_pow {m n : R Int} (h : Rf (f σ) m D.int) (h2 : Rf (k σ) n D.int) : Rf (eB .pow f k σ) (m.bind fun i => n.bind fun j => powT i j) D.int := h.bind fun i => h2.bind fun j => .guard id rfl
theorem rf_eq [DecidableEq α] {e e' : α → D} {p : α → PyData} {u u' : Nat} (h : PyE e p u) (h' : PyE e' p u') (q : PyQ p) (hn : u ≤ 64) (hn' : u' ≤ 64) {m n : R α} (h1 : Rf (f σ) m e) (h2 : Rf (k σ) n e') : Rf (eC .eq f k σ) (m.bind fun a => n.bind fun b => .ok (decide (a = b))) D.bl :=
  h1.bind fun a => h2.bind fun b => rf_ok (by rw [cmpD_eq, eqD_ty h h' q hn hn']; rfl)
theorem rf_ne [DecidableEq α] {e e' : α → D} {p : α → PyData} {u u' : Nat} (h : PyE e p u) (h' : PyE e' p u') (q : PyQ p) (hn : u ≤ 64) (hn' : u' ≤ 64) {m n : R α} (h1 : Rf (f σ) m e) (h2 : Rf (k σ) n e') : Rf (eC .ne f k σ) (m.bind fun a => n.bind fun b => .ok (!decide (a = b))) D.bl :=
  h1.bind fun a => h2.bind fun b => rf_ok (by rw [cmpD_ne, eqD_ty h h' q hn hn']; rfl)
theorem rf_inQ [DecidableEq α] {e e' : α → D} {p : α → PyData} {u u' : Nat} (h : PyE e p u) (h' : PyE e' p u') (q : PyQ p) (hn : u ≤ 63) (hn' : u' ≤ 63) {m : R α} {n : R (List α)} (h1 : Rf (f σ) m e) (h2 : Rf (k σ) n (eSq e')) : Rf (eC .mem f k σ) (m.bind fun a => n.bind fun b => .ok (decide (a ∈ b))) D.bl :=
  h1.bind fun a => h2.bind fun b => rf_ok (by rw [cmpD_mem]; unfold eSq; rw [memD_tup, memS_ty h h' q hn hn']; rfl)
theorem rf_ninQ [DecidableEq α] {e e' : α → D} {p : α → PyData} {u u' : Nat} (h : PyE e p u) (h' : PyE e' p u') (q : PyQ p) (hn : u ≤ 63) (hn' : u' ≤ 63) {m : R α} {n : R (List α)} (h1 : Rf (f σ) m e) (h2 : Rf (k σ) n (eSq e')) : Rf (eC .nmem f k σ) (m.bind fun a => n.bind fun b => .ok (!decide (a ∈ b))) D.bl :=
  h1.bind fun a => h2.bind fun b => rf_ok (by rw [cmpD_nmem]; unfold eSq; rw [memD_tup, memS_ty h h' q hn hn']; rfl)
theorem rf_isi {t : Ty} (b : α → Bool) (hb : ∀ a, isTy t (e a) = .ok (b a)) (h : Rf (f σ) m e) : Rf (eIsi t f σ) (m.bind fun a => .ok (b a)) D.bl :=
  h.bind fun a => rf_ok (by rw [hb]; rfl)
theorem Rf.same {r : R D} {n : R Bool} (h : Rf r n D.bl) : Rf (r.bind fun y => (boolOf y).bind fun r => .ok (D.bl r)) n D.bl := by
  cases n with
  | ok b => rw [show r = .ok (.bl b) from h]; exact rfl
  | err c fs => rw [show r = .err c fs from h]; exact rfl
  | bad => exact True.intro
theorem rf_and {m n : R Bool} (h : Rf (f σ) m D.bl) (h2 : Rf (k σ) n D.bl) : Rf (eAnd f k σ) (m.bind fun i => if i = true then n else .ok false) D.bl :=
  h.bind fun i => by
    cases i with
    | false => exact rfl
    | true => exact Rf.same h2
theorem rf_or {m n : R Bool} (h : Rf (f σ) m D.bl) (h2 : Rf (k σ) n D.bl) : Rf (eOr f k σ) (m.bind fun i => if i = true then .ok true else n) D.bl :=
  h.bind fun i => by
    cases i with
    | true => exact rfl
    | false => exact Rf.same h2
theorem rf_andP {m : R Bool} {b : Bool} (h : Rf (f σ) m D.bl) (h2 : Rf (k σ) (.ok b) D.bl) : Rf (eAnd f k σ) (m.bind fun i => .ok (i && b)) D.bl := by
  have q := rf_and h h2
  cases m with
  | ok i => cases i <;> exact q
  | err c fs => exact q
  | bad => exact q
theorem rf_orP {m : R Bool} {b : Bool} (h : Rf (f σ) m D.bl) (h2 : Rf (k σ) (.ok b) D.bl) : Rf (eOr f k σ) (m.bind fun i => .ok (i || b)) D.bl := by
  have q := rf_or h h2
  cases m with
  | ok i => cases i <;> exact q
  | err c fs => exact q
  | bad => exact q
theorem rf_ofR {β : Type} {g : β → D} {x : Option β} : Rf (ofR (x.map g)) (ofR x) g := by cases x; exact True.intro; exact rfl
theorem rf_ixL {o : Bool} {m : R (List α)} {n : R Int} (h : Rf (f σ) m (eLs o e)) (h2 : Rf (k σ) n D.int) : Rf (eIx f k σ) (m.bind fun xs => n.bind fun i => ofR (L2.atI xs i)) e :=
  h.bind fun xs => h2.bind fun i => by unfold eLs; rw [idxD_lst, atI_map]; exact rf_ofR
theorem rf_ixQ {m : R (List α)} {n : R Int} (h : Rf (f σ) m (eSq e)) (h2 : Rf (k σ) n D.int) : Rf (eIx f k σ) (m.bind fun xs => n.bind fun i => ofR (L2.atI xs i)) e :=
  h.bind fun xs => h2.bind fun i => by unfold eSq; rw [idxD_tup, atI_map]; exact rf_ofR
theorem rf_ix2_0 {e1 : α → D} {e2 : β → D} {m : R (α × β)} (h : Rf (f σ) m (eT2 e1 e2)) : Rf (eIx f (eK (.int 0)) σ) (m.bind fun p => .ok p.1) e1 := h.bind fun _ => rfl
theorem rf_ix2_1 {e1 : α → D} {e2 : β → D} {m : R (α × β)} (h : Rf (f σ) m (eT2 e1 e2)) : Rf (eIx f (eK (.int 1)) σ) (m.bind fun p => .ok p.2) e2 := h.bind fun _ => rfl
theorem rf_ix3_0 {e1 : α → D} {e2 : β → D} {e3 : γ → D} {m : R (α × β × γ)} (h : Rf (f σ) m (eT3 e1 e2 e3)) : Rf (eIx f (eK (.int 0)) σ) (m.bind fun p => .ok p.1) e1 := h.bind fun _ => rfl
theorem rf_ix3_1 {e1 : α → D} {e2 : β → D} {e3 : γ → D} {m : R (α × β × γ)} (h : Rf (f σ) m (eT3 e1 e2 e3)) : Rf (eIx f (eK (.int 1)) σ) (m.bind fun p => .ok p.2.1) e2 := h.bind fun _ => rfl
theorem rf_ix3_2 {e1 : α → D} {e2 : β → D} {e3 : γ → D} {m : R (α × β × γ)} (h : Rf (f σ) m (eT3 e1 e2 e3)) : Rf (eIx f (eK (.int 2)) σ) (m.bind fun p => .ok p.2.2) e3 := h.bind fun _ => rfl
theorem rf_call1 {θ : Type} {h : List D → R D} {eθ : θ → D} {f1 : Sl → R D} {e1 : α → D} {m1 : R α} {e1' : α → D} {Φ : α → R θ} (T : ∀ a1, Rf (h [e1' a1]) (Φ a1) eθ) (z1 : Fz e1 e1') (hc : (Cl e1 ∧ True) ∨ Nf eθ) (h1 : Rf (f1 σ) m1 e1) : Rf (eF h (aC f1 aN) σ) (m1.bind fun a1 => Φ a1) eθ := by
  simp only [u_eF, u_aC, u_aN, R.bind_assoc, R.bind_ok, tupOf_tup]
  refine h1.bind fun a1 => ?_
  have q : frzL [e1 a1] = [e1' a1] := by simp [z1 _]
  rw [q]
  have t := T a1
  cases y : Φ a1 with
  | ok b =>
    rw [y] at t
    rw [show h [e1' a1] = .ok (eθ b) from t]
    show (if (cleanL [e1 a1] || noFrz (eθ b)) = true then R.ok (eθ b) else .bad) = _
    refine if_pos ?_
    rcases hc with ⟨c1, _⟩ | nf
    · simp [c1 _]
    · simp [nf b]
  | err c fs =>
    rw [y] at t
    rw [show h [e1' a1] = .err c fs from t]
    exact rfl
  | bad => exact True.intro
theorem rf_bi1 {θ : Type} {b : Bi} {eθ : θ → D} {f1 : Sl → R D} {e1 : α → D} {m1 : R α} {Φ : α → R θ} (T : ∀ a1, Rf (biD b [e1 a1]) (Φ a1) eθ) (h1 : Rf (f1 σ) m1 e1) : Rf (eBi b (aC f1 aN) σ) (m1.bind fun a1 => Φ a1) eθ := by
  simp only [u_eBi, u_aC, u_aN, R.bind_assoc, R.bind_ok, tupOf_tup]
  exact h1.bind fun a1 => T a1
theorem rf_tup2 {f1 : Sl → R D} {e1 : α → D} {m1 : R α} {f2 : Sl → R D} {e2 : β → D} {m2 : R β} (h1 : Rf (f1 σ) m1 e1) (h2 : Rf (f2 σ) m2 e2) : Rf (eTup (aC f1 (aC f2 aN)) σ) (m1.bind fun a1 => m2.bind fun a2 => .ok (a1, a2)) (eT2 e1 e2) := by
  simp only [u_eTup, u_aC, u_aN, R.bind_assoc, R.bind_ok, tupOf_tup]
  exact h1.bind fun a1 => h2.bind fun a2 => .guard1 (le_line (by simp)) rfl
theorem rf_call2 {θ : Type} {h : List D → R D} {eθ : θ → D} {f1 : Sl → R D} {e1 : α → D} {m1 : R α} {f2 : Sl → R D} {e2 : β → D} {m2 : R β} {e1' : α → D} {e2' : β → D} {Φ : α → β → R θ} (T : ∀ a1 a2, Rf (h [e1' a1, e2' a2]) (Φ a1 a2) eθ) (z1 : Fz e1 e1') (z2 : Fz e2 e2') (hc : (Cl e1 ∧ Cl e2 ∧ True) ∨ Nf eθ) (h1 : Rf (f1 σ) m1 e1) (h2 : Rf (f2 σ) m2 e2) : Rf (eF h (aC f1 (aC f2 aN)) σ) (m1.bind fun a1 => m2.bind fun a2 => Φ a1 a2) eθ := by
  simp only [u_eF, u_aC, u_aN, R.bind_assoc, R.bind_ok, tupOf_tup]
  refine h1.bind fun a1 => h2.bind fun a2 => ?_
  have q : frzL [e1 a1, e2 a2] = [e1' a1, e2' a2] := by simp [z1 _, z2 _]
  rw [q]
  have t := T a1 a2
  cases y : Φ a1 a2 with
  | ok b =>
    rw [y] at t
    rw [show h [e1' a1, e2' a2] = .ok (eθ b) from t]
    show (if (cleanL [e1 a1, e2 a2] || noFrz (eθ b)) = true then R.ok (eθ b) else .bad) = _
    refine if_pos ?_
    rcases hc with ⟨c1, c2, _⟩ | nf
    · simp [c1 _, c2 _]
    · simp [nf b]
  | err c fs =>
    rw [y] at t
    rw [show h [e1' a1, e2' a2] = .err c fs from t]
    exact rfl
  | bad => exact True.intro
theorem rf_bi2 {θ : Type} {b : Bi} {eθ : θ → D} {f1 : Sl → R D} {e1 : α → D} {m1 : R α} {f2 : Sl → R D} {e2 : β → D} {m2 : R β} {Φ : α → β → R θ} (T : ∀ a1 a2, Rf (biD b [e1 a1, e2 a2]) (Φ a1 a2) eθ) (h1 : Rf (f1 σ) m1 e1) (h2 : Rf (f2 σ) m2 e2) : Rf (eBi b (aC f1 (aC f2 aN)) σ) (m1.bind fun a1 => m2.bind fun a2 => Φ a1 a2) eθ := by
  simp only [u_eBi, u_aC, u_aN, R.bind_assoc, R.bind_ok, tupOf_tup]
  exact h1.bind fun a1 => h2.bind fun a2 => T a1 a2
theorem rf_tup3 {f1 : Sl → R D} {e1 : α → D} {m1 : R α} {f2 : Sl → R D} {e2 : β → D} {m2 : R β} {f3 : Sl → R D} {e3 : γ → D} {m3 : R γ} (h1 : Rf (f1 σ) m1 e1) (h2 : Rf (f2 σ) m2 e2) (h3 : Rf (f3 σ) m3 e3) : Rf (eTup (aC f1 (aC f2 (aC f3 aN))) σ) (m1.bind fun a1 => m2.bind fun a2 => m3.bind fun a3 => .ok (a1, a2, a3)) (eT3 e1 e2 e3) := by
  simp only [u_eTup, u_aC, u_aN, R.bind_assoc, R.bind_ok, tupOf_tup]
  exact h1.bind fun a1 => h2.bind fun a2 => h3.bind fun a3 => .guard1 (le_line (by simp)) rfl
theorem rf_call3 {θ : Type} {h : List D → R D} {eθ : θ → D} {f1 : Sl → R D} {e1 : α → D} {m1 : R α} {f2 : Sl → R D} {e2 : β → D} {m2 : R β} {f3 : Sl → R D} {e3 : γ → D} {m3 : R γ} {e1' : α → D} {e2' : β → D} {e3' : γ → D} {Φ : α → β → γ → R θ} (T : ∀ a1 a2 a3, Rf (h [e1' a1, e2' a2, e3' a3]) (Φ a1 a2 a3) eθ) (z1 : Fz e1 e1') (z2 : Fz e2 e2') (z3 : Fz e3 e3') (hc : (Cl e1 ∧ Cl e2 ∧ Cl e3 ∧ True) ∨ Nf eθ) (h1 : Rf (f1 σ) m1 e1) (h2 : Rf (f2 σ) m2 e2) (h3 : Rf (f3 σ) m3 e3) : Rf (eF h (aC f1 (aC f2 (aC f3 aN))) σ) (m1.bind fun a1 => m2.bind fun a2 => m3.bind fun a3 => Φ a1 a2 a3) eθ := by
  simp only [u_eF, u_aC, u_aN, R.bind_assoc, R.bind_ok, tupOf_tup]
  refine h1.bind fun a1 => h2.bind fun a2 => h3.bind fun a3 => ?_
  have q : frzL [e1 a1, e2 a2, e3 a3] = [e1' a1, e2' a2, e3' a3] := by simp [z1 _, z2 _, z3 _]
  rw [q]
  have t := T a1 a2 a3
  cases y : Φ a1 a2 a3 with
  | ok b =>
    rw [y] at t
    rw [show h [e1' a1, e2' a2, e3' a3] = .ok (eθ b) from t]
    show (if (cleanL [e1 a1, e2 a2, e3 a3] || noFrz (eθ b)) = true then R.ok (eθ b) else .bad) = _
    refine if_pos ?_
    rcases hc with ⟨c1, c2, c3, _⟩ | nf
    · simp [c1 _, c2 _, c3 _]
    · simp [nf b]
  | err c fs =>
    rw [y] at t
    rw [show h [e1' a1, e2' a2, e3' a3] = .err c fs from t]
    exact rfl
  | bad => exact True.intro
theorem bt_lenL {o : Bool} (xs : List α) : Rf (biD .len [eLs o e xs]) (.ok (xs.length : Int)) D.int := rf_ok (by unfold eLs; rw [biD_lenL, List.length_map])
theorem bt_lenQ (xs : List α) : Rf (biD .len [eSq e xs]) (.ok (xs.length : Int)) D.int := rf_ok (by unfold eSq; rw [biD_lenT, List.length_map])
def lenT (s : St) : R Int := szT s.length (s.length : Int)
theorem bt_lenS (s : St) : Rf (biD .len [eSt s]) (lenT s) D.int := by
  unfold eSt lenT; rw [biD_lenS]; exact .guard (by rw [sD_len]; exact id) (rf_ok (by rw [sD_len]))
theorem bt_tupL {o : Bool} (c : Cl e) (xs : List α) : Rf (biD .tuple [eLs o e xs]) (.ok xs) (eSq e) := rf_ok (by unfold eLs; rw [biD_tupleL, if_pos (cl_map c xs)]; rfl)
theorem bt_intB (b : Bool) : Rf (biD .int [.bl b]) (.ok (if b = true then 1 else 0)) D.int := rfl
theorem bt_min (i j : Int) : Rf (biD .min [.int i, .int j]) (.ok (if j < i then j else i)) D.int := rfl
theorem bt_max (i j : Int) : Rf (biD .max [.int i, .int j]) (.ok (if j > i then j else i)) D.int := rfl
theorem blsD_map : ∀ xs : List Bool, blsD (xs.map D.bl) = some xs
  | [] => rfl
  | x :: xs => by rw [List.map_cons, blsD, blsD_map xs]; rfl
theorem bt_all {o : Bool} (xs : List Bool) : Rf (biD .all [eLs o D.bl xs]) (.ok (xs.all id)) D.bl := by
  unfold eLs; show Rf (match blsD (xs.map D.bl) with | some ns => .ok (.bl (ns.all id)) | none => .bad) _ _
  rw [blsD_map]; exact rfl
def Rl (r : R D) (m : R (List α)) (e : α → D) : Prop := Rf r m fun xs => .tup (xs.map e)
theorem rl_nil : Rl (aN σ) (.ok ([] : List α)) e := rfl
theorem rl_cons {m : R α} {ms : R (List α)} (h : Rf (f σ) m e) (h2 : Rl (k σ) ms e) : Rl (aC f k σ) (m.bind fun a => ms.bind fun as => .ok (a :: as)) e :=
  h.bind fun a => Rf.bind h2 fun as => rf_ok rfl
theorem rf_lst {ms : R (List α)} (h : Rl (f σ) ms e) : Rf (eLst f σ) (ms.bind fun as => szT as.length as) (eLs true e) :=
  Rf.bind h fun as => .guard (c := (as.map e).length ≤ sizeLine) (by rw [List.length_map]; exact id) rfl
theorem rf_lstP {as : List α} (h : Rl (f σ) (.ok as) e) (hn : as.length ≤ 1000000) : Rf (eLst f σ) (.ok as) (eLs true e) := by
  have q := rf_lst h
  unfold szT at q
  rw [R.bind_ok, if_pos (le_line hn)] at q
  exact q
theorem rf_tupQ {ms : R (List α)} (h : Rl (f σ) ms e) : Rf (eTup f σ) (ms.bind fun as => szT as.length as) (eSq e) :=
  Rf.bind h fun as => .guard (c := (as.map e).length ≤ sizeLine) (by rw [List.length_map]; exact id) rfl
theorem rf_tupQP {as : List α} (h : Rl (f σ) (.ok as) e) (hn : as.length ≤ 1000000) : Rf (eTup f σ) (.ok as) (eSq e) := by
  have q := rf_tupQ h
  unfold szT at q
  rw [R.bind_ok, if_pos (le_line hn)] at q
  exact q
theorem rf_slL {o : Bool} {nb nc : Bool} {m : R (List α)} {lo hi : R (Option Int)} (c : Cl e) (h : Rf (f σ) m (eLs o e))
    (h1 : ∀ i, lo = .ok i → (k σ).bind (fun l' => partD (if nb = true then none else some l')) = .ok i) (h2 : ∀ i, hi = .ok i → (l σ).bind (fun l' => partD (if nc = true then none else some l')) = .ok i) (n1 : ∀ c fs, lo ≠ .err c fs) (n2 : ∀ c fs, hi ≠ .err c fs) :
    Rf (eSl f nb k nc l σ) (m.bind fun xs => lo.bind fun i => hi.bind fun j => .ok (cutL xs i j)) (eLs true e) := by
  refine h.bind fun xs => ?_
  cases lo with
  | err c fs => exact absurd rfl (n1 c fs)
  | bad => exact True.intro
  | ok i => cases hi with
    | err c fs => exact absurd rfl (n2 c fs)
    | bad => exact True.intro
    | ok j =>
      have a := h1 i rfl
      have b := h2 j rfl
      rw [show ((k σ).bind fun l' => (partD (if nb = true then none else some l')).bind fun l' => (l σ).bind fun h => (partD (if nc = true then none else some h)).bind fun h => slD (eLs o e xs) l' h) = (((k σ).bind fun l' => partD (if nb = true then none else some l')).bind fun l' => ((l σ).bind fun h => partD (if nc = true then none else some h)).bind fun h => slD (eLs o e xs) l' h) by simp only [R.bind_assoc], a, b]
      refine rf_ok ?_
      show (if cleanL (xs.map e) = true then R.ok (D.lst true (cutL (xs.map e) i j)) else .bad) = _
      rw [if_pos (cl_map c xs)]
      simp [cutL, eLs, List.map_take, List.map_drop]
theorem ne_no {i : Option Int} : ∀ c fs, (R.ok i : R (Option Int)) ≠ .err c fs := fun _ _ h => by cases h
end
end DI
namespace DI
open PySem
section
variable {α β γ δ S S' L L' : Type} {σ : Sl} {f k c : Sl → R D} {e : α → D} {e' : β → D} {m : R α} {n : R β}
def Ri (r : R (List D)) (m : R (List α)) (e : α → D) : Prop :=
  match m with
  | .ok xs => r = .ok (xs.map e)
  | .err c fs => r = .err c fs
  | .bad => True
theorem Rf.bindI {r : R D} {m : R α} {e : α → D} {k : D → R (List D)} {M : α → R (List β)} {e' : β → D} (h : Rf r m e) (h2 : ∀ a, Ri (k (e a)) (M a) e') : Ri (r.bind k) (m.bind M) e' := by
  cases m with
  | ok a => rw [show r = .ok (e a) from h]; exact h2 a
  | err c fs => rw [show r = .err c fs from h]; exact rfl
  | bad => exact True.intro
theorem Ri.guard {c c' : Prop} [Decidable c] [Decidable c'] {r : R (List D)} {m : R (List α)} {e : α → D} (hc : c' → c) (h : Ri r m e) : Ri (if c then r else .bad) (if c' then m else .bad) e := by
  by_cases q : c'
  · rw [if_pos q, if_pos (hc q)]; exact h
  · rw [if_neg q]; exact True.intro
def rg (lo : Int) (n : Nat) : List Int := (List.range n).map fun (k : Nat) => lo + (k : Int)
theorem rg_map (lo : Int) (n : Nat) : rngL lo n = (rg lo n).map D.int := by
  unfold rngL rg
  rw [List.map_map]; rfl
noncomputable def rngT (n : Int) : R (List Int) := if small62 n = true then .ok (rg 0 n.toNat) else .bad
theorem ri_r1 {m : R Int} (h : Rf (f σ) m D.int) : Ri (iR1 (aC f aN) σ) (m.bind fun n => rngT n) D.int := by
  simp only [u_iR1, u_aC, u_aN, R.bind_assoc, R.bind_ok, tupOf_tup]
  exact h.bindI fun n => .guard id (by rw [rg_map]; exact rfl)
theorem it_L {o : Bool} (cl : Cl e) (xs : List α) : itemsD (eLs o e xs) = .ok (xs.map e) := by unfold eLs; rw [itemsD_lst, if_pos (cl_map cl xs)]
theorem it_Q (cl : Cl e) (xs : List α) : itemsD (eSq e xs) = .ok (xs.map e) := by unfold eSq; rw [itemsD_tup, if_pos (cl_map cl xs)]
theorem ri_L {o : Bool} {m : R (List α)} (cl : Cl e) (h : Rf (f σ) m (eLs o e)) : Ri (iSeq' f σ) (m.bind fun xs => .ok xs) e := h.bindI fun xs => it_L cl xs
theorem ri_Q {m : R (List α)} (cl : Cl e) (h : Rf (f σ) m (eSq e)) : Ri (iSeq' f σ) (m.bind fun xs => .ok xs) e := h.bindI fun xs => it_Q cl xs
def enT : Nat → List α → List (Int × α)
  | _, [] => []
  | k, x :: xs => ((k : Int), x) :: enT (k + 1) xs
theorem enT_map (e : α → D) : ∀ (k : Nat) (xs : List α), enumL k (xs.map e) = (enT k xs).map (eT2 D.int e)
  | _, [] => rfl
  | k, x :: xs => by rw [List.map_cons, enumL, enT_map e (k + 1) xs]; rfl
theorem ri_enOf {g : γ → D} {h' : γ → List α} (hi : ∀ x, itemsD (g x) = .ok ((h' x).map e)) {m : R γ} (h : Rf (f σ) m g) : Ri (iEn (aC f aN) σ) (m.bind fun xs => .ok (enT 0 (h' xs))) (eT2 D.int e) := by
  simp only [u_iEn, u_aC, u_aN, R.bind_assoc, R.bind_ok, tupOf_tup]
  exact h.bindI fun xs => by
    rw [enumD_one, hi, R.bind_ok, enT_map]; exact rfl
theorem ri_enL {o : Bool} {m : R (List α)} (cl : Cl e) (h : Rf (f σ) m (eLs o e)) : Ri (iEn (aC f aN) σ) (m.bind fun xs => .ok (enT 0 xs)) (eT2 D.int e) := ri_enOf (h' := fun xs => xs) (it_L cl) h
def mpT (F : α → R β) : List α → R (List β)
  | [] => .ok []
  | x :: xs => match F x with
    | .ok y => (mpT F xs).bind fun ys => .ok (y :: ys)
    | _ => .bad
def fpT (C : α → R Bool) (F : α → R β) : List α → R (List β)
  | [] => .ok []
  | x :: xs => match C x with
    | .ok true => (match F x with
      | .ok y => (fpT C F xs).bind fun ys => .ok (y :: ys)
      | _ => .bad)
    | .ok false => fpT C F xs
    | _ => .bad
def cmT (xs : List α) (F : α → R β) : R (List β) := (mpT F xs).bind fun ys => if ys.length ≤ sizeLine then .ok ys else .bad
def cfT (xs : List α) (C : α → R Bool) (F : α → R β) : R (List β) := (fpT C F xs).bind fun ys => if ys.length ≤ sizeLine then .ok ys else .bad
theorem fpT_no {C : α → R Bool} {F : α → R β} : ∀ (xs : List α) c fs, fpT C F xs ≠ .err c fs
  | [], c, fs, h => by cases h
  | x :: xs, c, fs, h => by
    rw [fpT] at h
    cases hc : C x with
    | ok b =>
      rw [hc] at h
      cases b with
      | false => exact fpT_no xs c fs h
      | true =>
        cases hf : F x with
        | ok y =>
          rw [hf] at h
          cases hr : fpT C F xs with
          | ok ys => rw [hr] at h; cases h
          | err c' fs' => exact fpT_no xs c' fs' hr
          | bad => rw [hr] at h; cases h
        | err _ _ => rw [hf] at h; cases h
        | bad => rw [hf] at h; cases h
    | err _ _ => rw [hc] at h; cases h
    | bad => rw [hc] at h; cases h
theorem fpT_ok {g : D → R (Option D)} {C : α → R Bool} {F : α → R β} {e : α → D} {e' : β → D} (h : ∀ x, (C x = .ok false → g (e x) = .ok none) ∧ ∀ y, C x = .ok true → F x = .ok y → g (e x) = .ok (some (e' y))) : ∀ (xs : List α) (ys : List β), fpT C F xs = .ok ys → compR g (xs.map e) = .ok (ys.map e')
  | [], ys, q => by cases q; rfl
  | x :: xs, ys, q => by
    rw [fpT] at q
    cases hc : C x with
    | ok b =>
      rw [hc] at q
      cases b with
      | false =>
        rw [List.map_cons, compR, (h x).1 hc, R.bind_ok, fpT_ok h xs ys q]; rfl
      | true =>
        cases hf : F x with
        | ok y =>
          rw [hf] at q
          cases hr : fpT C F xs with
          | ok zs =>
            rw [hr] at q
            cases q
            rw [List.map_cons, compR, (h x).2 y hc hf, R.bind_ok, fpT_ok h xs zs hr]; rfl
          | err _ _ => rw [hr] at q; cases q
          | bad => rw [hr] at q; cases q
        | err _ _ => rw [hf] at q; cases q
        | bad => rw [hf] at q; cases q
    | err _ _ => rw [hc] at q; cases q
    | bad => rw [hc] at q; cases q
theorem mpT_fpT {F : α → R β} : ∀ xs : List α, mpT F xs = fpT (fun _ => .ok true) F xs
  | [] => rfl
  | x :: xs => by rw [mpT, fpT, mpT_fpT xs]
theorem rf_cf {vs : List Nat} {p : Pat} {fi : Sl → R (List D)} {fc fe : Sl → R D} {m : R (List α)} {C : α → R Bool} {F : α → R β} (hi : Ri (fi σ) m e) (hb : ∀ x, ∃ σ1, bindP (wipeL σ vs) p (e x) = .ok σ1 ∧ Rf (fc σ1) (C x) D.bl ∧ Rf (fe σ1) (F x) e') : Rf (eComp vs p fi fc fe σ) (m.bind fun xs => cfT xs C F) (eLs true e') := by
  cases m with
  | bad => exact True.intro
  | err c fs => unfold eComp; rw [show fi σ = .err c fs from hi]; exact rfl
  | ok xs =>
    unfold eComp
    rw [show fi σ = .ok (xs.map e) from hi, R.bind_ok, R.bind_ok]
    unfold cfT
    cases hf : fpT C F xs with
    | bad => exact True.intro
    | err c fs => exact absurd hf (fpT_no xs c fs)
    | ok ys =>
      rw [fpT_ok (g := cBody vs p fc fe σ) (fun x => ?_) xs ys hf, R.bind_ok, R.bind_ok]
      · exact .guard (by rw [List.length_map]; exact id) rfl
      · obtain ⟨σ1, b, hc, he⟩ := hb x
        unfold cBody
        rw [b, R.bind_ok]
        refine ⟨fun q => ?_, fun y q q2 => ?_⟩
        · rw [q] at hc; rw [show fc σ1 = .ok (.bl false) from hc]; rfl
        · rw [q] at hc; rw [q2] at he; rw [show fc σ1 = .ok (.bl true) from hc]; simp only [R.bind_ok, boolOf_bl, if_pos]; rw [show fe σ1 = .ok (e' y) from he]; rfl
theorem rf_cm {vs : List Nat} {p : Pat} {fi : Sl → R (List D)} {fe : Sl → R D} {m : R (List α)} {F : α → R β} (hi : Ri (fi σ) m e) (hb : ∀ x, ∃ σ1, bindP (wipeL σ vs) p (e x) = .ok σ1 ∧ Rf (fe σ1) (F x) e') : Rf (eComp vs p fi eT fe σ) (m.bind fun xs => cmT xs F) (eLs true e') := by
  have q := rf_cf (C := fun _ => .ok true) hi fun x => by
    obtain ⟨σ1, b, h⟩ := hb x
    exact ⟨σ1, b, rfl, h⟩
  unfold cfT at q
  unfold cmT
  simp only [mpT_fpT]
  exact q
inductive O (S L α : Type) where
  | nx (s : S) | rt (a : α) | bk (l : L) | ct (l : L) | er (c : Nat) (fs : List D) | bad
def bnd (m : R β) (M : β → O S L α) : O S L α :=
  match m with
  | .ok a => M a
  | .err c fs => .er c fs
  | .bad => .bad
def O.thn (m : O S L α) (M : S → O S' L α) : O S' L α :=
  match m with
  | .nx s => M s
  | .rt a => .rt a
  | .bk l => .bk l
  | .ct l => .ct l
  | .er c fs => .er c fs
  | .bad => .bad
def runO (m : O S L α) : R α :=
  match m with
  | .rt a => .ok a
  | .er c fs => .err c fs
  | _ => .bad
def forT : List β → (β → S → O S S α) → S → O S L α
  | [], _, s => .nx s
  | x :: xs, F, s => match F x s with
    | .nx s' => forT xs F s'
    | .ct s' => forT xs F s'
    | .bk s' => .nx s'
    | .rt a => .rt a
    | .er c fs => .er c fs
    | .bad => .bad
def apT (xs : List α) (a : α) : R (List α) := if xs.length < sizeLine then .ok (xs ++ [a]) else .bad
def Gs (I : S → Sl → Prop) (J : L → Sl → Prop) (E : Sl → Prop) (e : α → D) (r : RS) (m : O S L α) : Prop :=
  match m with
  | .nx s => ∃ σ', r = .nx σ' ∧ I s σ'
  | .rt a => r = .rt (e a)
  | .bk l => ∃ σ', r = .bk σ' ∧ J l σ'
  | .ct l => ∃ σ', r = .ct σ' ∧ J l σ'
  | .er c fs => ∃ σ', r = .er c fs σ' ∧ E σ'
  | .bad => True
variable {I : S → Sl → Prop} {I' : S' → Sl → Prop} {J : L → Sl → Prop} {E : Sl → Prop} {K F G : SF}
theorem andThen_nx (r : RS) : r.andThen .nx = r := by cases r <;> rfl
theorem g_last {M : O S L α} (h : Gs I J E e ((F σ).andThen .nx) M) : Gs I J E e (F σ) M := by rw [andThen_nx] at h; exact h
theorem g_fun {M : O Unit Unit α} (h : Gs (fun _ _ => True) (fun _ _ => True) (fun _ => True) e (F σ) M) : Rf (resR (F σ)) (runO M) e := by
  cases M with
  | rt a => exact (congrArg resR (show F σ = .rt (e a) from h))
  | er c fs => obtain ⟨σ', q, _⟩ := h; exact congrArg resR q
  | _ => exact True.intro
theorem g_seq {M : O S L α} (h : Gs I J E e ((F σ).andThen fun σ => (G σ).andThen K) M) : Gs I J E e ((sSeq F G σ).andThen K) M := by
  have : (sSeq F G σ).andThen K = (F σ).andThen fun σ => (G σ).andThen K := by
    unfold sSeq
    cases F σ <;> rfl
  rw [this]; exact h
theorem g_nx {s : S} (h : I s σ) : Gs I J E e (RS.nx σ) (.nx s) := ⟨σ, rfl, h⟩
theorem g_skip {M : O S L α} (h : Gs I J E e (K σ) M) : Gs I J E e ((sSkip σ).andThen K) M := h
theorem g_val {m : R β} {k : D → RS} {M : β → O S L α} (h : Rf (f σ) m e') (hE : E σ) (h2 : ∀ a, Gs I J E e ((k (e' a)).andThen K) (M a)) : Gs I J E e ((rS (f σ) σ k).andThen K) (bnd m M) := by
  cases m with
  | ok a => rw [show f σ = .ok (e' a) from h]; exact h2 a
  | err c fs => rw [show f σ = .err c fs from h]; exact ⟨σ, rfl, hE⟩
  | bad => exact True.intro
theorem g_set {i : Nat} {m : R β} {M : β → O S L α} (h : Rf (f σ) m e') (hE : E σ) (h2 : ∀ a, Gs I J E e (K (σ.set i (some (e' a)))) (M a)) : Gs I J E e ((sSet i f σ).andThen K) (bnd m M) := g_val h hE h2
theorem g_app {i : Nat} {m : R β} {xs : List β} {M : List β → O S L α} (e' : β → D) (hx : getS σ i = .ok (eLs true e' xs)) (h : Rf (f σ) m e') (hE : E σ) (h2 : ∀ ys, Gs I J E e (K (σ.set i (some (eLs true e' ys)))) (M ys)) : Gs I J E e ((sApp i f σ).andThen K) (bnd m fun a => bnd (apT xs a) M) := by
  have q : sApp i f σ = rS (f σ) σ fun y => if (xs.map e').length < sizeLine then .nx (σ.set i (some (.lst true (xs.map e' ++ [y])))) else .bad := by
    rw [u_sApp, hx]; rfl
  rw [q]
  refine g_val h hE fun a => ?_
  unfold apT
  by_cases hl : xs.length < sizeLine
  · rw [if_pos (by rw [List.length_map]; exact hl), if_pos hl]
    have := h2 (xs ++ [a])
    unfold eLs at this
    rw [List.map_append] at this
    exact this
  · rw [if_neg hl]; exact True.intro
theorem g_fz {i : Nat} {M : O S L α} {a : β} {e1 : β → D} (e' : β → D) (hx : getS σ i = .ok (e' a)) (z : Fz e' e1) (h : Gs I J E e ((G (σ.set i (some (e1 a)))).andThen K) M) : Gs I J E e ((sFz i G σ).andThen K) M := by
  rw [u_sFz, hx]
  show Gs I J E e ((G (σ.set i (some (frz (e' a))))).andThen K) M
  rw [z a]; exact h
theorem g_if {m : R Bool} {M1 M2 : O S L α} (h : Rf (c σ) m D.bl) (hE : E σ) (h1 : Gs I J E e ((F σ).andThen K) M1) (h2 : Gs I J E e ((G σ).andThen K) M2) : Gs I J E e ((sIf c F G σ).andThen K) (bnd m fun b => if b = true then M1 else M2) := by
  rw [u_sIf]
  refine g_val h hE fun b => ?_
  cases b
  · exact h2
  · exact h1
theorem g_ret {m : R α} (h : Rf (f σ) m e) (hE : E σ) : Gs I J E e ((sRet f σ).andThen K) (bnd m .rt) := by
  rw [u_sRet]
  exact g_val h hE fun a => rfl
theorem g_drop {m : R β} {M : O S L α} (h : Rf (f σ) m e') (hE : E σ) (h2 : Gs I J E e (K σ) M) : Gs I J E e ((sDrop f σ).andThen K) (bnd m fun _ => M) := by
  rw [u_sDrop]; exact g_val h hE fun a => h2
theorem g_thn {M : S' → O S L α} {n : O S' L α} (h : Gs I' J E e (F σ) n) (h2 : ∀ s σ', I' s σ' → Gs I J E e (K σ') (M s)) : Gs I J E e ((F σ).andThen K) (n.thn M) := by
  cases n with
  | nx s => obtain ⟨σ', q, i⟩ := h; rw [q]; exact h2 s σ' i
  | rt a => rw [show F σ = .rt (e a) from h]; exact rfl
  | bk l => obtain ⟨σ', q, i⟩ := h; rw [q]; exact ⟨σ', rfl, i⟩
  | ct l => obtain ⟨σ', q, i⟩ := h; rw [q]; exact ⟨σ', rfl, i⟩
  | er c fs => obtain ⟨σ', q, i⟩ := h; rw [q]; exact ⟨σ', rfl, i⟩
  | bad => exact True.intro
theorem g_fr {p : Pat} {B : β → S → O S S α} (hb : ∀ x s σ, I s σ → ∃ σ1, bindP σ p (e' x) = .ok σ1 ∧ Gs I I E e (F σ1) (B x s)) : ∀ (xs : List β) (s : S) (σ : Sl), I s σ → Gs I J E e (fr p F (xs.map e') σ) (forT xs B s : O S L α)
  | [], s, σ, hi => ⟨σ, rfl, hi⟩
  | x :: xs, s, σ, hi => by
    have ih := fun s' σ' (i : I s' σ') => g_fr hb xs s' σ' i
    rw [forT, List.map_cons, fr]
    obtain ⟨σ1, q1, b⟩ := hb x s σ hi
    rw [q1, rS_ok]
    cases hB : B x s with
    | nx s' => rw [hB] at b; obtain ⟨σ', q, i⟩ := b; rw [q]; exact ih s' σ' i
    | ct s' => rw [hB] at b; obtain ⟨σ', q, i⟩ := b; rw [q]; exact ih s' σ' i
    | bk s' => rw [hB] at b; obtain ⟨σ', q, i⟩ := b; rw [q]; exact ⟨σ', rfl, i⟩
    | rt a => rw [hB] at b; rw [show F σ1 = .rt (e a) from b]; exact rfl
    | er cc fs => rw [hB] at b; obtain ⟨σ', q, i⟩ := b; rw [q]; exact ⟨σ', rfl, i⟩
    | bad => exact True.intro
theorem g_for {p : Pat} {src : Sl → R (List D)} {B : β → S → O S S α} {m : R (List β)} {s : S} (hs : Ri (src σ) m e') (hi : I s σ) (hE : E σ) (hb : ∀ x s σ, I s σ → ∃ σ1, bindP σ p (e' x) = .ok σ1 ∧ Gs I I E e (F σ1) (B x s)) : Gs I J E e (sFor p src F σ) (bnd m fun xs => (forT xs B s : O S L α)) := by
  unfold sFor
  cases m with
  | ok xs => rw [show src σ = .ok (xs.map e') from hs]; exact g_fr hb xs s σ hi
  | err c fs => rw [show src σ = .err c fs from hs]; exact ⟨σ, rfl, hE⟩
  | bad => exact True.intro
end
end DI
namespace DI
open PySem
section
variable {α β γ δ ε S S' L L' : Type} {σ : Sl} {f k c : Sl → R D} {e : α → D} {e' : β → D} {I : S → Sl → Prop} {J : L → Sl → Prop} {E : Sl → Prop} {K F G : SF}
theorem g_ifP {b : Bool} {M1 M2 : O S L α} (h : Rf (c σ) (.ok b) D.bl) (h1 : Gs I J E e ((F σ).andThen K) M1) (h2 : Gs I J E e ((G σ).andThen K) M2) : Gs I J E e ((sIf c F G σ).andThen K) (if b = true then M1 else M2) := by
  rw [u_sIf, show c σ = .ok (.bl b) from h]
  cases b
  · exact h2
  · exact h1
theorem g_retP {a : α} (h : Rf (f σ) (.ok a) e) : Gs I J E e ((sRet f σ).andThen K) (.rt a) := by
  rw [u_sRet, show f σ = .ok (e a) from h]
  exact rfl
theorem g_retR {i : Nat} {m : R α} (h : Rf (eV i σ) m e) (hE : E σ) : Gs I J E e ((sRetV i σ).andThen K) (bnd m .rt) := by
  rw [u_sRetV]
  exact g_val (f := eV i) h hE fun a => rfl
theorem g_appP {i : Nat} {a : β} {xs : List β} {M : List β → O S L α} (e' : β → D) (hx : getS σ i = .ok (eLs true e' xs)) (h : Rf (f σ) (.ok a) e') (hE : E σ) (h2 : ∀ ys, Gs I J E e (K (σ.set i (some (eLs true e' ys)))) (M ys)) : Gs I J E e ((sApp i f σ).andThen K) (bnd (apT xs a) M) :=
  g_app e' hx h hE h2
theorem g_forP {p : Pat} {src : Sl → R (List D)} {B : β → S → O S S α} {xs : List β} {s : S} (hs : Ri (src σ) (.ok xs) e') (hi : I s σ) (hE : E σ) (hb : ∀ x s σ, I s σ → ∃ σ1, bindP σ p (e' x) = .ok σ1 ∧ Gs I I E e (F σ1) (B x s)) : Gs I J E e (sFor p src F σ) ((forT xs B s : O S L α)) :=
  g_for hs hi hE hb
theorem k_str (s : String) : D.str (Str.ofString s) = eSt s.toList := congrArg D.str (Str.ofString_eq_toList s)
theorem wd_id : Wd e e (fun a => a) := fun _ => rfl
theorem wd_ti : Wd D.int eTu Sum.inl := fun _ => rfl
theorem wd_ts : Wd eSt eTu Sum.inr := fun _ => rfl
theorem wd_some : Wd e (eOp e) some := fun _ => rfl
theorem wd_none : Wd eNon (eOp e) (fun _ => none) := fun _ => rfl
theorem wd_q2 {α2 : Type} {f : α2 → D} {w : α → β} {w2 : α2 → β} (h : Wd e e' w) (h2 : Wd f e' w2) : Wd (eT2 e f) (eSq e') (fun p => [w p.1, w2 p.2]) := fun a => by unfold eT2 eSq; rw [List.map_cons, List.map_cons, h, h2]; rfl
def tuI : Turn → R Int
  | .inl i => .ok i
  | .inr _ => .bad
theorem nw_tuI : Nw eTu D.int tuI := fun a => by cases a; exact rfl; exact True.intro
theorem tu_isInt : ∀ a, isTy .int (eTu a) = .ok a.isLeft := fun a => by cases a <;> rfl
end
end DI
namespace DI
open PySem
section
variable {σ : Sl} {f k l : Sl → R D}
theorem rf_lt {m n : R Int} (h : Rf (f σ) m D.int) (h2 : Rf (k σ) n D.int) : Rf (eC .lt f k σ) (m.bind fun i => n.bind fun j => .ok (decide (i < j))) D.bl := h.bind fun _ => h2.bind fun _ => rfl
theorem rf_gt {m n : R Int} (h : Rf (f σ) m D.int) (h2 : Rf (k σ) n D.int) : Rf (eC .gt f k σ) (m.bind fun i => n.bind fun j => .ok (decide (j < i))) D.bl := h.bind fun _ => h2.bind fun _ => rfl
theorem rf_ge {m n : R Int} (h : Rf (f σ) m D.int) (h2 : Rf (k σ) n D.int) : Rf (eC .ge f k σ) (m.bind fun i => n.bind fun j => .ok (decide (j ≤ i))) D.bl := h.bind fun _ => h2.bind fun _ => rfl
theorem rf_cc_lelt {m n : R Int} {z : Int} (h : Rf (f σ) m D.int) (h2 : Rf (k σ) n D.int) (h3 : Rf (l σ) (.ok z) D.int) : Rf (eCC .le .lt f k l σ) (m.bind fun i => n.bind fun j => .ok (decide (i ≤ j) && decide (j < z))) D.bl := h.bind fun i => h2.bind fun j => by
  rw [show cmpD .le (.int i) (.int j) = .ok (decide (i ≤ j)) from rfl, R.bind_ok, show l σ = .ok (.int z) from h3]
  by_cases q : i ≤ j <;> simp [q] <;> exact rfl
end
end DI
namespace DI
open PySem
section
variable {α β γ δ ε ζ η α' β' : Type} {σ : Sl} {f k l : Sl → R D} {e : α → D} {e' : β → D}
theorem rf_neg_p  {i : Int}  (h0 : Rf (f σ) (.ok i) D.int) : Rf (eNeg f σ) (.ok (-i)) D.int := rf_neg  h0
theorem rf_neg_m  {m0 : R (Int)}  (h0 : Rf (f σ) m0 D.int) : Rf (eNeg f σ) (m0.bind fun i => .ok (-i)) D.int := rf_neg  h0
theorem rf_not_p  {i : Bool}  (h0 : Rf (f σ) (.ok i) D.bl) : Rf (eNot f σ) (.ok (!i)) D.bl := rf_not  h0
theorem rf_not_m  {m0 : R (Bool)}  (h0 : Rf (f σ) m0 D.bl) : Rf (eNot f σ) (m0.bind fun i => .ok (!i)) D.bl := rf_not  h0
theorem rf_add_pp  {i : Int} {j : Int}  (h0 : Rf (f σ) (.ok i) D.int) (h1 : Rf (k σ) (.ok j) D.int) : Rf (eB .add f k σ) (.ok (i + j)) D.int := rf_add  h0 h1
theorem rf_add_mp  {m0 : R (Int)} {j : Int}  (h0 : Rf (f σ) m0 D.int) (h1 : Rf (k σ) (.ok j) D.int) : Rf (eB .add f k σ) (m0.bind fun i => .ok (i + j)) D.int := rf_add  h0 h1
theorem rf_add_mm  {m0 : R (Int)} {m1 : R (Int)}  (h0 : Rf (f σ) m0 D.int) (h1 : Rf (k σ) m1 D.int) : Rf (eB .add f k σ) (m0.bind fun i => m1.bind fun j => .ok (i + j)) D.int := rf_add  h0 h1
theorem rf_sub_pp  {i : Int} {j : Int}  (h0 : Rf (f σ) (.ok i) D.int) (h1 : Rf (k σ) (.ok j) D.int) : Rf (eB .sub f k σ) (.ok (i - j)) D.int := rf_sub  h0 h1
theorem rf_mul_pp  {i : Int} {j : Int}  (h0 : Rf (f σ) (.ok i) D.int) (h1 : Rf (k σ) (.ok j) D.int) : Rf (eB .mul f k σ) (mulT i j) D.int := rf_mul  h0 h1
theorem rf_fdiv_pp  {i : Int} {j : Int}  (h0 : Rf (f σ) (.ok i) D.int) (h1 : Rf (k σ) (.ok j) D.int) : Rf (eB .fdiv f k σ) (fdivT i j) D.int := rf_fdiv  h0 h1
theorem rf_fdiv_mp  {m0 : R (Int)} {j : Int}  (h0 : Rf (f σ) m0 D.int) (h1 : Rf (k σ) (.ok j) D.int) : Rf (eB .fdiv f k σ) (m0.bind fun i => fdivT i j) D.int := rf_fdiv  h0 h1
theorem rf_mod_pp  {i : Int} {j : Int}  (h0 : Rf (f σ) (.ok i) D.int) (h1 : Rf (k σ) (.ok j) D.int) : Rf (eB .mod f k σ) (modT i j) D.int := rf_mod  h0 h1
theorem rf_mod_pm  {i : Int} {m1 : R (Int)}  (h0 : Rf (f σ) (.ok i) D.int) (h1 : Rf (k σ) m1 D.int) : Rf (eB .mod f k σ) (m1.bind fun j => modT i j) D.int := rf_mod  h0 h1
theorem rf_pow_pp  {i : Int} {j : Int}  (h0 : Rf (f σ) (.ok i) D.int) (h1 : Rf (k σ) (.ok j) D.int) : Rf (eB .pow f k σ) (powT i j) D.int := rf_pow  h0 h1
theorem rf_mulR_p {j : Int} {i : Int} (b : -18446744073709551616 < j ∧ j < 18446744073709551616) (h0 : Rf (f σ) (.ok i) D.int) : Rf (eB .mul f (eK (.int j)) σ) (.ok (i * j)) D.int := rf_mulR b h0
theorem rf_mulR_m {j : Int} {m0 : R (Int)} (b : -18446744073709551616 < j ∧ j < 18446744073709551616) (h0 : Rf (f σ) m0 D.int) : Rf (eB .mul f (eK (.int j)) σ) (m0.bind fun i => .ok (i * j)) D.int := rf_mulR b h0
theorem rf_mulL_p {j : Int} {i : Int} (b : -18446744073709551616 < j ∧ j < 18446744073709551616) (h0 : Rf (f σ) (.ok i) D.int) : Rf (eB .mul (eK (.int j)) f σ) (.ok (j * i)) D.int := rf_mulL b h0
theorem rf_fdivK_p {j : Int} {i : Int} (b : 0 < j ∧ j < 18446744073709551616) (h0 : Rf (f σ) (.ok i) D.int) : Rf (eB .fdiv f (eK (.int j)) σ) (.ok (i / j)) D.int := rf_fdivK b h0
theorem rf_modK_p {j : Int} {i : Int} (b : 0 < j) (h0 : Rf (f σ) (.ok i) D.int) : Rf (eB .mod f (eK (.int j)) σ) (.ok (i % j)) D.int := rf_modK b h0
theorem rf_modK_m {j : Int} {m0 : R (Int)} (b : 0 < j) (h0 : Rf (f σ) m0 D.int) : Rf (eB .mod f (eK (.int j)) σ) (m0.bind fun i => .ok (i % j)) D.int := rf_modK b h0
theorem rf_eq_pp [DecidableEq α] {e2 : α → D} {p : α → PyData} {u u' : Nat} {a : α} {b : α} (h : PyE e p u) (h' : PyE e2 p u') (q : PyQ p) (hn : u ≤ 64) (hn' : u' ≤ 64) (h0 : Rf (f σ) (.ok a) e) (h1 : Rf (k σ) (.ok b) e2) : Rf (eC .eq f k σ) (.ok (decide (a = b))) D.bl := rf_eq h h' q hn hn' h0 h1
theorem rf_eq_mp [DecidableEq α] {e2 : α → D} {p : α → PyData} {u u' : Nat} {m0 : R (α)} {b : α} (h : PyE e p u) (h' : PyE e2 p u') (q : PyQ p) (hn : u ≤ 64) (hn' : u' ≤ 64) (h0 : Rf (f σ) m0 e) (h1 : Rf (k σ) (.ok b) e2) : Rf (eC .eq f k σ) (m0.bind fun a => .ok (decide (a = b))) D.bl := rf_eq h h' q hn hn' h0 h1
theorem rf_ne_pm [DecidableEq α] {e2 : α → D} {p : α → PyData} {u u' : Nat} {a : α} {m1 : R (α)} (h : PyE e p u) (h' : PyE e2 p u') (q : PyQ p) (hn : u ≤ 64) (hn' : u' ≤ 64) (h0 : Rf (f σ) (.ok a) e) (h1 : Rf (k σ) m1 e2) : Rf (eC .ne f k σ) (m1.bind fun b => .ok (!decide (a = b))) D.bl := rf_ne h h' q hn hn' h0 h1
theorem rf_inQ_pp [DecidableEq α] {e2 : α → D} {p : α → PyData} {u u' : Nat} {a : α} {b : List α} (h : PyE e p u) (h' : PyE e2 p u') (q : PyQ p) (hn : u ≤ 63) (hn' : u' ≤ 63) (h0 : Rf (f σ) (.ok a) e) (h1 : Rf (k σ) (.ok b) (eSq e2)) : Rf (eC .mem f k σ) (.ok (decide (a ∈ b))) D.bl := rf_inQ h h' q hn hn' h0 h1
theorem rf_inQ_mp [DecidableEq α] {e2 : α → D} {p : α → PyData} {u u' : Nat} {m0 : R (α)} {b : List α} (h : PyE e p u) (h' : PyE e2 p u') (q : PyQ p) (hn : u ≤ 63) (hn' : u' ≤ 63) (h0 : Rf (f σ) m0 e) (h1 : Rf (k σ) (.ok b) (eSq e2)) : Rf (eC .mem f k σ) (m0.bind fun a => .ok (decide (a ∈ b))) D.bl := rf_inQ h h' q hn hn' h0 h1
theorem rf_ninQ_pp [DecidableEq α] {e2 : α → D} {p : α → PyData} {u u' : Nat} {a : α} {b : List α} (h : PyE e p u) (h' : PyE e2 p u') (q : PyQ p) (hn : u ≤ 63) (hn' : u' ≤ 63) (h0 : Rf (f σ) (.ok a) e) (h1 : Rf (k σ) (.ok b) (eSq e2)) : Rf (eC .nmem f k σ) (.ok (!decide (a ∈ b))) D.bl := rf_ninQ h h' q hn hn' h0 h1
theorem rf_ninQ_mp [DecidableEq α] {e2 : α → D} {p : α → PyData} {u u' : Nat} {m0 : R (α)} {b : List α} (h : PyE e p u) (h' : PyE e2 p u') (q : PyQ p) (hn : u ≤ 63) (hn' : u' ≤ 63) (h0 : Rf (f σ) m0 e) (h1 : Rf (k σ) (.ok b) (eSq e2)) : Rf (eC .nmem f k σ) (m0.bind fun a => .ok (!decide (a ∈ b))) D.bl := rf_ninQ h h' q hn hn' h0 h1
theorem rf_isi_p {b : α → Bool} {t : Ty} {a : α} (hb : ∀ a, isTy t (e a) = .ok (b a)) (h0 : Rf (f σ) (.ok a) e) : Rf (eIsi t f σ) (.ok (b a)) D.bl := rf_isi b hb h0
theorem rf_lt_pp  {i : Int} {j : Int}  (h0 : Rf (f σ) (.ok i) D.int) (h1 : Rf (k σ) (.ok j) D.int) : Rf (eC .lt f k σ) (.ok (decide (i < j))) D.bl := rf_lt  h0 h1
theorem rf_gt_pp  {i : Int} {j : Int}  (h0 : Rf (f σ) (.ok i) D.int) (h1 : Rf (k σ) (.ok j) D.int) : Rf (eC .gt f k σ) (.ok (decide (j < i))) D.bl := rf_gt  h0 h1
theorem rf_gt_pm  {i : Int} {m1 : R (Int)}  (h0 : Rf (f σ) (.ok i) D.int) (h1 : Rf (k σ) m1 D.int) : Rf (eC .gt f k σ) (m1.bind fun j => .ok (decide (j < i))) D.bl := rf_gt  h0 h1
theorem rf_ge_pp  {i : Int} {j : Int}  (h0 : Rf (f σ) (.ok i) D.int) (h1 : Rf (k σ) (.ok j) D.int) : Rf (eC .ge f k σ) (.ok (decide (j ≤ i))) D.bl := rf_ge  h0 h1
theorem rf_cc_lelt_pm {i : Int} {mj : R Int} {z : Int} (h : Rf (f σ) (.ok i) D.int) (h2 : Rf (k σ) mj D.int) (h3 : Rf (l σ) (.ok z) D.int) : Rf (eCC .le .lt f k l σ) (mj.bind fun j => .ok (decide (i ≤ j) && decide (j < z))) D.bl := rf_cc_lelt h h2 h3
theorem rf_ixL_pp {o : Bool} {xs : List α} {i : Int}  (h0 : Rf (f σ) (.ok xs) (eLs o e)) (h1 : Rf (k σ) (.ok i) D.int) : Rf (eIx f k σ) (ofR (L2.atI xs i)) e := rf_ixL  h0 h1
theorem rf_ixL_mp {o : Bool} {m0 : R (List α)} {i : Int}  (h0 : Rf (f σ) m0 (eLs o e)) (h1 : Rf (k σ) (.ok i) D.int) : Rf (eIx f k σ) (m0.bind fun xs => ofR (L2.atI xs i)) e := rf_ixL  h0 h1
theorem rf_ixQ_pp  {xs : List α} {i : Int}  (h0 : Rf (f σ) (.ok xs) (eSq e)) (h1 : Rf (k σ) (.ok i) D.int) : Rf (eIx f k σ) (ofR (L2.atI xs i)) e := rf_ixQ  h0 h1
theorem rf_ix2_0_p {e1 : α → D} {e2 : β → D} {p : α × β}  (h0 : Rf (f σ) (.ok p) (eT2 e1 e2)) : Rf (eIx f (eK (.int 0)) σ) (.ok (p.1)) e1 := rf_ix2_0  h0
theorem rf_ix2_0_m {e1 : α → D} {e2 : β → D} {m0 : R (α × β)}  (h0 : Rf (f σ) m0 (eT2 e1 e2)) : Rf (eIx f (eK (.int 0)) σ) (m0.bind fun p => .ok (p.1)) e1 := rf_ix2_0  h0
theorem rf_ix2_1_p {e1 : α → D} {e2 : β → D} {p : α × β}  (h0 : Rf (f σ) (.ok p) (eT2 e1 e2)) : Rf (eIx f (eK (.int 1)) σ) (.ok (p.2)) e2 := rf_ix2_1  h0
theorem rf_ix3_0_p {e1 : α → D} {e2 : β → D} {e3 : γ → D} {p : α × β × γ}  (h0 : Rf (f σ) (.ok p) (eT3 e1 e2 e3)) : Rf (eIx f (eK (.int 0)) σ) (.ok (p.1)) e1 := rf_ix3_0  h0
theorem rf_ix3_1_p {e1 : α → D} {e2 : β → D} {e3 : γ → D} {p : α × β × γ}  (h0 : Rf (f σ) (.ok p) (eT3 e1 e2 e3)) : Rf (eIx f (eK (.int 1)) σ) (.ok (p.2.1)) e2 := rf_ix3_1  h0
theorem rf_ix3_1_m {e1 : α → D} {e2 : β → D} {e3 : γ → D} {m0 : R (α × β × γ)}  (h0 : Rf (f σ) m0 (eT3 e1 e2 e3)) : Rf (eIx f (eK (.int 1)) σ) (m0.bind fun p => .ok (p.2.1)) e2 := rf_ix3_1  h0
theorem rf_ix3_2_p {e1 : α → D} {e2 : β → D} {e3 : γ → D} {p : α × β × γ}  (h0 : Rf (f σ) (.ok p) (eT3 e1 e2 e3)) : Rf (eIx f (eK (.int 2)) σ) (.ok (p.2.2)) e3 := rf_ix3_2  h0
theorem ri_r1_p  {n : Int}  (h0 : Rf (f σ) (.ok n) D.int) : Ri (iR1 (aC f aN) σ) (rngT n) D.int := ri_r1  h0
theorem ri_L_p {o : Bool} {xs : List α} (c : Cl e) (h0 : Rf (f σ) (.ok xs) (eLs o e)) : Ri (iSeq' f σ) (.ok (xs)) e := ri_L c h0
theorem ri_Q_p  {xs : List α} (c : Cl e) (h0 : Rf (f σ) (.ok xs) (eSq e)) : Ri (iSeq' f σ) (.ok (xs)) e := ri_Q c h0
theorem ri_enL_p {o : Bool} {xs : List α} (c : Cl e) (h0 : Rf (f σ) (.ok xs) (eLs o e)) : Ri (iEn (aC f aN) σ) (.ok (enT 0 xs)) (eT2 D.int e) := ri_enL c h0
theorem rf_wid_p {r : R D} {a : α} (w : α → β) (h : Rf r (.ok a) e) (hw : Wd e e' w) : Rf r (.ok (w a)) e' := Rf.wid w h hw
theorem rf_wid_m {r : R D} {m : R α} (w : α → β) (h : Rf r m e) (hw : Wd e e' w) : Rf r (m.bind fun u => .ok (w u)) e' := Rf.wid w h hw
theorem rf_nar_p {r : R D} {a : α} (w : α → R β) (h : Rf r (.ok a) e) (hw : Nw e e' w) : Rf r (w a) e' := Rf.nar w h hw
theorem rf_and_p {i : Bool} {n : R Bool} (h : Rf (f σ) (.ok i) D.bl) (h2 : Rf (k σ) n D.bl) : Rf (eAnd f k σ) (if i = true then n else .ok false) D.bl := rf_and h h2
theorem rf_and_m {m n : R Bool} (h : Rf (f σ) m D.bl) (h2 : Rf (k σ) n D.bl) : Rf (eAnd f k σ) (m.bind fun i => if i = true then n else .ok false) D.bl := rf_and h h2
theorem rf_or_p {i : Bool} {n : R Bool} (h : Rf (f σ) (.ok i) D.bl) (h2 : Rf (k σ) n D.bl) : Rf (eOr f k σ) (if i = true then .ok true else n) D.bl := rf_or h h2
theorem rf_or_m {m n : R Bool} (h : Rf (f σ) m D.bl) (h2 : Rf (k σ) n D.bl) : Rf (eOr f k σ) (m.bind fun i => if i = true then .ok true else n) D.bl := rf_or h h2
theorem rf_andP_p {i b : Bool} (h : Rf (f σ) (.ok i) D.bl) (h2 : Rf (k σ) (.ok b) D.bl) : Rf (eAnd f k σ) (.ok (i && b)) D.bl := rf_andP h h2
theorem rf_andP_m {m : R Bool} {b : Bool} (h : Rf (f σ) m D.bl) (h2 : Rf (k σ) (.ok b) D.bl) : Rf (eAnd f k σ) (m.bind fun i => .ok (i && b)) D.bl := rf_andP h h2
theorem rf_orP_p {i b : Bool} (h : Rf (f σ) (.ok i) D.bl) (h2 : Rf (k σ) (.ok b) D.bl) : Rf (eOr f k σ) (.ok (i || b)) D.bl := rf_orP h h2
theorem rf_orP_m {m : R Bool} {b : Bool} (h : Rf (f σ) m D.bl) (h2 : Rf (k σ) (.ok b) D.bl) : Rf (eOr f k σ) (m.bind fun i => .ok (i || b)) D.bl := rf_orP h h2
theorem rf_cm_p {vs : List Nat} {p : Pat} {fi : Sl → R (List D)} {fe : Sl → R D} {xs : List α} {F : α → R β} (hi : Ri (fi σ) (.ok xs) e) (hb : ∀ x, ∃ σ1, bindP (wipeL σ vs) p (e x) = .ok σ1 ∧ Rf (fe σ1) (F x) e') : Rf (eComp vs p fi eT fe σ) (cmT xs F) (eLs true e') := rf_cm hi hb
theorem rl_consP {a : α} {as : List α} (h : Rf (f σ) (.ok a) e) (h2 : Rl (k σ) (.ok as) e) : Rl (aC f k σ) (.ok (a :: as)) e := rl_cons h h2
theorem rf_slL_p {o : Bool} {nb nc : Bool} {xs : List α} {lo hi : Option Int} (c : Cl e) (h : Rf (f σ) (.ok xs) (eLs o e)) (h1 : (k σ).bind (fun l' => partD (if nb = true then none else some l')) = .ok lo) (h2 : (l σ).bind (fun l' => partD (if nc = true then none else some l')) = .ok hi) : Rf (eSl f nb k nc l σ) (.ok (cutL xs lo hi)) (eLs true e) := rf_slL (lo := .ok lo) (hi := .ok hi) c h (fun i q => h1.trans q) (fun i q => h2.trans q) ne_no ne_no
theorem sl_noP {k : Sl → R D} (hk : k σ = .ok .non) : (k σ).bind (fun l' => partD (if true = true then none else some l')) = .ok none := by rw [hk]; rfl
theorem sl_yesP {i : Int} (hk : Rf (k σ) (.ok i) D.int) : (k σ).bind (fun l' => partD (if false = true then none else some l')) = .ok (some i) := by
  rw [show k σ = .ok (.int i) from hk]; rfl
end
end DI
namespace DI
open PySem
section
variable {α β γ S S' L : Type} {σ : Sl} {f k : Sl → R D} {e : α → D} {e' : β → D} {I : S → Sl → Prop} {J : L → Sl → Prop} {E : Sl → Prop} {K F G : SF}
theorem g_raise2 {c : Nat} {m : R β} {n : R γ} {e2 : γ → D} (cl : Cl e') (nf : Nf e') (cl2 : Cl e2) (nf2 : Nf e2) (h : Rf (f σ) m e') (h2 : Rf (k σ) n e2) (hE : E σ) : Gs I J E e ((sRaise c (aC f (aC k aN)) σ).andThen K) (bnd m fun a => bnd n fun b => (O.er c [e2 b, e' a] : O S L α)) := by
  have q : sRaise c (aC f (aC k aN)) σ = rS (f σ) σ fun x => rS (k σ) σ fun y => if (cleanL [x, y] && noFrzL [x, y]) = true then .er c [y, x] σ else .bad := by
    unfold sRaise
    simp only [u_aC, u_aN, R.bind_ok, tupOf_tup]
    cases f σ with
    | ok x => cases k σ <;> rfl
    | err _ _ => rfl
    | bad => rfl
  rw [q]
  refine g_val h hE fun a => ?_
  refine g_val h2 hE fun b => ?_
  rw [if_pos (by simp [cl a, nf a, cl2 b, nf2 b])]
  exact ⟨σ, rfl, hE⟩
end
end DI
namespace DI
open PySem
section
variable {α β γ S S' L L' : Type}
@[simp] theorem bnd_ok (a : β) (M : β → O S L α) : bnd (.ok a) M = M a := rfl
@[simp] theorem bnd_err (c : Nat) (fs : List D) (M : β → O S L α) : bnd (.err c fs) M = .er c fs := rfl
@[simp] theorem bnd_bad (M : β → O S L α) : bnd .bad M = .bad := rfl
@[simp] theorem thn_nx' (s : S) (M : S → O S' L α) : (O.nx s).thn M = M s := rfl
@[simp] theorem thn_rt' (a : α) (M : S → O S' L α) : (O.rt a : O S L α).thn M = .rt a := rfl
@[simp] theorem thn_bk' (a : L) (M : S → O S' L α) : (O.bk a : O S L α).thn M = .bk a := rfl
@[simp] theorem thn_ct' (a : L) (M : S → O S' L α) : (O.ct a : O S L α).thn M = .ct a := rfl
@[simp] theorem thn_er' (c : Nat) (fs : List D) (M : S → O S' L α) : (O.er c fs : O S L α).thn M = .er c fs := rfl
@[simp] theorem thn_bad' (M : S → O S' L α) : (O.bad : O S L α).thn M = .bad := rfl
@[simp] theorem runO_rt (a : α) : runO (O.rt a : O S L α) = .ok a := rfl
@[simp] theorem runO_er (c : Nat) (fs : List D) : runO (O.er c fs : O S L α) = .err c fs := rfl
@[simp] theorem runO_bad : runO (O.bad : O S L α) = .bad := rfl
@[simp] theorem forT_nil (F : β → S → O S S α) (s : S) : (forT [] F s : O S L α) = .nx s := rfl
theorem forT_cons (x : β) (xs : List β) (F : β → S → O S S α) (s : S) : (forT (x :: xs) F s : O S L α) = match F x s with
    | .nx s' => forT xs F s'
    | .ct s' => forT xs F s'
    | .bk s' => .nx s'
    | .rt a => .rt a
    | .er c fs => .er c fs
    | .bad => .bad := rfl
theorem szT_ok {n : Nat} (a : α) (h : n ≤ 1000000) : szT n a = .ok a := if_pos (le_line h)
theorem lenT_ok {s : St} (h : s.length ≤ 1000000) : lenT s = .ok (s.length : Int) := szT_ok _ h
theorem apT_ok {xs : List α} (a : α) (h : xs.length < 1000000) : apT xs a = .ok (xs ++ [a]) := if_pos (lt_line h)
theorem modT_ok (i : Int) {j : Int} (h : 0 < j) : modT i j = .ok (i % j) := if_pos h
theorem fdivT_ok (i : Int) {j : Int} (h : 0 < j) (h2 : j < 18446744073709551616) : fdivT i j = .ok (i / j) := if_pos ⟨h, log2_small h h2⟩
theorem mulT_R (i : Int) {j : Int} (h1 : -18446744073709551616 < j) (h2 : j < 18446744073709551616) : mulT i j = .ok (i * j) := by
  unfold mulT; rw [small64_of h1 h2, Bool.or_true, if_pos rfl]
theorem rngT_nat {n : Nat} (h : n < 1000000) : rngT (n : Int) = .ok (rg 0 n) := by
  unfold rngT
  rw [small62_of (by omega) (by omega), if_pos rfl, Int.toNat_natCast]
theorem rg_len (lo : Int) (n : Nat) : (rg lo n).length = n := by simp [rg]
theorem rg_get (n i : Nat) (lo : Int) : (rg lo n)[i]? = if i < n then some (lo + (i : Int)) else none := by
  unfold rg
  rw [List.getElem?_map]
  by_cases h : i < n
  · rw [List.getElem?_range h, if_pos h]; rfl
  · rw [List.getElem?_eq_none (by simp; omega), if_neg h]; rfl
theorem mpT_ok {F : α → R β} {g : α → β} : ∀ (xs : List α), (∀ x ∈ xs, F x = .ok (g x)) → mpT F xs = .ok (xs.map g)
  | [], _ => rfl
  | x :: xs, h => by
    rw [mpT, h x List.mem_cons_self]
    show (mpT F xs).bind _ = _
    rw [mpT_ok xs fun y hy => h y (List.mem_cons_of_mem _ hy)]
    rfl
theorem cmT_ok {F : α → R β} (g : α → β) {xs : List α} (h : ∀ x ∈ xs, F x = .ok (g x)) (hl : xs.length ≤ 1000000) : cmT xs F = .ok (xs.map g) := by
  unfold cmT
  rw [mpT_ok xs h, R.bind_ok, if_pos (by rw [List.length_map]; exact le_line hl)]
theorem at_ok {xs : List α} {i : Int} (h0 : 0 ≤ i) (h1 : i < xs.length) : ofR (L2.atI xs i) = .ok (xs[i.toNat]'(by omega)) := by
  obtain ⟨x, e, _, q⟩ := atI_ok h0 h1
  rw [e]
  rw [List.getElem?_eq_getElem (by omega)] at q
  cases q
  rfl
theorem at_get {xs : List α} {i : Int} {x : α} (h0 : 0 ≤ i) (h : xs[i.toNat]? = some x) : ofR (L2.atI xs i) = .ok x := by
  have hl : i.toNat < xs.length := (List.getElem?_eq_some_iff.mp h).1
  rw [at_ok h0 (by omega)]
  rw [List.getElem?_eq_getElem hl] at h
  cases h
  rfl
theorem at_ex {xs : List α} {i : Int} (h0 : 0 ≤ i) (h1 : i < xs.length) : ∃ x, ofR (L2.atI xs i) = .ok x ∧ x ∈ xs ∧ xs[i.toNat]? = some x :=
  ⟨_, at_ok h0 h1, List.getElem_mem _, List.getElem?_eq_getElem (by omega)⟩
@[simp] theorem at_2_0 (x y : α) : ofR (L2.atI [x, y] 0) = .ok x := rfl
@[simp] theorem at_2_1 (x y : α) : ofR (L2.atI [x, y] 1) = .ok y := rfl
def Wp (m : O S L α) (N : S → Prop) (C B : L → Prop) (Q : α → Prop) : Prop :=
  match m with
  | .nx s => N s
  | .ct l => C l
  | .bk l => B l
  | .rt a => Q a
  | _ => False
def Nope {S : Type} : S → Prop := fun _ => False
theorem wp_run {m : O S L α} {Q : α → Prop} (h : Wp m Nope Nope Nope Q) : ∃ a, runO m = .ok a ∧ Q a := by
  cases m with
  | rt a => exact ⟨a, rfl, h⟩
  | _ => exact h.elim
theorem wp_thn {m : O S L α} {M : S → O S' L α} {N : S' → Prop} {C B : L → Prop} {Q : α → Prop} (N' : S → Prop) (h : Wp m N' C B Q) (h2 : ∀ s, N' s → Wp (M s) N C B Q) : Wp (m.thn M) N C B Q := by
  cases m with
  | nx s => exact h2 s h
  | ct s => exact h
  | bk s => exact h
  | rt s => exact h
  | er _ _ => exact h.elim
  | bad => exact h.elim
theorem wp_forK {F : β → S → O S S α} {Q : α → Prop} {C B : L → Prop} {N : S → Prop} (P : Nat → S → Prop) : ∀ (xs : List β) (k : Nat) (s : S), P k s → (∀ i x s, xs[i]? = some x → P (k + i) s → Wp (F x s) (P (k + i + 1)) (P (k + i + 1)) N Q) → (∀ s, P (k + xs.length) s → N s) → Wp (forT xs F s : O S L α) N C B Q
  | [], k, s, h0, _, hn => hn s h0
  | x :: xs, k, s, h0, h, hn => by
    have q := h 0 x s rfl h0
    have go : ∀ s', P (k + 1) s' → Wp (forT xs F s' : O S L α) N C B Q := fun s' p => wp_forK P xs (k + 1) s' p (fun i y s hy hi => by
      have := h (i + 1) y s (by simpa using hy) (by rw [show k + (i + 1) = k + 1 + i by omega]; exact hi)
      rw [show k + (i + 1) + 1 = k + 1 + i + 1 by omega] at this
      exact this) (fun s p => hn s (by rw [List.length_cons, show k + (xs.length + 1) = k + 1 + xs.length by omega]; exact p))
    rw [forT_cons]
    cases e : F x s with
    | nx t => rw [e] at q; exact go t q
    | ct t => rw [e] at q; exact go t q
    | bk t => rw [e] at q; exact q
    | rt a => rw [e] at q; exact q
    | er _ _ => rw [e] at q; exact q.elim
    | bad => rw [e] at q; exact q.elim
theorem wp_for {F : β → S → O S S α} {M : S → O S' L α} {N : S' → Prop} {C B : L → Prop} {Q : α → Prop} {xs : List β} {s : S} (P : Nat → S → Prop) (h0 : P 0 s) (h : ∀ i x s, xs[i]? = some x → P i s → Wp (F x s) (P (i + 1)) (P (i + 1)) (P xs.length) Q) (h2 : ∀ s, P xs.length s → Wp (M s) N C B Q) : Wp (O.thn (forT xs F s : O S L α) M) N C B Q :=
  wp_thn (P xs.length) (wp_forK P xs 0 s h0 (fun i x s hx hi => by rw [Nat.zero_add] at hi ⊢; exact h i x s hx hi) (fun s p => by rw [Nat.zero_add] at p; exact p)) h2
end
end DI
namespace DI
open PySem
instance (priority := 2000) beqTurn : BEq Turn := instBEqOfDecidableEq
instance (priority := 2000) lawTurn : LawfulBEq Turn := inferInstanceAs (@LawfulBEq Turn instBEqOfDecidableEq)
end DI
namespace DI
open PySem
instance (priority := 2000) beqSt : BEq St := instBEqOfDecidableEq
instance (priority := 2000) lawSt : LawfulBEq St := inferInstanceAs (@LawfulBEq St instBEqOfDecidableEq)
section
variable {σ : Sl} {f k : Sl → R D}
theorem kt_2i (a b : Int) : D.tup [D.int a, D.int b] = eT2 D.int D.int (a, b) := rfl
end
end DI
namespace DI
open PySem
section
variable {σ : Sl} {F : SF}
def runN (m : O Unit Unit Unit) : R Unit := match m with
  | .nx _ => .ok ()
  | .er c fs => .err c fs
  | _ => .bad
theorem g_funN {M : O Unit Unit Unit} (h : Gs (fun _ _ => True) (fun _ _ => True) (fun _ => True) eNon (F σ) M) : Rf (resR (F σ)) (runN M) eNon := by
  cases M with
  | nx s => obtain ⟨σ', q, _⟩ := h; exact congrArg resR q
  | er c fs => obtain ⟨σ', q, _⟩ := h; exact congrArg resR q
  | _ => exact True.intro
end
end DI
namespace DI
open PySem
instance (priority := 2000) beqPr {α β : Type} [DecidableEq α] [DecidableEq β] : BEq (α × β) := instBEqOfDecidableEq
instance (priority := 2000) lawPr {α β : Type} [DecidableEq α] [DecidableEq β] : LawfulBEq (α × β) := inferInstanceAs (@LawfulBEq (α × β) instBEqOfDecidableEq)
end DI
namespace DI
open PySem
end DI
namespace DI
open PySem
instance (priority := high) beqOptDec {α : Type} [DecidableEq α] : BEq (Option α) := instBEqOfDecidableEq
end DI
namespace DI
open PySem
inductive En where
  | by_ (p r : Int) (b : List (List Int)) | out (p r : Int) (b : List (List Int)) | ever (p r f a : Int)
  deriving DecidableEq
def En.num : En → Nat
  | .by_ _ _ _ => 31 | .out _ _ _ => 32 | .ever _ _ _ _ => 33
def En.room : En → Int
  | .by_ _ r _ => r | .out _ r _ => r | .ever _ r _ _ => r
def En.first : En → R Int
  | .ever _ _ f _ => .ok f | _ => .bad
end DI
namespace DI
open PySem
end DI
namespace DI
open PySem
def okB {α : Type} : R α → R α
  | .ok a => .ok a
  | _ => .bad
@[simp] theorem okB_ok {α : Type} (a : α) : okB (R.ok a) = R.ok a := rfl
end DI
namespace DI
open PySem
abbrev RwL := Turn × List (List Int) × Turn
def eRw : RwL → D := fun p => .lst false [eTu p.1, eLs false (eLs false D.int) p.2.1, eTu p.2.2]
theorem cl_rw : Cl eRw := fun a => by
  unfold eRw
  rw [clean, cleanL, cleanL, cleanL, cleanL, cl_tu _, cl_tu _, cl_ls (cl_ls cl_int) _]
  rfl
section
variable {α β γ S L θ : Type} {σ : Sl} {f : Sl → R D} {I : S → Sl → Prop} {J : L → Sl → Prop} {E : Sl → Prop} {K : SF} {er : θ → D} {e' : β → D} {e1 : α → D} {e2 : β → D} {e3 : γ → D} {p : RwL} {m : R RwL}
theorem rf_rw_0_m (h : Rf (f σ) m eRw) : Rf (eIx f (eK (.int 0)) σ) (m.bind fun p => .ok p.1) eTu := by
  show Rf ((f σ).bind fun x => (eK (.int 0) σ).bind fun y => idxD x y) _ _
  exact h.bind fun _ => rfl
theorem rf_rw_1_m (h : Rf (f σ) m eRw) : Rf (eIx f (eK (.int 1)) σ) (m.bind fun p => .ok p.2.1) (eLs false (eLs false D.int)) := by
  show Rf ((f σ).bind fun x => (eK (.int 1) σ).bind fun y => idxD x y) _ _
  exact h.bind fun _ => rfl
theorem rf_rw_2_m (h : Rf (f σ) m eRw) : Rf (eIx f (eK (.int 2)) σ) (m.bind fun p => .ok p.2.2) eTu := by
  show Rf ((f σ).bind fun x => (eK (.int 2) σ).bind fun y => idxD x y) _ _
  exact h.bind fun _ => rfl
theorem rf_rw_0_p (h : Rf (f σ) (.ok p) eRw) : Rf (eIx f (eK (.int 0)) σ) (.ok p.1) eTu := rf_rw_0_m h
theorem rf_rw_1_p (h : Rf (f σ) (.ok p) eRw) : Rf (eIx f (eK (.int 1)) σ) (.ok p.2.1) (eLs false (eLs false D.int)) := rf_rw_1_m h
theorem rf_rw_2_p (h : Rf (f σ) (.ok p) eRw) : Rf (eIx f (eK (.int 2)) σ) (.ok p.2.2) eTu := rf_rw_2_m h
theorem it_rw (a : RwL) : itemsA (eRw a) = .ok [eTu a.1, eLs false (eLs false D.int) a.2.1, eTu a.2.2] := by
  have := cl_rw a
  unfold eRw at this
  rw [clean] at this
  exact if_pos (by simpa using this)
theorem it_t3 (c1 : Cl e1) (c2 : Cl e2) (c3 : Cl e3) (a : α × β × γ) : itemsA (eT3 e1 e2 e3 a) = .ok [e1 a.1, e2 a.2.1, e3 a.2.2] := by
  have := cl_t3 c1 c2 c3 a
  unfold eT3 at this
  rw [clean] at this
  exact if_pos this
theorem g_unpA {is : List Nat} {m : R β} {M : β → O S L θ} {xs : β → List D} (hi : ∀ a, itemsA (e' a) = .ok (xs a)) (h : Rf (f σ) m e') (hE : E σ) (h2 : ∀ a, ∃ σ', putAll σ is (xs a) = .ok σ' ∧ Gs I J E er (K σ') (M a)) : Gs I J E er ((sUnpA is f σ).andThen K) (bnd m M) := by
  rw [show sUnpA is f σ = rS (f σ) σ fun d => rS (itemsA d) σ fun xs => rS (putAll σ is xs) σ .nx from rfl]
  refine g_val h hE fun a => ?_
  obtain ⟨σ', q, g⟩ := h2 a
  rw [hi a]
  show Gs I J E er ((rS (putAll σ is (xs a)) σ .nx).andThen K) (M a)
  rw [q]
  exact g
end
end DI
namespace DI
open PySem
section
variable {α : Type} {σ : Sl} {f k : Sl → R D} {e : α → D}
theorem rf_cat {o1 o2 : Bool} (c : Cl e) {m n : R (List α)} (h : Rf (f σ) m (eLs o1 e)) (h2 : Rf (k σ) n (eLs o2 e)) : Rf (eCat f k σ) (m.bind fun i => n.bind fun j => szT (i.length + j.length) (i ++ j)) (eLs true e) :=
  h.bind fun i => h2.bind fun j => .guard (fun q => ⟨by rw [cl_map c, cl_map c]; rfl, by simpa using q⟩) (rf_ok (by simp [eLs]))
theorem rf_cat_pp {o1 o2 : Bool} {i j : List α} (c : Cl e) (h : Rf (f σ) (.ok i) (eLs o1 e)) (h2 : Rf (k σ) (.ok j) (eLs o2 e)) : Rf (eCat f k σ) (szT (i.length + j.length) (i ++ j)) (eLs true e) := rf_cat c h h2
theorem rf_cat_pm {o1 o2 : Bool} {i : List α} {n : R (List α)} (c : Cl e) (h : Rf (f σ) (.ok i) (eLs o1 e)) (h2 : Rf (k σ) n (eLs o2 e)) : Rf (eCat f k σ) (n.bind fun j => szT (i.length + j.length) (i ++ j)) (eLs true e) := rf_cat c h h2
theorem rf_cat_mp {o1 o2 : Bool} {m : R (List α)} {j : List α} (c : Cl e) (h : Rf (f σ) m (eLs o1 e)) (h2 : Rf (k σ) (.ok j) (eLs o2 e)) : Rf (eCat f k σ) (m.bind fun i => szT (i.length + j.length) (i ++ j)) (eLs true e) := rf_cat c h h2
end
end DI
namespace DI
open PySem
end DI
namespace DI
open PySem PySem.Spec PyProof.Rows L2
def topS (i : Nat) : Stmt := PySem.Challenge.pw_striproam_k01_machines_made.main.body.getD i (.Pass ⟨0, 0, 0, 0⟩)
abbrev st_p_is_whole : Stmt := topS 12
abbrev st_p_is_room : Stmt := topS 13
abbrev st_p_is_turn : Stmt := topS 14
abbrev st_p_is_cell : Stmt := topS 15
abbrev st_p_look_through : Stmt := topS 16
abbrev st_p_machine_of : Stmt := topS 17
abbrev st_p_signs_of : Stmt := topS 18
abbrev st_l_cell : Stmt := topS 20
abbrev st_l_mixed : Stmt := topS 21
abbrev st_l_turn : Stmt := topS 22
abbrev st_l_row : Stmt := topS 23
abbrev st_l_machine : Stmt := topS 24
abbrev st_l_odd_turn : Stmt := topS 25
abbrev st_l_odd_cells : Stmt := topS 26
abbrev st_l_rows : Stmt := topS 27
abbrev st_l_is_room : Stmt := topS 28
abbrev st_l_fault : Stmt := topS 29
abbrev st_l_asked : Stmt := topS 30
abbrev st_l_plain : Stmt := topS 31
abbrev st_p_law : Stmt := topS 32
abbrev st_x_NoMachine : Stmt := inClass (topS 2) 0
abbrev st_x_NoText : Stmt := inClass (topS 3) 0
abbrev st_x_NoStrip : Stmt := inClass (topS 4) 0
abbrev st_x_NoName : Stmt := inClass (topS 5) 0
abbrev st_x_NoLine : Stmt := inClass (topS 6) 0
def tE : Nat → List Str := fun c => if c = 2 then ["room", "part"] else if c = 3 then ["at"] else if c = 4 then ["at"] else if c = 5 then ["name"] else if c = 6 then ["line"] else []
structure Tx (K : PySem.W.Frag) (mg : Str → Option Value) (cE : Nat → Option (Addr × List Str)) : Prop where
  b_WayError : XbT K mg "WayError"
  x_NoLine : XcE K mg cE "NoLine" "NoLine.__init__" st_x_NoLine ["self", "line"] ["line"] 6
  x_NoMachine : XcE K mg cE "NoMachine" "NoMachine.__init__" st_x_NoMachine ["self", "part", "room"] ["room", "part"] 2
  x_NoName : XcE K mg cE "NoName" "NoName.__init__" st_x_NoName ["self", "name"] ["name"] 5
  x_NoStrip : XcE K mg cE "NoStrip" "NoStrip.__init__" st_x_NoStrip ["self", "at"] ["at"] 4
  x_NoText : XcE K mg cE "NoText" "NoText.__init__" st_x_NoText ["self", "at"] ["at"] 3
  x_TooMany : XcN K mg cE "TooMany" 7
  x_WayError : XcN K mg cE "WayError" 1
  m_WayError : XcM K mg cE "WayError" (oneOfN [1, 2, 3, 4, 5, 6, 7])
  i_TooMany : XcI K mg cE "TooMany" (oneOfN [7])
  i_NoStrip : XcI K mg cE "NoStrip" (oneOfN [4])
  i_NoText : XcI K mg cE "NoText" (oneOfN [3])
  i_NoLine : XcI K mg cE "NoLine" (oneOfN [6])
  i_NoName : XcI K mg cE "NoName" (oneOfN [5])
  i_NoMachine : XcI K mg cE "NoMachine" (oneOfN [2])
  v_ValueError : XcV K cE "ValueError"
  e_NoLine : XeC K cE 6
  e_NoMachine : XeC K cE 2
  e_NoName : XeC K cE 5
  e_NoStrip : XeC K cE 4
  e_NoText : XeC K cE 3
  tE : ∀ c C ns, cE c = some (C, ns) → tE c = ns
  b_ValueError : mg "ValueError" = none
  b_all : mg "all" = none
  b_bool : mg "bool" = none
  b_enumerate : mg "enumerate" = none
  b_int : mg "int" = none
  b_isinstance : mg "isinstance" = none
  b_len : mg "len" = none
  b_list : mg "list" = none
  b_max : mg "max" = none
  b_min : mg "min" = none
  b_range : mg "range" = none
  b_tuple : mg "tuple" = none
  c_MOST_ROOMS : ∃ t, mg "MOST_ROOMS" = some (Value.int 60 t)
  c_SIGNS : ∃ t, mg "SIGNS" = some (Value.str "abc" t)
  c_STEPS : TupC K mg "STEPS" [.int 1, .int (-1)]
  d_p_is_whole : TxD K mg "is_whole" st_p_is_whole ["thing"]
  d_p_is_room : TxD K mg "is_room" st_p_is_room ["thing", "many"]
  d_p_is_turn : TxD K mg "is_turn" st_p_is_turn ["thing", "many"]
  d_p_is_cell : TxD K mg "is_cell" st_p_is_cell ["cell", "many"]
  d_p_look_through : TxD K mg "look_through" st_p_look_through ["row", "room", "rows"]
  d_p_machine_of : TxD K mg "machine_of" st_p_machine_of ["rows"]
  d_p_signs_of : TxD K mg "signs_of" st_p_signs_of ["machine"]
  d_l_cell : TxD K mg "_law_cell" st_l_cell ["_law_script", "_law_k"]
  d_l_mixed : TxD K mg "_law_mixed" st_l_mixed ["_law_script", "_law_few"]
  d_l_turn : TxD K mg "_law_turn" st_l_turn ["_law_cell_here", "_law_many"]
  d_l_row : TxD K mg "_law_row" st_l_row ["_law_cell_here", "_law_many", "_law_signs"]
  d_l_machine : TxD K mg "_law_machine" st_l_machine ["_law_cells", "_law_many", "_law_signs"]
  d_l_odd_turn : TxD K mg "_law_odd_turn" st_l_odd_turn ["_law_cell_here", "_law_many"]
  d_l_odd_cells : TxD K mg "_law_odd_cells" st_l_odd_cells ["_law_cells", "_law_cell_here", "_law_many"]
  d_l_rows : TxD K mg "_law_rows" st_l_rows ["_law_script", "_law_many", "_law_signs"]
  d_l_is_room : TxD K mg "_law_is_room" st_l_is_room ["_law_thing", "_law_many"]
  d_l_fault : TxD K mg "_law_fault" st_l_fault ["_law_rows_here"]
  d_l_asked : TxD K mg "_law_asked" st_l_asked ["_law_rows_here"]
  d_l_plain : TxD K mg "_law_plain" st_l_plain ["_law_rows_here"]
  d_p_law : TxD K mg "law" st_p_law ["_law_script"]
noncomputable def b_p_is_whole : SF :=
  sRet (eO (eAnd (eIsi .int (eV 0)) (eNot (eIsi .bool (eV 0)))))
noncomputable def h_p_is_whole : List D → R D := runF 1 b_p_is_whole
noncomputable def b_p_is_room : SF :=
  sRet (eO (eAnd (eF h_p_is_whole (aC (eV 0) (aN))) (eCC .le .lt (eK (.int 0)) (eV 0) (eV 1))))
noncomputable def h_p_is_room : List D → R D := runF 2 b_p_is_room
noncomputable def b_p_is_turn : SF :=
  sRet (eO (eOr (eC .mem (eV 0) (eTup (aC (eK (.str "by")) (aC (eK (.str "out")) (aN))))) (eF h_p_is_room (aC (eV 0) (aC (eV 1) (aN))))))
noncomputable def h_p_is_turn : List D → R D := runF 2 b_p_is_turn
noncomputable def b_p_is_cell : SF :=
  sRet (eO (eAnd (eF h_p_is_room (aC (eIx (eV 0) (eK (.int 0))) (aC (eV 1) (aN)))) (eAnd (eF h_p_is_whole (aC (eIx (eV 0) (eK (.int 1))) (aN))) (eC .mem (eIx (eV 0) (eK (.int 1))) (eK (.tup [.int 1, .int (-1)]))))))
noncomputable def h_p_is_cell : List D → R D := runF 2 b_p_is_cell
noncomputable def b_p_look_through : SF :=
  sSeq (sUnpA [3, 4, 5] (eV 0)) <|
  sSeq (sIf (eOr (eC .lt (eBi .len (aC (eV 4) (aN))) (eK (.int 1))) (eOr (eC .gt (eBi .len (aC (eV 4) (aN))) (eBi .len (aC (eK (.str "abc")) (aN)))) (eC .ne (eBi .len (aC (eV 4) (aN))) (eBi .len (aC (eIx (eIx (eV 2) (eK (.int 0))) (eK (.int 1))) (aN))))))
    (sRaise 2 (aC (eK (.str "cells")) (aC (eV 1) (aN))))
    (sSkip)) <|
  sSeq (sIf (eNot (eF h_p_is_turn (aC (eV 3) (aC (eBi .len (aC (eV 2) (aN))) (aN)))))
    (sRaise 2 (aC (eK (.str "left")) (aC (eV 1) (aN))))
    (sSkip)) <|
  sSeq (sIf (eNot (eBi .all (aC (eComp [6] (.one 6) (iSeq' (eV 4)) (eT) (eF h_p_is_cell (aC (eV 6) (aC (eBi .len (aC (eV 2) (aN))) (aN))))) (aN))))
    (sRaise 2 (aC (eK (.str "cell")) (aC (eV 1) (aN))))
    (sSkip)) <|
  sIf (eNot (eF h_p_is_turn (aC (eV 5) (aC (eBi .len (aC (eV 2) (aN))) (aN)))))
    (sRaise 2 (aC (eK (.str "right")) (aC (eV 1) (aN))))
    (sSkip)
noncomputable def h_p_look_through : List D → R D := runF 7 b_p_look_through
noncomputable def b_p_machine_of : SF :=
  sSeq (sIf (eOr (eC .lt (eBi .len (aC (eV 0) (aN))) (eK (.int 1))) (eC .gt (eBi .len (aC (eV 0) (aN))) (eK (.int 60))))
    (sRaise 2 (aC (eK (.str "rooms")) (aC (eBi .len (aC (eV 0) (aN))) (aN))))
    (sSkip)) <|
  sSeq (sFor (.many [1, 2]) (iEn (aC (eO (eV 0)) (aN)))
    (sDrop (eF h_p_look_through (aC (eV 2) (aC (eV 1) (aC (eV 0) (aN))))))) <|
  sRet (eBi .tuple (aC (eComp [2] (.one 2) (iSeq' (eV 0)) (eT) (eTup (aC (eO (eIx (eV 2) (eK (.int 0)))) (aC (eBi .tuple (aC (eComp [3] (.one 3) (iSeq' (eIx (eV 2) (eK (.int 1)))) (eT) (eTup (aC (eO (eIx (eV 3) (eK (.int 0)))) (aC (eO (eIx (eV 3) (eK (.int 1)))) (aN))))) (aN))) (aC (eO (eIx (eV 2) (eK (.int 2)))) (aN)))))) (aN)))
noncomputable def h_p_machine_of : List D → R D := runF 4 b_p_machine_of
noncomputable def b_p_signs_of : SF :=
  sRet (eBi .len (aC (eIx (eIx (eV 0) (eK (.int 0))) (eK (.int 1))) (aN)))
noncomputable def h_p_signs_of : List D → R D := runF 1 b_p_signs_of
noncomputable def b_l_cell : SF :=
  sSeq (sIf (eC .lt (eV 1) (eBi .len (aC (eV 0) (aN))))
    (sRet (eO (eIx (eV 0) (eV 1))))
    (sSkip)) <|
  sRet (eK (.int 0))
noncomputable def h_l_cell : List D → R D := runF 2 b_l_cell
noncomputable def b_l_mixed : SF :=
  sSeq (sSet 2 (eBi .max (aC (eV 1) (aC (eBi .min (aC (eK (.int 63)) (aC (eBi .len (aC (eV 0) (aN))) (aN)))) (aN))))) <|
  sSeq (sSet 3 (eC .eq (eB .mod (eF h_l_cell (aC (eV 0) (aC (eK (.int 0)) (aN)))) (eK (.int 2))) (eK (.int 0)))) <|
  sSeq (sSet 4 (eLst (aN))) <|
  sSeq (sFor (.one 5) (iR1 (aC (eV 2) (aN)))
    (sSeq (sSet 6 (eB .fdiv (eF h_l_cell (aC (eV 0) (aC (eV 5) (aN)))) (eB .add (eK (.int 1)) (eBi .int (aC (eC .eq (eV 5) (eK (.int 0))) (aN)))))) <|
    sSeq (sIf (eOr (eNot (eV 3)) (eC .ge (eV 5) (eBi .len (aC (eV 0) (aN)))))
      (sSeq (sSet 6 (eB .mod (eB .mul (eB .add (eB .mod (eV 6) (eB .pow (eK (.int 10)) (eK (.int 15)))) (eB .mul (eK (.int 7919)) (eV 5))) (eK (.int 48271))) (eK (.int 2147483647)))) <|
      sSet 6 (eB .mod (eB .mul (eV 6) (eK (.int 69621))) (eK (.int 2147483629))))
      (sSkip)) <|
    sApp 4 (eO (eV 6)))) <|
  sRetV 4
noncomputable def h_l_mixed : List D → R D := runF 7 b_l_mixed
noncomputable def b_l_turn : SF :=
  sSeq (sSet 2 (eB .mod (eV 0) (eB .add (eV 1) (eK (.int 2))))) <|
  sSeq (sIf (eC .lt (eV 2) (eV 1))
    (sRetV 2)
    (sSkip)) <|
  sRet (eO (eIx (eLst (aC (eK (.str "by")) (aC (eK (.str "out")) (aN)))) (eB .sub (eV 2) (eV 1))))
noncomputable def h_l_turn : List D → R D := runF 3 b_l_turn
noncomputable def b_l_row : SF :=
  sSeq (sSet 3 (eF h_l_turn (aC (eV 0) (aC (eV 1) (aN))))) <|
  sSeq (sSet 0 (eB .fdiv (eV 0) (eB .add (eV 1) (eK (.int 2))))) <|
  sSeq (sSet 4 (eLst (aN))) <|
  sSeq (sFor (.one 5) (iR1 (aC (eV 2) (aN)))
    (sSeq (sSet 6 (eB .mod (eV 0) (eB .mul (eK (.int 2)) (eV 1)))) <|
    sSeq (sSet 0 (eB .fdiv (eV 0) (eB .mul (eK (.int 2)) (eV 1)))) <|
    sApp 4 (eTup (aC (eB .fdiv (eV 6) (eK (.int 2))) (aC (eB .sub (eK (.int 1)) (eB .mul (eK (.int 2)) (eB .mod (eV 6) (eK (.int 2))))) (aN)))))) <|
  sFz 3 <| sRet (eTup (aC (eO (eV 3)) (aC (eBi .tuple (aC (eV 4) (aN))) (aC (eF h_l_turn (aC (eV 0) (aC (eV 1) (aN)))) (aN)))))
noncomputable def h_l_row : List D → R D := runF 7 b_l_row
noncomputable def b_l_machine : SF :=
  sSeq (sSet 3 (eLst (aN))) <|
  sSeq (sFor (.one 4) (iR1 (aC (eV 1) (aN)))
    (sSeq (sSet 5 (eB .mul (eK (.int 48271)) (eB .add (eV 4) (eK (.int 1))))) <|
    sSeq (sIf (eC .gt (eBi .len (aC (eV 0) (aN))) (eK (.int 0)))
      (sSet 5 (eB .add (eIx (eV 0) (eBi .min (aC (eV 4) (aC (eB .sub (eBi .len (aC (eV 0) (aN))) (eK (.int 1))) (aN))))) (eB .mul (eV 5) (eBi .int (aC (eC .ge (eV 4) (eBi .len (aC (eV 0) (aN)))) (aN))))))
      (sSkip)) <|
    sApp 3 (eF h_l_row (aC (eV 5) (aC (eV 1) (aC (eV 2) (aN))))))) <|
  sRet (eBi .tuple (aC (eV 3) (aN)))
noncomputable def h_l_machine : List D → R D := runF 6 b_l_machine
noncomputable def b_l_odd_turn : SF :=
  sRet (eO (eIx (eLst (aC (eNeg (eK (.int 1))) (aC (eO (eV 1)) (aC (eB .add (eV 1) (eK (.int 1))) (aC (eK (.str "")) (aC (eK (.str "By")) (aC (eK (.str "in")) (aC (eK (.str "out ")) (aC (eK (.str "0")) (aC (eB .pow (eK (.int 10)) (eK (.int 59))) (aC (eNeg (eB .pow (eK (.int 10)) (eK (.int 59)))) (aN)))))))))))) (eB .mod (eV 0) (eK (.int 10)))))
noncomputable def h_l_odd_turn : List D → R D := runF 2 b_l_odd_turn
noncomputable def b_l_odd_cells : SF :=
  sSeq (sSet 3 (eB .mod (eV 1) (eK (.int 7)))) <|
  sSeq (sIf (eC .eq (eV 3) (eK (.int 0)))
    (sRet (eLst (aN)))
    (sSkip)) <|
  sSeq (sIf (eC .eq (eV 3) (eK (.int 1)))
    (sRet (eCat (eV 0) (eLst (aC (eTup (aC (eK (.int 0)) (aC (eK (.int 1)) (aN)))) (aN)))))
    (sSkip)) <|
  sSeq (sIf (eC .eq (eV 3) (eK (.int 2)))
    (sRet (eSl (eV 0) false (eK (.int 1)) true (eK .non)))
    (sSkip)) <|
  sSeq (sIf (eC .eq (eV 3) (eK (.int 3)))
    (sRet (eLst (aC (eTup (aC (eK (.int 0)) (aC (eK (.int 1)) (aN)))) (aC (eTup (aC (eK (.int 0)) (aC (eNeg (eK (.int 1))) (aN)))) (aC (eTup (aC (eK (.int 0)) (aC (eK (.int 1)) (aN)))) (aC (eTup (aC (eK (.int 0)) (aC (eK (.int 1)) (aN)))) (aN)))))))
    (sSkip)) <|
  sSeq (sSet 4 (eB .mod (eB .fdiv (eV 1) (eK (.int 7))) (eBi .len (aC (eV 0) (aN))))) <|
  sSeq (sSet 5 (eLst (aC (eTup (aC (eO (eIx (eIx (eV 0) (eV 4)) (eK (.int 0)))) (aC (eO (eIx (eLst (aC (eK (.int 0)) (aC (eK (.int 2)) (aC (eNeg (eK (.int 2))) (aC (eB .pow (eK (.int 10)) (eK (.int 30))) (aN)))))) (eB .mod (eB .fdiv (eV 1) (eK (.int 21))) (eK (.int 4))))) (aN)))) (aC (eTup (aC (eO (eIx (eLst (aC (eNeg (eK (.int 1))) (aC (eO (eV 2)) (aC (eB .add (eV 2) (eK (.int 7))) (aC (eB .pow (eK (.int 10)) (eK (.int 20))) (aN)))))) (eB .mod (eB .fdiv (eV 1) (eK (.int 21))) (eK (.int 4))))) (aC (eK (.int 1)) (aN)))) (aN))))) <|
  sRet (eCat (eCat (eSl (eV 0) true (eK .non) false (eV 4)) (eLst (aC (eO (eIx (eV 5) (eB .mod (eV 3) (eK (.int 2))))) (aN)))) (eSl (eV 0) false (eB .add (eV 4) (eK (.int 1))) true (eK .non)))
noncomputable def h_l_odd_cells : List D → R D := runF 6 b_l_odd_cells
noncomputable def b_l_rows : SF :=
  sSeq (sSet 3 (eLst (aN))) <|
  sSeq (sFor (.one 4) (iSeq' (eF h_l_machine (aC (eSl (eV 0) false (eK (.int 4)) true (eK .non)) (aC (eV 1) (aC (eV 2) (aN))))))
    (sApp 3 (eLst (aC (eO (eIx (eV 4) (eK (.int 0)))) (aC (eFrz (eLi (aC (eIx (eV 4) (eK (.int 1))) (aN)))) (aC (eO (eIx (eV 4) (eK (.int 2)))) (aN))))))) <|
  sSeq (sFor (.one 5) (iR1 (aC (eB .mul (eB .mod (eF h_l_cell (aC (eV 0) (aC (eK (.int 2)) (aN)))) (eK (.int 4))) (eBi .int (aC (eC .gt (eV 1) (eK (.int 0))) (aN)))) (aN)))
    (sSeq (sSet 6 (eB .add (eB .fdiv (eF h_l_cell (aC (eV 0) (aC (eK (.int 3)) (aN)))) (eB .add (eV 5) (eK (.int 1)))) (eF h_l_cell (aC (eV 0) (aC (eB .add (eK (.int 4)) (eV 5)) (aN)))))) <|
    sAl 3 4 (eB .mod (eV 6) (eV 1)) (aIf 3 4 (eC .eq (eB .mod (eB .fdiv (eV 6) (eK (.int 64))) (eK (.int 4))) (eK (.int 0))) (aPut 3 4 (eK (.int 0)) (eF h_l_odd_turn (aC (eB .fdiv (eV 6) (eK (.int 256))) (aC (eV 1) (aN))))) (aIf 3 4 (eC .eq (eB .mod (eB .fdiv (eV 6) (eK (.int 64))) (eK (.int 4))) (eK (.int 1))) (aPut 3 4 (eK (.int 2)) (eF h_l_odd_turn (aC (eB .fdiv (eV 6) (eK (.int 256))) (aC (eV 1) (aN))))) (aIf 3 4 (eC .gt (eBi .len (aC (eIx (eV 4) (eK (.int 1))) (aN))) (eK (.int 0))) (aPut 3 4 (eK (.int 1)) (eF h_l_odd_cells (aC (eIx (eV 4) (eK (.int 1))) (aC (eB .fdiv (eV 6) (eK (.int 256))) (aC (eV 1) (aN)))))) (aSkip)))))) <|
  sSeq (sIf (eC .eq (eB .mod (eB .fdiv (eF h_l_cell (aC (eV 0) (aC (eK (.int 2)) (aN)))) (eK (.int 4))) (eK (.int 2))) (eK (.int 1)))
    (sRet (eTmp 3 (eComp [4] (.one 4) (iSeq' (eV 3)) (eT) (eBi .tuple (aC (eLst (aC (eO (eIx (eV 4) (eK (.int 0)))) (aC (eBi .tuple (aC (eIx (eV 4) (eK (.int 1))) (aN))) (aC (eO (eIx (eV 4) (eK (.int 2)))) (aN))))) (aN))))))
    (sSkip)) <|
  sRet (eTmp 3 (eComp [4] (.one 4) (iSeq' (eV 3)) (eT) (eLst (aC (eO (eIx (eV 4) (eK (.int 0)))) (aC (eComp [6] (.one 6) (iSeq' (eIx (eV 4) (eK (.int 1)))) (eT) (eLi (aC (eV 6) (aN)))) (aC (eO (eIx (eV 4) (eK (.int 2)))) (aN)))))))
noncomputable def h_l_rows : List D → R D := runF 7 b_l_rows
noncomputable def b_l_is_room : SF :=
  sRet (eO (eAnd (eIsi .int (eV 0)) (eCC .le .lt (eK (.int 0)) (eV 0) (eV 1))))
noncomputable def h_l_is_room : List D → R D := runF 2 b_l_is_room
noncomputable def b_l_fault : SF :=
  sSeq (sSet 1 (eBi .len (aC (eV 0) (aN)))) <|
  sSeq (sIf (eOr (eC .lt (eV 1) (eK (.int 1))) (eC .gt (eV 1) (eK (.int 60))))
    (sRet (eTup (aC (eK (.str "rooms")) (aC (eO (eV 1)) (aN)))))
    (sSkip)) <|
  sSeq (sFor (.many [2, 3]) (iEn (aC (eO (eV 0)) (aN)))
    (sSeq (sIf (eOr (eC .nmem (eBi .len (aC (eIx (eV 3) (eK (.int 1))) (aN))) (eTup (aC (eK (.int 1)) (aC (eK (.int 2)) (aC (eK (.int 3)) (aN)))))) (eC .ne (eBi .len (aC (eIx (eV 3) (eK (.int 1))) (aN))) (eBi .len (aC (eIx (eIx (eV 0) (eK (.int 0))) (eK (.int 1))) (aN)))))
      (sRet (eTup (aC (eK (.str "cells")) (aC (eO (eV 2)) (aN)))))
      (sSkip)) <|
    sSeq (sIf (eAnd (eC .nmem (eIx (eV 3) (eK (.int 0))) (eTup (aC (eK (.str "by")) (aC (eK (.str "out")) (aN))))) (eNot (eF h_l_is_room (aC (eIx (eV 3) (eK (.int 0))) (aC (eV 1) (aN))))))
      (sRet (eTup (aC (eK (.str "left")) (aC (eO (eV 2)) (aN)))))
      (sSkip)) <|
    sSeq (sFor (.one 4) (iSeq' (eO (eIx (eV 3) (eK (.int 1)))))
      (sIf (eOr (eNot (eF h_l_is_room (aC (eIx (eV 4) (eK (.int 0))) (aC (eV 1) (aN))))) (eC .nmem (eIx (eV 4) (eK (.int 1))) (eTup (aC (eK (.int 1)) (aC (eNeg (eK (.int 1))) (aN))))))
        (sRet (eTup (aC (eK (.str "cell")) (aC (eO (eV 2)) (aN)))))
        (sSkip))) <|
    sIf (eAnd (eC .nmem (eIx (eV 3) (eK (.int 2))) (eTup (aC (eK (.str "by")) (aC (eK (.str "out")) (aN))))) (eNot (eF h_l_is_room (aC (eIx (eV 3) (eK (.int 2))) (aC (eV 1) (aN))))))
      (sRet (eTup (aC (eK (.str "right")) (aC (eO (eV 2)) (aN)))))
      (sSkip))) <|
  sRet (eK (.non))
noncomputable def h_l_fault : List D → R D := runF 5 b_l_fault
noncomputable def b_l_asked : SF :=
  sSeq (sSet 1 (eK (.non))) <|
  sSeq (sSet 2 (eK (.non))) <|
  sKeep 4 (oneOfN [1, 2, 3, 4, 5, 6, 7]) (oneOfN [1, 2, 3, 4, 5, 6, 7])
    (sSet 2 (eF h_p_machine_of (aC (eV 0) (aN))))
    (sSet 1 (eO (eV 4)))
    (sSeq (sIf (eC .isN (eV 1) (eK (.non)))
      (sRetV 2)
      (sSkip)) <|
    sSeq (sSet 3 (eO (eOr (eXi (oneOfN [3]) (eV 1)) (eOr (eXi (oneOfN [4]) (eV 1)) (eXi (oneOfN [7]) (eV 1)))))) <|
    sSeq (sSet 3 (eO (eOr (eV 3) (eOr (eXi (oneOfN [5]) (eV 1)) (eXi (oneOfN [6]) (eV 1)))))) <|
    sSeq (sIf (eOr (eV 3) (eOr (eNot (eXi (oneOfN [2]) (eV 1))) (eNot (eXi (fun _ => true) (eV 1)))))
      (sRet (eLst (aC (eK (.str "other")) (aN))))
      (sSkip)) <|
    sRet (eLst (aC (eO (eXf tE "part" (eV 1))) (aC (eO (eXf tE "room" (eV 1))) (aN)))))
    (sSeq (sIf (eC .isN (eV 1) (eK (.non)))
      (sRetV 2)
      (sSkip)) <|
    sSeq (sSet 3 (eO (eOr (eXi (oneOfN [3]) (eV 1)) (eOr (eXi (oneOfN [4]) (eV 1)) (eXi (oneOfN [7]) (eV 1)))))) <|
    sSeq (sSet 3 (eO (eOr (eV 3) (eOr (eXi (oneOfN [5]) (eV 1)) (eXi (oneOfN [6]) (eV 1)))))) <|
    sSeq (sIf (eOr (eV 3) (eOr (eNot (eXi (oneOfN [2]) (eV 1))) (eNot (eXi (fun _ => true) (eV 1)))))
      (sRet (eLst (aC (eK (.str "other")) (aN))))
      (sSkip)) <|
    sRet (eLst (aC (eO (eXf tE "part" (eV 1))) (aC (eO (eXf tE "room" (eV 1))) (aN)))))
noncomputable def h_l_asked : List D → R D := runF 5 b_l_asked
noncomputable def b_l_plain : SF :=
  sRet (eBi .tuple (aC (eComp [1] (.one 1) (iSeq' (eV 0)) (eT) (eTup (aC (eO (eIx (eV 1) (eK (.int 0)))) (aC (eBi .tuple (aC (eComp [2] (.one 2) (iSeq' (eIx (eV 1) (eK (.int 1)))) (eT) (eTup (aC (eO (eIx (eV 2) (eK (.int 0)))) (aC (eO (eIx (eV 2) (eK (.int 1)))) (aN))))) (aN))) (aC (eO (eIx (eV 1) (eK (.int 2)))) (aN)))))) (aN)))
noncomputable def h_l_plain : List D → R D := runF 3 b_l_plain
noncomputable def b_p_law : SF :=
  sSeq (sSet 0 (eF h_l_mixed (aC (eV 0) (aC (eK (.int 10)) (aN))))) <|
  sSeq (sSet 1 (eO (eIx (eLst (aC (eK (.int 1)) (aC (eK (.int 2)) (aC (eK (.int 3)) (aC (eK (.int 4)) (aC (eK (.int 5)) (aC (eK (.int 6)) (aC (eK (.int 0)) (aC (eK (.int 60)) (aC (eK (.int 61)) (aC (eK (.int 59)) (aC (eK (.int 2)) (aC (eK (.int 3)) (aN)))))))))))))) (eB .mod (eF h_l_cell (aC (eV 0) (aC (eK (.int 0)) (aN)))) (eK (.int 12)))))) <|
  sSeq (sSet 2 (eF h_l_rows (aC (eV 0) (aC (eV 1) (aC (eB .add (eK (.int 1)) (eB .mod (eF h_l_cell (aC (eV 0) (aC (eK (.int 1)) (aN)))) (eK (.int 3)))) (aN)))))) <|
  sSeq (sSet 3 (eF h_l_plain (aC (eV 2) (aN)))) <|
  sSeq (sSet 4 (eF h_l_fault (aC (eV 2) (aN)))) <|
  sSeq (sFor (.one 5) (iR1 (aC (eK (.int 2)) (aN)))
    (sSeq (sSet 6 (eF h_l_asked (aC (eV 2) (aN)))) <|
    sSeq (sIf (eAnd (eC .notN (eV 4) (eK (.non))) (eC .ne (eV 6) (eLst (aC (eO (eIx (eV 4) (eK (.int 0)))) (aC (eO (eIx (eV 4) (eK (.int 1)))) (aN))))))
      (sRet (eK (.bl false)))
      (sSkip)) <|
    sIf (eAnd (eC .isN (eV 4) (eK (.non))) (eOr (eC .ne (eV 6) (eV 3)) (eC .ne (eF h_p_signs_of (aC (eV 6) (aN))) (eBi .len (aC (eIx (eIx (eV 3) (eK (.int 0))) (eK (.int 1))) (aN))))))
      (sRet (eK (.bl false)))
      (sSkip))) <|
  sSeq (sIf (eC .ne (eF h_l_plain (aC (eV 2) (aN))) (eV 3))
    (sRet (eK (.bl false)))
    (sSkip)) <|
  sSeq (sIf (eAnd (eC .isN (eV 4) (eK (.non))) (eIsi .list (eIx (eV 2) (eK (.int 0)))))
    (sSeq (sSub2App 2 (eK (.int 0)) (eK (.int 1)) (eFrz (eLst (aC (eK (.int 0)) (aC (eK (.int 1)) (aN)))))) <|
    sSubPutG 2 (eK (.int 0)) (eK (.int 0)) (eK (.str "in")))
    (sSkip)) <|
  sSeq (sApp 2 (eK (.non))) <|
  sRet (eO (eOr (eC .notN (eV 4) (eK (.non))) (eC .eq (eV 6) (eV 3))))
noncomputable def h_p_law : List D → R D := runF 7 b_p_law
section
variable {P : Program} {w : World} {K : PySem.W.Frag} {mg : Str → Option Value} {base : Heap} {cE : Nat → Option (Addr × List Str)}
theorem scx_NoMachine : FnScope ["self", "part", "room"] ["self", "part", "room"] (defScope st_x_NoMachine) := ⟨rfl, rfl, rfl, by decide +kernel, rfl, by decide +kernel, by decide +kernel⟩
theorem xi_NoMachine (T : Tx K mg cE) {C fI : Addr} {fd : FuncData} (a : XcA K mg "NoMachine" "NoMachine.__init__" st_x_NoMachine ["self", "part", "room"] ["room", "part"] C fI fd) : FnOk P w K mg base (L2.CX P w) 1 fI fd ["self", "part", "room"] (spX K C 2 ["room", "part"]) :=
  ok_xinit2 a.Fn scx_NoMachine a.T.T (a.no _ (by decide)) (a.no _ (by decide)) fun cdv A outer s H E => pss_cons (ps_expr (pe_weinit T.b_WayError (pa_cons (pv 0) (pa_cons pe_str pa_nil)))) (pss_cons (ps_ost (pv 0) (pv 1)) (pss_one (ps_ost (pv 0) (pv 2))))
theorem sc_p_is_whole : FnScope ["thing"] ["thing"] (defScope st_p_is_whole) := ⟨rfl, rfl, rfl, by decide +kernel, rfl, by decide +kernel, by decide +kernel⟩
theorem ok_p_is_whole (T : Tx K mg cE) : DefOk P w K mg base ⟨P, w, K, cE, fun _ => none, none, none, none, fun _ => none⟩ 1 "is_whole" ["thing"] 1 h_p_is_whole :=
  di_def _ T.d_p_is_whole sc_p_is_whole 1 rfl 1 rfl b_p_is_whole fun f cdv A outer s H E hr tk hp => by
  have hu := hu70 hr
  have nd := sc_p_is_whole.nd
  exact ss_one (t_ret (z_o (z_and (z_isi ⟨rfl, rfl, rfl⟩ .int (z_v 0) T.b_isinstance T.b_int) (z_one (z_not (z_isi ⟨rfl, rfl, rfl⟩ .bool (z_v 0) T.b_isinstance T.b_bool))))))
theorem sc_p_is_room : FnScope ["thing", "many"] ["thing", "many"] (defScope st_p_is_room) := ⟨rfl, rfl, rfl, by decide +kernel, rfl, by decide +kernel, by decide +kernel⟩
theorem ok_p_is_room (T : Tx K mg cE) : DefOk P w K mg base ⟨P, w, K, cE, fun _ => none, none, none, none, fun _ => none⟩ 2 "is_room" ["thing", "many"] 2 h_p_is_room :=
  di_def _ T.d_p_is_room sc_p_is_room 2 rfl 2 rfl b_p_is_room fun f cdv A outer s H E hr tk hp => by
  have hu := hu70 hr
  have nd := sc_p_is_room.nd
  exact ss_one (t_ret (z_o (z_and (z_call' (ok_p_is_whole T) (hr.mono (by decide)) tk (z_aC (z_v 0) (z_aN)) (len_aC (len_aN))) (z_one (z_lelt (z_i) (z_v 0) (z_v 1))))))
theorem sc_p_is_turn : FnScope ["thing", "many"] ["thing", "many"] (defScope st_p_is_turn) := ⟨rfl, rfl, rfl, by decide +kernel, rfl, by decide +kernel, by decide +kernel⟩
theorem ok_p_is_turn (T : Tx K mg cE) : DefOk P w K mg base ⟨P, w, K, cE, fun _ => none, none, none, none, fun _ => none⟩ 3 "is_turn" ["thing", "many"] 2 h_p_is_turn :=
  di_def _ T.d_p_is_turn sc_p_is_turn 2 rfl 2 rfl b_p_is_turn fun f cdv A outer s H E hr tk hp => by
  have hu := hu70 hr
  have nd := sc_p_is_turn.nd
  exact ss_one (t_ret (z_o (z_or (z_in hu ⟨rfl, rfl, rfl⟩ (z_v 0) (z_tup (z_aO (z_s) (z_aO (z_s) (z_aN))))) (z_one (z_call' (ok_p_is_room T) (hr.mono (by decide)) tk (z_aC (z_v 0) (z_aC (z_v 1) (z_aN))) (len_aC (len_aC (len_aN))))))))
theorem sc_p_is_cell : FnScope ["cell", "many"] ["cell", "many"] (defScope st_p_is_cell) := ⟨rfl, rfl, rfl, by decide +kernel, rfl, by decide +kernel, by decide +kernel⟩
theorem ok_p_is_cell (T : Tx K mg cE) : DefOk P w K mg base ⟨P, w, K, cE, fun _ => none, none, none, none, fun _ => none⟩ 3 "is_cell" ["cell", "many"] 2 h_p_is_cell :=
  di_def _ T.d_p_is_cell sc_p_is_cell 2 rfl 2 rfl b_p_is_cell fun f cdv A outer s H E hr tk hp => by
  have hu := hu70 hr
  have nd := sc_p_is_cell.nd
  exact ss_one (t_ret (z_o (z_and (z_call' (ok_p_is_room T) (hr.mono (by decide)) tk (z_aC (z_ix hu ⟨rfl, rfl, rfl⟩ (z_v 0) (z_i)) (z_aC (z_v 1) (z_aN))) (len_aC (len_aC (len_aN)))) (z_and (z_call' (ok_p_is_whole T) (hr.mono (by decide)) tk (z_aC (z_ix hu ⟨rfl, rfl, rfl⟩ (z_v 0) (z_i)) (z_aN)) (len_aC (len_aN))) (z_one (z_in hu ⟨rfl, rfl, rfl⟩ (z_ix hu ⟨rfl, rfl, rfl⟩ (z_v 0) (z_i)) (z_gtup ⟨rfl, rfl, rfl⟩ T.c_STEPS)))))))
theorem sc_p_look_through : FnScope ["row", "room", "rows", "left", "cells", "right", "cell"] ["row", "room", "rows"] (defScope st_p_look_through) := ⟨rfl, rfl, rfl, by decide +kernel, rfl, by decide +kernel, by decide +kernel⟩
theorem ok_p_look_through (T : Tx K mg cE) : DefOk P w K mg base ⟨P, w, K, cE, fun _ => none, none, none, none, fun _ => none⟩ 4 "look_through" ["row", "room", "rows"] 3 h_p_look_through :=
  di_def _ T.d_p_look_through sc_p_look_through 3 rfl 7 rfl b_p_look_through fun f cdv A outer s H E hr tk hp => by
  have hu := hu70 hr
  have nd := sc_p_look_through.nd
  exact ss_cons (t_unpA (z_v 0) (g_many ⟨rfl, rfl, rfl⟩ (g_cons (g_one 3 nd) (g_cons (g_one 4 nd) (g_cons (g_one 5 nd) (g_nil))))) (g_manyL ⟨rfl, rfl, rfl⟩ (g_cons (g_one 3 nd) (g_cons (g_one 4 nd) (g_cons (g_one 5 nd) (g_nil)))))) <|
  ss_cons (t_if (y_w (w_or (y_lt (z_len ⟨rfl, rfl, rfl⟩ (z_aC (z_v 4) (z_aN)) T.b_len) (z_i)) (w_or (y_gt (z_len ⟨rfl, rfl, rfl⟩ (z_aC (z_v 4) (z_aN)) T.b_len) (z_len ⟨rfl, rfl, rfl⟩ (z_aC (z_gs T.c_SIGNS.choose_spec) (z_aN)) T.b_len)) (w_or1 (y_ne hu ⟨rfl, rfl, rfl⟩ (z_len ⟨rfl, rfl, rfl⟩ (z_aC (z_v 4) (z_aN)) T.b_len) (z_len ⟨rfl, rfl, rfl⟩ (z_aC (z_ix hu ⟨rfl, rfl, rfl⟩ (z_ix hu ⟨rfl, rfl, rfl⟩ (z_v 2) (z_i)) (z_i)) (z_aN)) T.b_len))))))
    (ss_one (t_raise 2 T.x_NoMachine (fun a => xi_NoMachine T a) (hr.mono (by decide)) tk (z_aC (z_s) (z_aC (z_v 1) (z_aN))) (len_aC (len_aC (len_aN)))))
    (ss_nil)) <|
  ss_cons (t_if (y_not (y_e (z_call' (ok_p_is_turn T) (hr.mono (by decide)) tk (z_aC (z_v 3) (z_aC (z_len ⟨rfl, rfl, rfl⟩ (z_aC (z_v 2) (z_aN)) T.b_len) (z_aN))) (len_aC (len_aC (len_aN))))))
    (ss_one (t_raise 2 T.x_NoMachine (fun a => xi_NoMachine T a) (hr.mono (by decide)) tk (z_aC (z_s) (z_aC (z_v 1) (z_aN))) (len_aC (len_aC (len_aN)))))
    (ss_nil)) <|
  ss_cons (t_if (y_not (y_e (z_all rfl ⟨rfl, rfl, rfl⟩ (z_aC (z_comp [("cell", 6)] nd (i_seq ⟨rfl, rfl, rfl⟩ (z_v 4)) (fun _ _ _ _ _ => g_one 6 nd) (fun _ _ _ _ _ => sts_nil) (fun _ _ _ _ _ => z_call' (ok_p_is_cell T) (hr.mono (by decide)) takes0 (z_aC (z_v 6) (z_aC (z_len ⟨rfl, rfl, rfl⟩ (z_aC (z_v 2) (z_aN)) T.b_len) (z_aN))) (len_aC (len_aC (len_aN))))) (z_aN)) T.b_all)))
    (ss_one (t_raise 2 T.x_NoMachine (fun a => xi_NoMachine T a) (hr.mono (by decide)) tk (z_aC (z_s) (z_aC (z_v 1) (z_aN))) (len_aC (len_aC (len_aN)))))
    (ss_nil)) <|
  ss_one (t_if (y_not (y_e (z_call' (ok_p_is_turn T) (hr.mono (by decide)) tk (z_aC (z_v 5) (z_aC (z_len ⟨rfl, rfl, rfl⟩ (z_aC (z_v 2) (z_aN)) T.b_len) (z_aN))) (len_aC (len_aC (len_aN))))))
    (ss_one (t_raise 2 T.x_NoMachine (fun a => xi_NoMachine T a) (hr.mono (by decide)) tk (z_aC (z_s) (z_aC (z_v 1) (z_aN))) (len_aC (len_aC (len_aN)))))
    (ss_nil))
theorem sc_p_machine_of : FnScope ["rows", "room", "row", "cell"] ["rows"] (defScope st_p_machine_of) := ⟨rfl, rfl, rfl, by decide +kernel, rfl, by decide +kernel, by decide +kernel⟩
theorem ok_p_machine_of (T : Tx K mg cE) : DefOk P w K mg base ⟨P, w, K, cE, fun _ => none, none, none, none, fun _ => none⟩ 5 "machine_of" ["rows"] 1 h_p_machine_of :=
  di_def _ T.d_p_machine_of sc_p_machine_of 1 rfl 4 rfl b_p_machine_of fun f cdv A outer s H E hr tk hp => by
  have hu := hu70 hr
  have nd := sc_p_machine_of.nd
  exact ss_cons (t_if (y_w (w_or (y_lt (z_len ⟨rfl, rfl, rfl⟩ (z_aC (z_v 0) (z_aN)) T.b_len) (z_i)) (w_or1 (y_gt (z_len ⟨rfl, rfl, rfl⟩ (z_aC (z_v 0) (z_aN)) T.b_len) (z_gi T.c_MOST_ROOMS.choose_spec)))))
    (ss_one (t_raise 2 T.x_NoMachine (fun a => xi_NoMachine T a) (hr.mono (by decide)) tk (z_aC (z_s) (z_aC (z_len ⟨rfl, rfl, rfl⟩ (z_aC (z_v 0) (z_aN)) T.b_len) (z_aN))) (len_aC (len_aC (len_aN)))))
    (ss_nil)) <|
  ss_cons (t_for hp (i_en ⟨rfl, rfl, rfl⟩ (z_aO (z_o (z_v 0)) (z_aN)) T.b_enumerate) (g_many ⟨rfl, rfl, rfl⟩ (g_cons (g_one 1 nd) (g_cons (g_one 2 nd) (g_nil))))
    (ss_one (t_drop (z_call' (ok_p_look_through T) (hr.mono (by decide)) tk (z_aC (z_v 2) (z_aC (z_v 1) (z_aC (z_v 0) (z_aN)))) (len_aC (len_aC (len_aC (len_aN)))))))) <|
  ss_one (t_ret (z_tuple ⟨rfl, rfl, rfl⟩ (z_aC (z_comp [("row", 2)] nd (i_seq ⟨rfl, rfl, rfl⟩ (z_v 0)) (fun _ _ _ _ _ => g_one 2 nd) (fun _ _ _ _ _ => sts_nil) (fun _ _ _ _ _ => z_tup (z_aO (z_o (z_ix hu ⟨rfl, rfl, rfl⟩ (z_v 2) (z_i))) (z_aO (z_tuple ⟨rfl, rfl, rfl⟩ (z_aC (z_comp [("cell", 3)] nd (i_seq ⟨rfl, rfl, rfl⟩ (z_ix hu ⟨rfl, rfl, rfl⟩ (z_v 2) (z_i))) (fun _ _ _ _ _ => g_one 3 nd) (fun _ _ _ _ _ => sts_nil) (fun _ _ _ _ _ => z_tup (z_aO (z_o (z_ix hu ⟨rfl, rfl, rfl⟩ (z_v 3) (z_i))) (z_aO (z_o (z_ix hu ⟨rfl, rfl, rfl⟩ (z_v 3) (z_i))) (z_aN))))) (z_aN)) T.b_tuple) (z_aO (z_o (z_ix hu ⟨rfl, rfl, rfl⟩ (z_v 2) (z_i))) (z_aN)))))) (z_aN)) T.b_tuple))
theorem sc_p_signs_of : FnScope ["machine"] ["machine"] (defScope st_p_signs_of) := ⟨rfl, rfl, rfl, by decide +kernel, rfl, by decide +kernel, by decide +kernel⟩
theorem ok_p_signs_of (T : Tx K mg cE) : DefOk P w K mg base ⟨P, w, K, cE, fun _ => none, none, none, none, fun _ => none⟩ 1 "signs_of" ["machine"] 1 h_p_signs_of :=
  di_def _ T.d_p_signs_of sc_p_signs_of 1 rfl 1 rfl b_p_signs_of fun f cdv A outer s H E hr tk hp => by
  have hu := hu70 hr
  have nd := sc_p_signs_of.nd
  exact ss_one (t_ret (z_len ⟨rfl, rfl, rfl⟩ (z_aC (z_ix hu ⟨rfl, rfl, rfl⟩ (z_ix hu ⟨rfl, rfl, rfl⟩ (z_v 0) (z_i)) (z_i)) (z_aN)) T.b_len))
theorem sc_l_cell : FnScope ["_law_script", "_law_k"] ["_law_script", "_law_k"] (defScope st_l_cell) := ⟨rfl, rfl, rfl, by decide +kernel, rfl, by decide +kernel, by decide +kernel⟩
theorem ok_l_cell (T : Tx K mg cE) : DefOk P w K mg base ⟨P, w, K, cE, fun _ => none, none, none, none, fun _ => none⟩ 1 "_law_cell" ["_law_script", "_law_k"] 2 h_l_cell :=
  di_def _ T.d_l_cell sc_l_cell 2 rfl 2 rfl b_l_cell fun f cdv A outer s H E hr tk hp => by
  have hu := hu70 hr
  have nd := sc_l_cell.nd
  exact ss_cons (t_if (y_lt (z_v 1) (z_len ⟨rfl, rfl, rfl⟩ (z_aC (z_v 0) (z_aN)) T.b_len))
    (ss_one (t_ret (z_o (z_ix hu ⟨rfl, rfl, rfl⟩ (z_v 0) (z_v 1)))))
    (ss_nil)) <|
  ss_one (t_ret (z_i))
theorem sc_l_mixed : FnScope ["_law_script", "_law_few", "_law_many", "_law_own", "_law_numbers", "_law_k", "_law_cell_here"] ["_law_script", "_law_few"] (defScope st_l_mixed) := ⟨rfl, rfl, rfl, by decide +kernel, rfl, by decide +kernel, by decide +kernel⟩
theorem ok_l_mixed (T : Tx K mg cE) : DefOk P w K mg base ⟨P, w, K, cE, fun _ => none, none, none, none, fun _ => none⟩ 2 "_law_mixed" ["_law_script", "_law_few"] 2 h_l_mixed :=
  di_def _ T.d_l_mixed sc_l_mixed 2 rfl 7 rfl b_l_mixed fun f cdv A outer s H E hr tk hp => by
  have hu := hu70 hr
  have nd := sc_l_mixed.nd
  exact ss_cons (t_set 2 nd (z_max rfl (z_aC (z_v 1) (z_aC (z_min rfl (z_aC (z_i) (z_aC (z_len ⟨rfl, rfl, rfl⟩ (z_aC (z_v 0) (z_aN)) T.b_len) (z_aN))) T.b_min) (z_aN))) T.b_max)) <|
  ss_cons (t_set 3 nd (z_eq hu ⟨rfl, rfl, rfl⟩ (z_mod (z_call' (ok_l_cell T) (hr.mono (by decide)) tk (z_aC (z_v 0) (z_aC (z_i) (z_aN))) (len_aC (len_aC (len_aN)))) (z_i)) (z_i))) <|
  ss_cons (t_set 4 nd (z_lst (z_aN))) <|
  ss_cons (t_for hp (i_r1 (z_aC (z_v 2) (z_aN)) T.b_range) (g_one 5 nd)
    (ss_cons (t_set 6 nd (z_fdiv (z_call' (ok_l_cell T) (hr.mono (by decide)) tk (z_aC (z_v 0) (z_aC (z_v 5) (z_aN))) (len_aC (len_aC (len_aN)))) (z_add ⟨rfl, rfl, rfl⟩ (z_i) (z_int (z_aC (z_eq hu ⟨rfl, rfl, rfl⟩ (z_v 5) (z_i)) (z_aN)) T.b_int)))) <|
    ss_cons (t_if (y_w (w_or (y_not (y_e (z_v 3))) (w_or1 (y_ge (z_v 5) (z_len ⟨rfl, rfl, rfl⟩ (z_aC (z_v 0) (z_aN)) T.b_len)))))
      (ss_cons (t_set 6 nd (z_mod (z_mul (z_add ⟨rfl, rfl, rfl⟩ (z_mod (z_v 6) (z_pow (z_i) (z_i))) (z_mul (z_i) (z_v 5))) (z_i)) (z_i))) <|
      ss_one (t_set 6 nd (z_mod (z_mul (z_v 6) (z_i)) (z_i))))
      (ss_nil)) <|
    ss_one (t_app 4 ⟨rfl, rfl, rfl⟩ (z_o (z_v 6))))) <|
  ss_one (t_retV 4)
theorem sc_l_turn : FnScope ["_law_cell_here", "_law_many", "_law_at"] ["_law_cell_here", "_law_many"] (defScope st_l_turn) := ⟨rfl, rfl, rfl, by decide +kernel, rfl, by decide +kernel, by decide +kernel⟩
theorem ok_l_turn (T : Tx K mg cE) : DefOk P w K mg base ⟨P, w, K, cE, fun _ => none, none, none, none, fun _ => none⟩ 1 "_law_turn" ["_law_cell_here", "_law_many"] 2 h_l_turn :=
  di_def _ T.d_l_turn sc_l_turn 2 rfl 3 rfl b_l_turn fun f cdv A outer s H E hr tk hp => by
  have hu := hu70 hr
  have nd := sc_l_turn.nd
  exact ss_cons (t_set 2 nd (z_mod (z_v 0) (z_add ⟨rfl, rfl, rfl⟩ (z_v 1) (z_i)))) <|
  ss_cons (t_if (y_lt (z_v 2) (z_v 1))
    (ss_one (t_retV 2))
    (ss_nil)) <|
  ss_one (t_ret (z_o (z_ix hu ⟨rfl, rfl, rfl⟩ (z_lst (z_aO (z_s) (z_aO (z_s) (z_aN)))) (z_sub (z_v 2) (z_v 1)))))
theorem sc_l_row : FnScope ["_law_cell_here", "_law_many", "_law_signs", "_law_left", "_law_cells", "_law_k", "_law_part"] ["_law_cell_here", "_law_many", "_law_signs"] (defScope st_l_row) := ⟨rfl, rfl, rfl, by decide +kernel, rfl, by decide +kernel, by decide +kernel⟩
theorem ok_l_row (T : Tx K mg cE) : DefOk P w K mg base ⟨P, w, K, cE, fun _ => none, none, none, none, fun _ => none⟩ 2 "_law_row" ["_law_cell_here", "_law_many", "_law_signs"] 3 h_l_row :=
  di_def _ T.d_l_row sc_l_row 3 rfl 7 rfl b_l_row fun f cdv A outer s H E hr tk hp => by
  have hu := hu70 hr
  have nd := sc_l_row.nd
  exact ss_cons (t_set 3 nd (z_call' (ok_l_turn T) (hr.mono (by decide)) tk (z_aC (z_v 0) (z_aC (z_v 1) (z_aN))) (len_aC (len_aC (len_aN))))) <|
  ss_cons (t_set 0 nd (z_fdiv (z_v 0) (z_add ⟨rfl, rfl, rfl⟩ (z_v 1) (z_i)))) <|
  ss_cons (t_set 4 nd (z_lst (z_aN))) <|
  ss_cons (t_for hp (i_r1 (z_aC (z_v 2) (z_aN)) T.b_range) (g_one 5 nd)
    (ss_cons (t_set 6 nd (z_mod (z_v 0) (z_mul (z_i) (z_v 1)))) <|
    ss_cons (t_set 0 nd (z_fdiv (z_v 0) (z_mul (z_i) (z_v 1)))) <|
    ss_one (t_app 4 ⟨rfl, rfl, rfl⟩ (z_tup (z_aO (z_fdiv (z_v 6) (z_i)) (z_aO (z_sub (z_i) (z_mul (z_i) (z_mod (z_v 6) (z_i)))) (z_aN))))))) <|
  ss_fz (i := 3) <| ss_one (t_ret (z_tup (z_aO (z_o (z_v 3)) (z_aO (z_tuple ⟨rfl, rfl, rfl⟩ (z_aC (z_v 4) (z_aN)) T.b_tuple) (z_aO (z_call' (ok_l_turn T) (hr.mono (by decide)) tk (z_aC (z_v 0) (z_aC (z_v 1) (z_aN))) (len_aC (len_aC (len_aN)))) (z_aN))))))
theorem sc_l_machine : FnScope ["_law_cells", "_law_many", "_law_signs", "_law_rows_here", "_law_k", "_law_cell_here"] ["_law_cells", "_law_many", "_law_signs"] (defScope st_l_machine) := ⟨rfl, rfl, rfl, by decide +kernel, rfl, by decide +kernel, by decide +kernel⟩
theorem ok_l_machine (T : Tx K mg cE) : DefOk P w K mg base ⟨P, w, K, cE, fun _ => none, none, none, none, fun _ => none⟩ 3 "_law_machine" ["_law_cells", "_law_many", "_law_signs"] 3 h_l_machine :=
  di_def _ T.d_l_machine sc_l_machine 3 rfl 6 rfl b_l_machine fun f cdv A outer s H E hr tk hp => by
  have hu := hu70 hr
  have nd := sc_l_machine.nd
  exact ss_cons (t_set 3 nd (z_lst (z_aN))) <|
  ss_cons (t_for hp (i_r1 (z_aC (z_v 1) (z_aN)) T.b_range) (g_one 4 nd)
    (ss_cons (t_set 5 nd (z_mul (z_i) (z_add ⟨rfl, rfl, rfl⟩ (z_v 4) (z_i)))) <|
    ss_cons (t_if (y_gt (z_len ⟨rfl, rfl, rfl⟩ (z_aC (z_v 0) (z_aN)) T.b_len) (z_i))
      (ss_one (t_set 5 nd (z_add ⟨rfl, rfl, rfl⟩ (z_ix hu ⟨rfl, rfl, rfl⟩ (z_v 0) (z_min rfl (z_aC (z_v 4) (z_aC (z_sub (z_len ⟨rfl, rfl, rfl⟩ (z_aC (z_v 0) (z_aN)) T.b_len) (z_i)) (z_aN))) T.b_min)) (z_mul (z_v 5) (z_int (z_aC (z_ge (z_v 4) (z_len ⟨rfl, rfl, rfl⟩ (z_aC (z_v 0) (z_aN)) T.b_len)) (z_aN)) T.b_int)))))
      (ss_nil)) <|
    ss_one (t_app 3 ⟨rfl, rfl, rfl⟩ (z_call' (ok_l_row T) (hr.mono (by decide)) tk (z_aC (z_v 5) (z_aC (z_v 1) (z_aC (z_v 2) (z_aN)))) (len_aC (len_aC (len_aC (len_aN)))))))) <|
  ss_one (t_ret (z_tuple ⟨rfl, rfl, rfl⟩ (z_aC (z_v 3) (z_aN)) T.b_tuple))
theorem sc_l_odd_turn : FnScope ["_law_cell_here", "_law_many"] ["_law_cell_here", "_law_many"] (defScope st_l_odd_turn) := ⟨rfl, rfl, rfl, by decide +kernel, rfl, by decide +kernel, by decide +kernel⟩
theorem ok_l_odd_turn (T : Tx K mg cE) : DefOk P w K mg base ⟨P, w, K, cE, fun _ => none, none, none, none, fun _ => none⟩ 1 "_law_odd_turn" ["_law_cell_here", "_law_many"] 2 h_l_odd_turn :=
  di_def _ T.d_l_odd_turn sc_l_odd_turn 2 rfl 2 rfl b_l_odd_turn fun f cdv A outer s H E hr tk hp => by
  have hu := hu70 hr
  have nd := sc_l_odd_turn.nd
  exact ss_one (t_ret (z_o (z_ix hu ⟨rfl, rfl, rfl⟩ (z_lst (z_aO (z_neg (z_i)) (z_aO (z_o (z_v 1)) (z_aO (z_add ⟨rfl, rfl, rfl⟩ (z_v 1) (z_i)) (z_aO (z_s) (z_aO (z_s) (z_aO (z_s) (z_aO (z_s) (z_aO (z_s) (z_aO (z_pow (z_i) (z_i)) (z_aO (z_neg (z_pow (z_i) (z_i))) (z_aN)))))))))))) (z_mod (z_v 0) (z_i)))))
theorem sc_l_odd_cells : FnScope ["_law_cells", "_law_cell_here", "_law_many", "_law_kind", "_law_at", "_law_one"] ["_law_cells", "_law_cell_here", "_law_many"] (defScope st_l_odd_cells) := ⟨rfl, rfl, rfl, by decide +kernel, rfl, by decide +kernel, by decide +kernel⟩
theorem ok_l_odd_cells (T : Tx K mg cE) : DefOk P w K mg base ⟨P, w, K, cE, fun _ => none, none, none, none, fun _ => none⟩ 1 "_law_odd_cells" ["_law_cells", "_law_cell_here", "_law_many"] 3 h_l_odd_cells :=
  di_def _ T.d_l_odd_cells sc_l_odd_cells 3 rfl 6 rfl b_l_odd_cells fun f cdv A outer s H E hr tk hp => by
  have hu := hu70 hr
  have nd := sc_l_odd_cells.nd
  exact ss_cons (t_set 3 nd (z_mod (z_v 1) (z_i))) <|
  ss_cons (t_if (y_eq hu ⟨rfl, rfl, rfl⟩ (z_v 3) (z_i))
    (ss_one (t_ret (z_lst (z_aN))))
    (ss_nil)) <|
  ss_cons (t_if (y_eq hu ⟨rfl, rfl, rfl⟩ (z_v 3) (z_i))
    (ss_one (t_ret (z_cat ⟨rfl, rfl, rfl⟩ (z_v 0) (z_lst (z_aO (z_tup (z_aO (z_i) (z_aO (z_i) (z_aN)))) (z_aN))))))
    (ss_nil)) <|
  ss_cons (t_if (y_eq hu ⟨rfl, rfl, rfl⟩ (z_v 3) (z_i))
    (ss_one (t_ret (z_sl ⟨rfl, rfl, rfl⟩ (z_v 0) (z_pe (z_i)) z_pn)))
    (ss_nil)) <|
  ss_cons (t_if (y_eq hu ⟨rfl, rfl, rfl⟩ (z_v 3) (z_i))
    (ss_one (t_ret (z_lst (z_aO (z_tup (z_aO (z_i) (z_aO (z_i) (z_aN)))) (z_aO (z_tup (z_aO (z_i) (z_aO (z_neg (z_i)) (z_aN)))) (z_aO (z_tup (z_aO (z_i) (z_aO (z_i) (z_aN)))) (z_aO (z_tup (z_aO (z_i) (z_aO (z_i) (z_aN)))) (z_aN))))))))
    (ss_nil)) <|
  ss_cons (t_set 4 nd (z_mod (z_fdiv (z_v 1) (z_i)) (z_len ⟨rfl, rfl, rfl⟩ (z_aC (z_v 0) (z_aN)) T.b_len))) <|
  ss_cons (t_set 5 nd (z_lst (z_aO (z_tup (z_aO (z_o (z_ix hu ⟨rfl, rfl, rfl⟩ (z_ix hu ⟨rfl, rfl, rfl⟩ (z_v 0) (z_v 4)) (z_i))) (z_aO (z_o (z_ix hu ⟨rfl, rfl, rfl⟩ (z_lst (z_aO (z_i) (z_aO (z_i) (z_aO (z_neg (z_i)) (z_aO (z_pow (z_i) (z_i)) (z_aN)))))) (z_mod (z_fdiv (z_v 1) (z_i)) (z_i)))) (z_aN)))) (z_aO (z_tup (z_aO (z_o (z_ix hu ⟨rfl, rfl, rfl⟩ (z_lst (z_aO (z_neg (z_i)) (z_aO (z_o (z_v 2)) (z_aO (z_add ⟨rfl, rfl, rfl⟩ (z_v 2) (z_i)) (z_aO (z_pow (z_i) (z_i)) (z_aN)))))) (z_mod (z_fdiv (z_v 1) (z_i)) (z_i)))) (z_aO (z_i) (z_aN)))) (z_aN))))) <|
  ss_one (t_ret (z_cat ⟨rfl, rfl, rfl⟩ (z_cat ⟨rfl, rfl, rfl⟩ (z_sl ⟨rfl, rfl, rfl⟩ (z_v 0) z_pn (z_pe (z_v 4))) (z_lst (z_aO (z_o (z_ix hu ⟨rfl, rfl, rfl⟩ (z_v 5) (z_mod (z_v 3) (z_i)))) (z_aN)))) (z_sl ⟨rfl, rfl, rfl⟩ (z_v 0) (z_pe (z_add ⟨rfl, rfl, rfl⟩ (z_v 4) (z_i))) z_pn)))
theorem sc_l_rows : FnScope ["_law_script", "_law_many", "_law_signs", "_law_rows_here", "_law_row_here", "_law_k", "_law_cell_here"] ["_law_script", "_law_many", "_law_signs"] (defScope st_l_rows) := ⟨rfl, rfl, rfl, by decide +kernel, rfl, by decide +kernel, by decide +kernel⟩
theorem ok_l_rows (T : Tx K mg cE) : DefOk P w K mg base ⟨P, w, K, cE, fun _ => none, none, none, none, fun _ => none⟩ 4 "_law_rows" ["_law_script", "_law_many", "_law_signs"] 3 h_l_rows :=
  di_def _ T.d_l_rows sc_l_rows 3 rfl 7 rfl b_l_rows fun f cdv A outer s H E hr tk hp => by
  have hu := hu70 hr
  have nd := sc_l_rows.nd
  exact ss_cons (t_set 3 nd (z_lst (z_aN))) <|
  ss_cons (t_for hp (i_seq ⟨rfl, rfl, rfl⟩ (z_call' (ok_l_machine T) (hr.mono (by decide)) tk (z_aC (z_sl ⟨rfl, rfl, rfl⟩ (z_v 0) (z_pe (z_i)) z_pn) (z_aC (z_v 1) (z_aC (z_v 2) (z_aN)))) (len_aC (len_aC (len_aC (len_aN)))))) (g_one 4 nd)
    (ss_one (t_app 3 ⟨rfl, rfl, rfl⟩ (z_lst (z_aO (z_o (z_ix hu ⟨rfl, rfl, rfl⟩ (z_v 4) (z_i))) (z_aO (z_frz (z_li rfl ⟨rfl, rfl, rfl⟩ (z_aC (z_ix hu ⟨rfl, rfl, rfl⟩ (z_v 4) (z_i)) (z_aN)) T.b_list)) (z_aO (z_o (z_ix hu ⟨rfl, rfl, rfl⟩ (z_v 4) (z_i))) (z_aN)))))))) <|
  ss_cons (t_for hp (i_r1 (z_aC (z_mul (z_mod (z_call' (ok_l_cell T) (hr.mono (by decide)) tk (z_aC (z_v 0) (z_aC (z_i) (z_aN))) (len_aC (len_aC (len_aN)))) (z_i)) (z_int (z_aC (z_gt (z_v 1) (z_i)) (z_aN)) T.b_int)) (z_aN)) T.b_range) (g_one 5 nd)
    (ss_cons (t_set 6 nd (z_add ⟨rfl, rfl, rfl⟩ (z_fdiv (z_call' (ok_l_cell T) (hr.mono (by decide)) tk (z_aC (z_v 0) (z_aC (z_i) (z_aN))) (len_aC (len_aC (len_aN)))) (z_add ⟨rfl, rfl, rfl⟩ (z_v 5) (z_i))) (z_call' (ok_l_cell T) (hr.mono (by decide)) tk (z_aC (z_v 0) (z_aC (z_add ⟨rfl, rfl, rfl⟩ (z_i) (z_v 5)) (z_aN))) (len_aC (len_aC (len_aN)))))) <|
    t_al 3 4 nd (z_mod (z_v 6) (z_v 1)) (fun k => a_if (y_eq hu ⟨rfl, rfl, rfl⟩ (z_mod (z_fdiv (z_v 6) (z_i)) (z_i)) (z_i)) (a_one (a_put (z_call' (ok_l_odd_turn T) (hr.mono (by decide)) tk (z_aC (z_fdiv (z_v 6) (z_i)) (z_aC (z_v 1) (z_aN))) (len_aC (len_aC (len_aN)))) (z_i))) (a_one (a_if (y_eq hu ⟨rfl, rfl, rfl⟩ (z_mod (z_fdiv (z_v 6) (z_i)) (z_i)) (z_i)) (a_one (a_put (z_call' (ok_l_odd_turn T) (hr.mono (by decide)) tk (z_aC (z_fdiv (z_v 6) (z_i)) (z_aC (z_v 1) (z_aN))) (len_aC (len_aC (len_aN)))) (z_i))) (a_one (a_if (y_gt (z_len ⟨rfl, rfl, rfl⟩ (z_aC (z_ix hu ⟨rfl, rfl, rfl⟩ (z_v 4) (z_i)) (z_aN)) T.b_len) (z_i)) (a_one (a_put (z_call' (ok_l_odd_cells T) (hr.mono (by decide)) tk (z_aC (z_ix hu ⟨rfl, rfl, rfl⟩ (z_v 4) (z_i)) (z_aC (z_fdiv (z_v 6) (z_i)) (z_aC (z_v 1) (z_aN)))) (len_aC (len_aC (len_aC (len_aN))))) (z_i))) (a_skip)))))))) <|
  ss_cons (t_if (y_eq hu ⟨rfl, rfl, rfl⟩ (z_mod (z_fdiv (z_call' (ok_l_cell T) (hr.mono (by decide)) tk (z_aC (z_v 0) (z_aC (z_i) (z_aN))) (len_aC (len_aC (len_aN)))) (z_i)) (z_i)) (z_i))
    (ss_one (t_ret (z_tmp 3 (z_comp [("_law_row_here", 4)] nd (i_seq ⟨rfl, rfl, rfl⟩ (z_v 3)) (fun _ _ _ _ _ => g_one 4 nd) (fun _ _ _ _ _ => sts_nil) (fun _ _ _ _ _ => z_tuple ⟨rfl, rfl, rfl⟩ (z_aC (z_lst (z_aO (z_o (z_ix hu ⟨rfl, rfl, rfl⟩ (z_v 4) (z_i))) (z_aO (z_tuple ⟨rfl, rfl, rfl⟩ (z_aC (z_ix hu ⟨rfl, rfl, rfl⟩ (z_v 4) (z_i)) (z_aN)) T.b_tuple) (z_aO (z_o (z_ix hu ⟨rfl, rfl, rfl⟩ (z_v 4) (z_i))) (z_aN))))) (z_aN)) T.b_tuple)))))
    (ss_nil)) <|
  ss_one (t_ret (z_tmp 3 (z_comp [("_law_row_here", 4)] nd (i_seq ⟨rfl, rfl, rfl⟩ (z_v 3)) (fun _ _ _ _ _ => g_one 4 nd) (fun _ _ _ _ _ => sts_nil) (fun _ _ _ _ _ => z_lst (z_aO (z_o (z_ix hu ⟨rfl, rfl, rfl⟩ (z_v 4) (z_i))) (z_aO (z_comp [("_law_cell_here", 6)] nd (i_seq ⟨rfl, rfl, rfl⟩ (z_ix hu ⟨rfl, rfl, rfl⟩ (z_v 4) (z_i))) (fun _ _ _ _ _ => g_one 6 nd) (fun _ _ _ _ _ => sts_nil) (fun _ _ _ _ _ => z_li rfl ⟨rfl, rfl, rfl⟩ (z_aC (z_v 6) (z_aN)) T.b_list)) (z_aO (z_o (z_ix hu ⟨rfl, rfl, rfl⟩ (z_v 4) (z_i))) (z_aN))))))))
theorem sc_l_is_room : FnScope ["_law_thing", "_law_many"] ["_law_thing", "_law_many"] (defScope st_l_is_room) := ⟨rfl, rfl, rfl, by decide +kernel, rfl, by decide +kernel, by decide +kernel⟩
theorem ok_l_is_room (T : Tx K mg cE) : DefOk P w K mg base ⟨P, w, K, cE, fun _ => none, none, none, none, fun _ => none⟩ 1 "_law_is_room" ["_law_thing", "_law_many"] 2 h_l_is_room :=
  di_def _ T.d_l_is_room sc_l_is_room 2 rfl 2 rfl b_l_is_room fun f cdv A outer s H E hr tk hp => by
  have hu := hu70 hr
  have nd := sc_l_is_room.nd
  exact ss_one (t_ret (z_o (z_and (z_isi ⟨rfl, rfl, rfl⟩ .int (z_v 0) T.b_isinstance T.b_int) (z_one (z_lelt (z_i) (z_v 0) (z_v 1))))))
theorem sc_l_fault : FnScope ["_law_rows_here", "_law_many", "_law_room", "_law_row_here", "_law_cell_here"] ["_law_rows_here"] (defScope st_l_fault) := ⟨rfl, rfl, rfl, by decide +kernel, rfl, by decide +kernel, by decide +kernel⟩
theorem ok_l_fault (T : Tx K mg cE) : DefOk P w K mg base ⟨P, w, K, cE, fun _ => none, none, none, none, fun _ => none⟩ 2 "_law_fault" ["_law_rows_here"] 1 h_l_fault :=
  di_def _ T.d_l_fault sc_l_fault 1 rfl 5 rfl b_l_fault fun f cdv A outer s H E hr tk hp => by
  have hu := hu70 hr
  have nd := sc_l_fault.nd
  exact ss_cons (t_set 1 nd (z_len ⟨rfl, rfl, rfl⟩ (z_aC (z_v 0) (z_aN)) T.b_len)) <|
  ss_cons (t_if (y_w (w_or (y_lt (z_v 1) (z_i)) (w_or1 (y_gt (z_v 1) (z_i)))))
    (ss_one (t_ret (z_tup (z_aO (z_s) (z_aO (z_o (z_v 1)) (z_aN))))))
    (ss_nil)) <|
  ss_cons (t_for hp (i_en ⟨rfl, rfl, rfl⟩ (z_aO (z_o (z_v 0)) (z_aN)) T.b_enumerate) (g_many ⟨rfl, rfl, rfl⟩ (g_cons (g_one 2 nd) (g_cons (g_one 3 nd) (g_nil))))
    (ss_cons (t_if (y_w (w_or (y_nin hu ⟨rfl, rfl, rfl⟩ (z_len ⟨rfl, rfl, rfl⟩ (z_aC (z_ix hu ⟨rfl, rfl, rfl⟩ (z_v 3) (z_i)) (z_aN)) T.b_len) (z_tup (z_aO (z_i) (z_aO (z_i) (z_aO (z_i) (z_aN)))))) (w_or1 (y_ne hu ⟨rfl, rfl, rfl⟩ (z_len ⟨rfl, rfl, rfl⟩ (z_aC (z_ix hu ⟨rfl, rfl, rfl⟩ (z_v 3) (z_i)) (z_aN)) T.b_len) (z_len ⟨rfl, rfl, rfl⟩ (z_aC (z_ix hu ⟨rfl, rfl, rfl⟩ (z_ix hu ⟨rfl, rfl, rfl⟩ (z_v 0) (z_i)) (z_i)) (z_aN)) T.b_len)))))
      (ss_one (t_ret (z_tup (z_aO (z_s) (z_aO (z_o (z_v 2)) (z_aN))))))
      (ss_nil)) <|
    ss_cons (t_if (y_w (w_and (y_nin hu ⟨rfl, rfl, rfl⟩ (z_ix hu ⟨rfl, rfl, rfl⟩ (z_v 3) (z_i)) (z_tup (z_aO (z_s) (z_aO (z_s) (z_aN))))) (w_and1 (y_not (y_e (z_call' (ok_l_is_room T) (hr.mono (by decide)) tk (z_aC (z_ix hu ⟨rfl, rfl, rfl⟩ (z_v 3) (z_i)) (z_aC (z_v 1) (z_aN))) (len_aC (len_aC (len_aN)))))))))
      (ss_one (t_ret (z_tup (z_aO (z_s) (z_aO (z_o (z_v 2)) (z_aN))))))
      (ss_nil)) <|
    ss_cons (t_for hp (i_seq ⟨rfl, rfl, rfl⟩ (z_o (z_ix hu ⟨rfl, rfl, rfl⟩ (z_v 3) (z_i)))) (g_one 4 nd)
      (ss_one (t_if (y_w (w_or (y_not (y_e (z_call' (ok_l_is_room T) (hr.mono (by decide)) tk (z_aC (z_ix hu ⟨rfl, rfl, rfl⟩ (z_v 4) (z_i)) (z_aC (z_v 1) (z_aN))) (len_aC (len_aC (len_aN)))))) (w_or1 (y_nin hu ⟨rfl, rfl, rfl⟩ (z_ix hu ⟨rfl, rfl, rfl⟩ (z_v 4) (z_i)) (z_tup (z_aO (z_i) (z_aO (z_neg (z_i)) (z_aN))))))))
        (ss_one (t_ret (z_tup (z_aO (z_s) (z_aO (z_o (z_v 2)) (z_aN))))))
        (ss_nil)))) <|
    ss_one (t_if (y_w (w_and (y_nin hu ⟨rfl, rfl, rfl⟩ (z_ix hu ⟨rfl, rfl, rfl⟩ (z_v 3) (z_i)) (z_tup (z_aO (z_s) (z_aO (z_s) (z_aN))))) (w_and1 (y_not (y_e (z_call' (ok_l_is_room T) (hr.mono (by decide)) tk (z_aC (z_ix hu ⟨rfl, rfl, rfl⟩ (z_v 3) (z_i)) (z_aC (z_v 1) (z_aN))) (len_aC (len_aC (len_aN)))))))))
      (ss_one (t_ret (z_tup (z_aO (z_s) (z_aO (z_o (z_v 2)) (z_aN))))))
      (ss_nil)))) <|
  ss_one (t_ret (z_non))
theorem sc_l_asked : FnScope ["_law_rows_here", "_law_caught", "_law_found", "_law_others", "e"] ["_law_rows_here"] (defScope st_l_asked) := ⟨rfl, rfl, rfl, by decide +kernel, rfl, by decide +kernel, by decide +kernel⟩
theorem ok_l_asked (T : Tx K mg cE) : DefOk P w K mg base ⟨P, w, K, cE, fun _ => none, none, none, none, fun _ => none⟩ 6 "_law_asked" ["_law_rows_here"] 1 h_l_asked :=
  di_def _ T.d_l_asked sc_l_asked 1 rfl 5 rfl b_l_asked fun f cdv A outer s H E hr tk hp => by
  have hu := hu70 hr
  have nd := sc_l_asked.nd
  exact ss_cons (t_set 1 nd (z_non)) <|
  ss_cons (t_set 2 nd (z_non)) <|
  t_keep 4 (oneOfN [1, 2, 3, 4, 5, 6, 7]) (oneOfN [1, 2, 3, 4, 5, 6, 7]) T.m_WayError (fun c h => by simp [oneOfN] at h; omega) nd tk
    (fun W' pn xe tk hp => ss_one (t_set 2 nd (z_call' (ok_p_machine_of T) (hr.mono (by decide)) tk (z_aC (z_v 0) (z_aN)) (len_aC (len_aN)))))
    (fun a oe d pn c C ns hcl hk hdn hz hd => ss_one (t_set 1 nd (z_o (z_v 4))))
    (ss_cons (t_if (y_isn (z_v 1) (z_non))
      (ss_one (t_retV 2))
      (ss_nil)) <|
    ss_cons (t_set 3 nd (z_o (z_or (z_xXN (oneOfN [3]) T.i_NoText rfl (fun _ _ => rfl) (z_v 1) T.b_isinstance) (z_or (z_xXN (oneOfN [4]) T.i_NoStrip rfl (fun _ _ => rfl) (z_v 1) T.b_isinstance) (z_one (z_xXN (oneOfN [7]) T.i_TooMany rfl (fun _ _ => rfl) (z_v 1) T.b_isinstance)))))) <|
    ss_cons (t_set 3 nd (z_o (z_or (z_v 3) (z_or (z_xXN (oneOfN [5]) T.i_NoName rfl (fun _ _ => rfl) (z_v 1) T.b_isinstance) (z_one (z_xXN (oneOfN [6]) T.i_NoLine rfl (fun _ _ => rfl) (z_v 1) T.b_isinstance)))))) <|
    ss_cons (t_if (y_w (w_or (y_e (z_v 3)) (w_or (y_not (y_e (z_xXN (oneOfN [2]) T.i_NoMachine rfl (fun _ _ => rfl) (z_v 1) T.b_isinstance))) (w_or1 (y_not (y_e (z_xXvN (ty := "ValueError") rfl (fun _ _ => rfl) (z_v 1) T.b_isinstance T.b_ValueError)))))))
      (ss_one (t_ret (z_lst (z_aO (z_s) (z_aN)))))
      (ss_nil)) <|
    ss_one (t_ret (z_lst (z_aO (z_o (z_xfN tE rfl (fun _ _ => rfl) (z_v 1))) (z_aO (z_o (z_xfN tE rfl (fun _ _ => rfl) (z_v 1))) (z_aN))))))
    (fun a oe d c C ns hcl hk hdn hz hd => by
      have hk' : c = 1 ∨ c = 2 ∨ c = 3 ∨ c = 4 ∨ c = 5 ∨ c = 6 ∨ c = 7 := by simpa [oneOfN] using hk
      rcases hk' with rfl | rfl | rfl | rfl | rfl | rfl | rfl
      · obtain ⟨C2, xa, hce⟩ := T.x_WayError
        obtain ⟨rfl, rfl⟩ := xc_eq hce hcl
        obtain rfl := hdn rfl
        exact ss_cons (t_if (y_isn (z_v 1) (z_non))
      (ss_one (t_retV 2))
      (ss_nil)) <|
    ss_cons (t_set 3 nd (z_o (z_or (z_xXP List.mem_cons_self (oneOfN [3]) T.i_NoText hcl (by decide) xa.ec hz hd (fun _ _ => rfl) (z_v 1) T.b_isinstance) (z_or (z_xXP List.mem_cons_self (oneOfN [4]) T.i_NoStrip hcl (by decide) xa.ec hz hd (fun _ _ => rfl) (z_v 1) T.b_isinstance) (z_one (z_xXP List.mem_cons_self (oneOfN [7]) T.i_TooMany hcl (by decide) xa.ec hz hd (fun _ _ => rfl) (z_v 1) T.b_isinstance)))))) <|
    ss_cons (t_set 3 nd (z_o (z_or (z_v 3) (z_or (z_xXP List.mem_cons_self (oneOfN [5]) T.i_NoName hcl (by decide) xa.ec hz hd (fun _ _ => rfl) (z_v 1) T.b_isinstance) (z_one (z_xXP List.mem_cons_self (oneOfN [6]) T.i_NoLine hcl (by decide) xa.ec hz hd (fun _ _ => rfl) (z_v 1) T.b_isinstance)))))) <|
    ss_cons (t_if (y_w (w_or (y_e (z_v 3)) (w_or (y_not (y_e (z_xXP List.mem_cons_self (oneOfN [2]) T.i_NoMachine hcl (by decide) xa.ec hz hd (fun _ _ => rfl) (z_v 1) T.b_isinstance))) (w_or1 (y_not (y_e (z_xXvP List.mem_cons_self T.v_ValueError hcl (by decide) xa.ec hz hd (fun _ _ => rfl) (z_v 1) T.b_isinstance T.b_ValueError)))))))
      (ss_one (t_ret (z_lst (z_aO (z_s) (z_aN)))))
      (ss_nil)) <|
    ss_one (t_ret (z_lst (z_aO (z_o (z_xfV tE (by decide) hcl T.tE (fun _ _ => rfl) (z_v 1))) (z_aO (z_o (z_xfV tE (by decide) hcl T.tE (fun _ _ => rfl) (z_v 1))) (z_aN)))))
      · obtain ⟨C2, fI, fd, xa, hce⟩ := T.x_NoMachine
        obtain ⟨rfl, rfl⟩ := xc_eq hce hcl
        exact ss_cons (t_if (y_isn (z_v 1) (z_non))
      (ss_one (t_retV 2))
      (ss_nil)) <|
    ss_cons (t_set 3 nd (z_o (z_or (z_xXP List.mem_cons_self (oneOfN [3]) T.i_NoText hcl (by decide) (xe_ec T.e_NoMachine hcl) hz hd (fun _ _ => rfl) (z_v 1) T.b_isinstance) (z_or (z_xXP List.mem_cons_self (oneOfN [4]) T.i_NoStrip hcl (by decide) (xe_ec T.e_NoMachine hcl) hz hd (fun _ _ => rfl) (z_v 1) T.b_isinstance) (z_one (z_xXP List.mem_cons_self (oneOfN [7]) T.i_TooMany hcl (by decide) (xe_ec T.e_NoMachine hcl) hz hd (fun _ _ => rfl) (z_v 1) T.b_isinstance)))))) <|
    ss_cons (t_set 3 nd (z_o (z_or (z_v 3) (z_or (z_xXP List.mem_cons_self (oneOfN [5]) T.i_NoName hcl (by decide) (xe_ec T.e_NoMachine hcl) hz hd (fun _ _ => rfl) (z_v 1) T.b_isinstance) (z_one (z_xXP List.mem_cons_self (oneOfN [6]) T.i_NoLine hcl (by decide) (xe_ec T.e_NoMachine hcl) hz hd (fun _ _ => rfl) (z_v 1) T.b_isinstance)))))) <|
    ss_cons (t_if (y_w (w_or (y_e (z_v 3)) (w_or (y_not (y_e (z_xXP List.mem_cons_self (oneOfN [2]) T.i_NoMachine hcl (by decide) (xe_ec T.e_NoMachine hcl) hz hd (fun _ _ => rfl) (z_v 1) T.b_isinstance))) (w_or1 (y_not (y_e (z_xXvP List.mem_cons_self T.v_ValueError hcl (by decide) (xe_ec T.e_NoMachine hcl) hz hd (fun _ _ => rfl) (z_v 1) T.b_isinstance T.b_ValueError)))))))
      (ss_one (t_ret (z_lst (z_aO (z_s) (z_aN)))))
      (ss_nil)) <|
    ss_one (t_ret (z_lst (z_aO (z_o (se_xfP List.mem_cons_self tE (by decide) xa.xf (xa.no _ (by decide)) hz hd hcl T.tE (fun _ _ => rfl) (z_v 1))) (z_aO (z_o (se_xfP List.mem_cons_self tE (by decide) xa.xf (xa.no _ (by decide)) hz hd hcl T.tE (fun _ _ => rfl) (z_v 1))) (z_aN)))))
      · obtain ⟨C2, fI, fd, xa, hce⟩ := T.x_NoText
        obtain ⟨rfl, rfl⟩ := xc_eq hce hcl
        exact ss_cons (t_if (y_isn (z_v 1) (z_non))
      (ss_one (t_retV 2))
      (ss_nil)) <|
    ss_cons (t_set 3 nd (z_o (z_or (z_xXP List.mem_cons_self (oneOfN [3]) T.i_NoText hcl (by decide) (xe_ec T.e_NoText hcl) hz hd (fun _ _ => rfl) (z_v 1) T.b_isinstance) (z_or (z_xXP List.mem_cons_self (oneOfN [4]) T.i_NoStrip hcl (by decide) (xe_ec T.e_NoText hcl) hz hd (fun _ _ => rfl) (z_v 1) T.b_isinstance) (z_one (z_xXP List.mem_cons_self (oneOfN [7]) T.i_TooMany hcl (by decide) (xe_ec T.e_NoText hcl) hz hd (fun _ _ => rfl) (z_v 1) T.b_isinstance)))))) <|
    ss_cons (t_set 3 nd (z_o (z_or (z_v 3) (z_or (z_xXP List.mem_cons_self (oneOfN [5]) T.i_NoName hcl (by decide) (xe_ec T.e_NoText hcl) hz hd (fun _ _ => rfl) (z_v 1) T.b_isinstance) (z_one (z_xXP List.mem_cons_self (oneOfN [6]) T.i_NoLine hcl (by decide) (xe_ec T.e_NoText hcl) hz hd (fun _ _ => rfl) (z_v 1) T.b_isinstance)))))) <|
    ss_cons (t_if (y_w (w_or (y_e (z_v 3)) (w_or (y_not (y_e (z_xXP List.mem_cons_self (oneOfN [2]) T.i_NoMachine hcl (by decide) (xe_ec T.e_NoText hcl) hz hd (fun _ _ => rfl) (z_v 1) T.b_isinstance))) (w_or1 (y_not (y_e (z_xXvP List.mem_cons_self T.v_ValueError hcl (by decide) (xe_ec T.e_NoText hcl) hz hd (fun _ _ => rfl) (z_v 1) T.b_isinstance T.b_ValueError)))))))
      (ss_one (t_ret (z_lst (z_aO (z_s) (z_aN)))))
      (ss_nil)) <|
    ss_one (t_ret (z_lst (z_aO (z_o (z_xfV tE (by decide) hcl T.tE (fun _ _ => rfl) (z_v 1))) (z_aO (z_o (z_xfV tE (by decide) hcl T.tE (fun _ _ => rfl) (z_v 1))) (z_aN)))))
      · obtain ⟨C2, fI, fd, xa, hce⟩ := T.x_NoStrip
        obtain ⟨rfl, rfl⟩ := xc_eq hce hcl
        exact ss_cons (t_if (y_isn (z_v 1) (z_non))
      (ss_one (t_retV 2))
      (ss_nil)) <|
    ss_cons (t_set 3 nd (z_o (z_or (z_xXP List.mem_cons_self (oneOfN [3]) T.i_NoText hcl (by decide) (xe_ec T.e_NoStrip hcl) hz hd (fun _ _ => rfl) (z_v 1) T.b_isinstance) (z_or (z_xXP List.mem_cons_self (oneOfN [4]) T.i_NoStrip hcl (by decide) (xe_ec T.e_NoStrip hcl) hz hd (fun _ _ => rfl) (z_v 1) T.b_isinstance) (z_one (z_xXP List.mem_cons_self (oneOfN [7]) T.i_TooMany hcl (by decide) (xe_ec T.e_NoStrip hcl) hz hd (fun _ _ => rfl) (z_v 1) T.b_isinstance)))))) <|
    ss_cons (t_set 3 nd (z_o (z_or (z_v 3) (z_or (z_xXP List.mem_cons_self (oneOfN [5]) T.i_NoName hcl (by decide) (xe_ec T.e_NoStrip hcl) hz hd (fun _ _ => rfl) (z_v 1) T.b_isinstance) (z_one (z_xXP List.mem_cons_self (oneOfN [6]) T.i_NoLine hcl (by decide) (xe_ec T.e_NoStrip hcl) hz hd (fun _ _ => rfl) (z_v 1) T.b_isinstance)))))) <|
    ss_cons (t_if (y_w (w_or (y_e (z_v 3)) (w_or (y_not (y_e (z_xXP List.mem_cons_self (oneOfN [2]) T.i_NoMachine hcl (by decide) (xe_ec T.e_NoStrip hcl) hz hd (fun _ _ => rfl) (z_v 1) T.b_isinstance))) (w_or1 (y_not (y_e (z_xXvP List.mem_cons_self T.v_ValueError hcl (by decide) (xe_ec T.e_NoStrip hcl) hz hd (fun _ _ => rfl) (z_v 1) T.b_isinstance T.b_ValueError)))))))
      (ss_one (t_ret (z_lst (z_aO (z_s) (z_aN)))))
      (ss_nil)) <|
    ss_one (t_ret (z_lst (z_aO (z_o (z_xfV tE (by decide) hcl T.tE (fun _ _ => rfl) (z_v 1))) (z_aO (z_o (z_xfV tE (by decide) hcl T.tE (fun _ _ => rfl) (z_v 1))) (z_aN)))))
      · obtain ⟨C2, fI, fd, xa, hce⟩ := T.x_NoName
        obtain ⟨rfl, rfl⟩ := xc_eq hce hcl
        exact ss_cons (t_if (y_isn (z_v 1) (z_non))
      (ss_one (t_retV 2))
      (ss_nil)) <|
    ss_cons (t_set 3 nd (z_o (z_or (z_xXP List.mem_cons_self (oneOfN [3]) T.i_NoText hcl (by decide) (xe_ec T.e_NoName hcl) hz hd (fun _ _ => rfl) (z_v 1) T.b_isinstance) (z_or (z_xXP List.mem_cons_self (oneOfN [4]) T.i_NoStrip hcl (by decide) (xe_ec T.e_NoName hcl) hz hd (fun _ _ => rfl) (z_v 1) T.b_isinstance) (z_one (z_xXP List.mem_cons_self (oneOfN [7]) T.i_TooMany hcl (by decide) (xe_ec T.e_NoName hcl) hz hd (fun _ _ => rfl) (z_v 1) T.b_isinstance)))))) <|
    ss_cons (t_set 3 nd (z_o (z_or (z_v 3) (z_or (z_xXP List.mem_cons_self (oneOfN [5]) T.i_NoName hcl (by decide) (xe_ec T.e_NoName hcl) hz hd (fun _ _ => rfl) (z_v 1) T.b_isinstance) (z_one (z_xXP List.mem_cons_self (oneOfN [6]) T.i_NoLine hcl (by decide) (xe_ec T.e_NoName hcl) hz hd (fun _ _ => rfl) (z_v 1) T.b_isinstance)))))) <|
    ss_cons (t_if (y_w (w_or (y_e (z_v 3)) (w_or (y_not (y_e (z_xXP List.mem_cons_self (oneOfN [2]) T.i_NoMachine hcl (by decide) (xe_ec T.e_NoName hcl) hz hd (fun _ _ => rfl) (z_v 1) T.b_isinstance))) (w_or1 (y_not (y_e (z_xXvP List.mem_cons_self T.v_ValueError hcl (by decide) (xe_ec T.e_NoName hcl) hz hd (fun _ _ => rfl) (z_v 1) T.b_isinstance T.b_ValueError)))))))
      (ss_one (t_ret (z_lst (z_aO (z_s) (z_aN)))))
      (ss_nil)) <|
    ss_one (t_ret (z_lst (z_aO (z_o (z_xfV tE (by decide) hcl T.tE (fun _ _ => rfl) (z_v 1))) (z_aO (z_o (z_xfV tE (by decide) hcl T.tE (fun _ _ => rfl) (z_v 1))) (z_aN)))))
      · obtain ⟨C2, fI, fd, xa, hce⟩ := T.x_NoLine
        obtain ⟨rfl, rfl⟩ := xc_eq hce hcl
        exact ss_cons (t_if (y_isn (z_v 1) (z_non))
      (ss_one (t_retV 2))
      (ss_nil)) <|
    ss_cons (t_set 3 nd (z_o (z_or (z_xXP List.mem_cons_self (oneOfN [3]) T.i_NoText hcl (by decide) (xe_ec T.e_NoLine hcl) hz hd (fun _ _ => rfl) (z_v 1) T.b_isinstance) (z_or (z_xXP List.mem_cons_self (oneOfN [4]) T.i_NoStrip hcl (by decide) (xe_ec T.e_NoLine hcl) hz hd (fun _ _ => rfl) (z_v 1) T.b_isinstance) (z_one (z_xXP List.mem_cons_self (oneOfN [7]) T.i_TooMany hcl (by decide) (xe_ec T.e_NoLine hcl) hz hd (fun _ _ => rfl) (z_v 1) T.b_isinstance)))))) <|
    ss_cons (t_set 3 nd (z_o (z_or (z_v 3) (z_or (z_xXP List.mem_cons_self (oneOfN [5]) T.i_NoName hcl (by decide) (xe_ec T.e_NoLine hcl) hz hd (fun _ _ => rfl) (z_v 1) T.b_isinstance) (z_one (z_xXP List.mem_cons_self (oneOfN [6]) T.i_NoLine hcl (by decide) (xe_ec T.e_NoLine hcl) hz hd (fun _ _ => rfl) (z_v 1) T.b_isinstance)))))) <|
    ss_cons (t_if (y_w (w_or (y_e (z_v 3)) (w_or (y_not (y_e (z_xXP List.mem_cons_self (oneOfN [2]) T.i_NoMachine hcl (by decide) (xe_ec T.e_NoLine hcl) hz hd (fun _ _ => rfl) (z_v 1) T.b_isinstance))) (w_or1 (y_not (y_e (z_xXvP List.mem_cons_self T.v_ValueError hcl (by decide) (xe_ec T.e_NoLine hcl) hz hd (fun _ _ => rfl) (z_v 1) T.b_isinstance T.b_ValueError)))))))
      (ss_one (t_ret (z_lst (z_aO (z_s) (z_aN)))))
      (ss_nil)) <|
    ss_one (t_ret (z_lst (z_aO (z_o (z_xfV tE (by decide) hcl T.tE (fun _ _ => rfl) (z_v 1))) (z_aO (z_o (z_xfV tE (by decide) hcl T.tE (fun _ _ => rfl) (z_v 1))) (z_aN)))))
      · obtain ⟨C2, xa, hce⟩ := T.x_TooMany
        obtain ⟨rfl, rfl⟩ := xc_eq hce hcl
        obtain rfl := hdn rfl
        exact ss_cons (t_if (y_isn (z_v 1) (z_non))
      (ss_one (t_retV 2))
      (ss_nil)) <|
    ss_cons (t_set 3 nd (z_o (z_or (z_xXP List.mem_cons_self (oneOfN [3]) T.i_NoText hcl (by decide) xa.ec hz hd (fun _ _ => rfl) (z_v 1) T.b_isinstance) (z_or (z_xXP List.mem_cons_self (oneOfN [4]) T.i_NoStrip hcl (by decide) xa.ec hz hd (fun _ _ => rfl) (z_v 1) T.b_isinstance) (z_one (z_xXP List.mem_cons_self (oneOfN [7]) T.i_TooMany hcl (by decide) xa.ec hz hd (fun _ _ => rfl) (z_v 1) T.b_isinstance)))))) <|
    ss_cons (t_set 3 nd (z_o (z_or (z_v 3) (z_or (z_xXP List.mem_cons_self (oneOfN [5]) T.i_NoName hcl (by decide) xa.ec hz hd (fun _ _ => rfl) (z_v 1) T.b_isinstance) (z_one (z_xXP List.mem_cons_self (oneOfN [6]) T.i_NoLine hcl (by decide) xa.ec hz hd (fun _ _ => rfl) (z_v 1) T.b_isinstance)))))) <|
    ss_cons (t_if (y_w (w_or (y_e (z_v 3)) (w_or (y_not (y_e (z_xXP List.mem_cons_self (oneOfN [2]) T.i_NoMachine hcl (by decide) xa.ec hz hd (fun _ _ => rfl) (z_v 1) T.b_isinstance))) (w_or1 (y_not (y_e (z_xXvP List.mem_cons_self T.v_ValueError hcl (by decide) xa.ec hz hd (fun _ _ => rfl) (z_v 1) T.b_isinstance T.b_ValueError)))))))
      (ss_one (t_ret (z_lst (z_aO (z_s) (z_aN)))))
      (ss_nil)) <|
    ss_one (t_ret (z_lst (z_aO (z_o (z_xfV tE (by decide) hcl T.tE (fun _ _ => rfl) (z_v 1))) (z_aO (z_o (z_xfV tE (by decide) hcl T.tE (fun _ _ => rfl) (z_v 1))) (z_aN)))))
      )
theorem sc_l_plain : FnScope ["_law_rows_here", "_law_row_here", "_law_cell_here"] ["_law_rows_here"] (defScope st_l_plain) := ⟨rfl, rfl, rfl, by decide +kernel, rfl, by decide +kernel, by decide +kernel⟩
theorem ok_l_plain (T : Tx K mg cE) : DefOk P w K mg base ⟨P, w, K, cE, fun _ => none, none, none, none, fun _ => none⟩ 1 "_law_plain" ["_law_rows_here"] 1 h_l_plain :=
  di_def _ T.d_l_plain sc_l_plain 1 rfl 3 rfl b_l_plain fun f cdv A outer s H E hr tk hp => by
  have hu := hu70 hr
  have nd := sc_l_plain.nd
  exact ss_one (t_ret (z_tuple ⟨rfl, rfl, rfl⟩ (z_aC (z_comp [("_law_row_here", 1)] nd (i_seq ⟨rfl, rfl, rfl⟩ (z_v 0)) (fun _ _ _ _ _ => g_one 1 nd) (fun _ _ _ _ _ => sts_nil) (fun _ _ _ _ _ => z_tup (z_aO (z_o (z_ix hu ⟨rfl, rfl, rfl⟩ (z_v 1) (z_i))) (z_aO (z_tuple ⟨rfl, rfl, rfl⟩ (z_aC (z_comp [("_law_cell_here", 2)] nd (i_seq ⟨rfl, rfl, rfl⟩ (z_ix hu ⟨rfl, rfl, rfl⟩ (z_v 1) (z_i))) (fun _ _ _ _ _ => g_one 2 nd) (fun _ _ _ _ _ => sts_nil) (fun _ _ _ _ _ => z_tup (z_aO (z_o (z_ix hu ⟨rfl, rfl, rfl⟩ (z_v 2) (z_i))) (z_aO (z_o (z_ix hu ⟨rfl, rfl, rfl⟩ (z_v 2) (z_i))) (z_aN))))) (z_aN)) T.b_tuple) (z_aO (z_o (z_ix hu ⟨rfl, rfl, rfl⟩ (z_v 1) (z_i))) (z_aN)))))) (z_aN)) T.b_tuple))
theorem sc_p_law : FnScope ["_law_script", "_law_many", "_law_rows_here", "_law_kept", "_law_fault_here", "_law_turn_here", "_law_found"] ["_law_script"] (defScope st_p_law) := ⟨rfl, rfl, rfl, by decide +kernel, rfl, by decide +kernel, by decide +kernel⟩
theorem ok_p_law (T : Tx K mg cE) {f : Addr} {fd : FuncData} (F : Fun K "law" "law" st_p_law f fd) : FnOk P w K mg base (L2.CX P w) 7 f fd ["_law_script"] (spI ⟨P, w, K, cE, fun _ => none, none, none, none, fun _ => none⟩ 1 h_p_law) :=
  di_fn _ F sc_p_law 1 rfl 7 rfl b_p_law rfl rfl fun cdv A outer s H E hr tk hp => by
  have hu := hu70 hr
  have nd := sc_p_law.nd
  exact ss_cons (t_set 0 nd (z_call' (ok_l_mixed T) (hr.mono (by decide)) tk (z_aC (z_v 0) (z_aC (z_i) (z_aN))) (len_aC (len_aC (len_aN))))) <|
  ss_cons (t_set 1 nd (z_o (z_ix hu ⟨rfl, rfl, rfl⟩ (z_lst (z_aO (z_i) (z_aO (z_i) (z_aO (z_i) (z_aO (z_i) (z_aO (z_i) (z_aO (z_i) (z_aO (z_i) (z_aO (z_i) (z_aO (z_i) (z_aO (z_i) (z_aO (z_i) (z_aO (z_i) (z_aN)))))))))))))) (z_mod (z_call' (ok_l_cell T) (hr.mono (by decide)) tk (z_aC (z_v 0) (z_aC (z_i) (z_aN))) (len_aC (len_aC (len_aN)))) (z_i))))) <|
  ss_cons (t_set 2 nd (z_call' (ok_l_rows T) (hr.mono (by decide)) tk (z_aC (z_v 0) (z_aC (z_v 1) (z_aC (z_add ⟨rfl, rfl, rfl⟩ (z_i) (z_mod (z_call' (ok_l_cell T) (hr.mono (by decide)) tk (z_aC (z_v 0) (z_aC (z_i) (z_aN))) (len_aC (len_aC (len_aN)))) (z_i))) (z_aN)))) (len_aC (len_aC (len_aC (len_aN)))))) <|
  ss_cons (t_set 3 nd (z_call' (ok_l_plain T) (hr.mono (by decide)) tk (z_aC (z_v 2) (z_aN)) (len_aC (len_aN)))) <|
  ss_cons (t_set 4 nd (z_call' (ok_l_fault T) (hr.mono (by decide)) tk (z_aC (z_v 2) (z_aN)) (len_aC (len_aN)))) <|
  ss_cons (t_for hp (i_r1 (z_aC (z_i) (z_aN)) T.b_range) (g_one 5 nd)
    (ss_cons (t_set 6 nd (z_call' (ok_l_asked T) (hr.mono (by decide)) tk (z_aC (z_v 2) (z_aN)) (len_aC (len_aN)))) <|
    ss_cons (t_if (y_w (w_and (y_ntn (z_v 4) (z_non)) (w_and1 (y_ne hu ⟨rfl, rfl, rfl⟩ (z_v 6) (z_lst (z_aO (z_o (z_ix hu ⟨rfl, rfl, rfl⟩ (z_v 4) (z_i))) (z_aO (z_o (z_ix hu ⟨rfl, rfl, rfl⟩ (z_v 4) (z_i))) (z_aN))))))))
      (ss_one (t_ret (z_b)))
      (ss_nil)) <|
    ss_one (t_if (y_w (w_and (y_isn (z_v 4) (z_non)) (w_and1 (y_w (w_or (y_ne hu ⟨rfl, rfl, rfl⟩ (z_v 6) (z_v 3)) (w_or1 (y_ne hu ⟨rfl, rfl, rfl⟩ (z_call' (ok_p_signs_of T) (hr.mono (by decide)) tk (z_aC (z_v 6) (z_aN)) (len_aC (len_aN))) (z_len ⟨rfl, rfl, rfl⟩ (z_aC (z_ix hu ⟨rfl, rfl, rfl⟩ (z_ix hu ⟨rfl, rfl, rfl⟩ (z_v 3) (z_i)) (z_i)) (z_aN)) T.b_len))))))))
      (ss_one (t_ret (z_b)))
      (ss_nil)))) <|
  ss_cons (t_if (y_ne hu ⟨rfl, rfl, rfl⟩ (z_call' (ok_l_plain T) (hr.mono (by decide)) tk (z_aC (z_v 2) (z_aN)) (len_aC (len_aN))) (z_v 3))
    (ss_one (t_ret (z_b)))
    (ss_nil)) <|
  ss_cons (t_if (y_w (w_and (y_isn (z_v 4) (z_non)) (w_and1 (y_e (z_isi ⟨rfl, rfl, rfl⟩ .list (z_ix hu ⟨rfl, rfl, rfl⟩ (z_v 2) (z_i)) T.b_isinstance T.b_list)))))
    (ss_cons (t_sub2app 2 ⟨rfl, rfl, rfl⟩ (z_i) (z_i) (z_frz (b := true) (z_lst (z_aO (z_i) (z_aO (z_i) (z_aN)))))) <|
    ss_one (t_subputG 2 ⟨rfl, rfl, rfl⟩ (z_s) (z_i) (z_i)))
    (ss_nil)) <|
  ss_cons (t_app 2 ⟨rfl, rfl, rfl⟩ (z_non)) <|
  ss_one (t_ret (z_o (z_or (z_ntn (z_v 4) (z_non)) (z_one (z_eq hu ⟨rfl, rfl, rfl⟩ (z_v 6) (z_v 3))))))
end
set_option maxHeartbeats 4000000 in
theorem all_mk {l : PySem.W.OpenLaw} {w : World} {K : PySem.W.Frag} {h : Heap} {mg : Str → Option Value} {fa : Addr} (X : K.In h) (G : h.Ns mainGlobals mg) (hfa : mg "law" = some (.ref fa)) (hlaw : ∀ ns : List Int, ns.length ≤ 63 → h_p_law [.lst false (ns.map D.int)] = .ok (.bl true))
    {C_WayError : Addr}
    (g_WayError : PySem.W.nsIn K mainGlobals "WayError" = some (some (.ref C_WayError)))
    {C_NoMachine : Addr}
    (g_NoMachine : PySem.W.nsIn K mainGlobals "NoMachine" = some (some (.ref C_NoMachine)))
    {C_NoText : Addr}
    (g_NoText : PySem.W.nsIn K mainGlobals "NoText" = some (some (.ref C_NoText)))
    {C_NoStrip : Addr}
    (g_NoStrip : PySem.W.nsIn K mainGlobals "NoStrip" = some (some (.ref C_NoStrip)))
    {C_NoName : Addr}
    (g_NoName : PySem.W.nsIn K mainGlobals "NoName" = some (some (.ref C_NoName)))
    {C_NoLine : Addr}
    (g_NoLine : PySem.W.nsIn K mainGlobals "NoLine" = some (some (.ref C_NoLine)))
    {C_TooMany : Addr}
    (g_TooMany : PySem.W.nsIn K mainGlobals "TooMany" = some (some (.ref C_TooMany)))
    {mc_WayError : Value}
    (bs_WayError : PySem.W.specialIn K (.ref C_WayError) "__getattribute__" = some (some (.builtin "type.__getattribute__")))
    (bt_WayError : PySem.W.typeIn K (.ref C_WayError) = some mc_WayError)
    (br_WayError : PySem.W.readsIn K C_WayError mc_WayError = true)
    (bv_WayError : PySem.W.findCls K (.ref C_WayError) mc_WayError "__init__" = some (.val (.builtin "ValueError.__init__")))
    (xk_NoLine : PySem.W.keepIn K (.ref C_NoLine) = true)
    (xs_NoLine : PySem.W.subIn K (.ref C_NoLine) (.type "BaseException") = some true)
    (xt_NoLine : PySem.W.typeIn K (.ref C_NoLine) = some (.type "type"))
    (xo_NoLine : oexIn K C_NoLine = true)
    (xa_NoLine : PySem.W.findIn K (.ref C_NoLine) "__setattr__" = some (some (.builtin "object.__setattr__")))
    {fI_NoLine : Addr} {odx_NoLine anx_NoLine : Option Addr} {slx_NoLine : Array (Option Value)} {ocx_NoLine kVx_NoLine dcx_NoLine pmx_NoLine cdx_NoLine ctx_NoLine : Value}
    (xi_NoLine_ : PySem.W.findIn K (.ref C_NoLine) "__init__" = some (some (.ref fI_NoLine)))
    (xf_NoLine : PySem.W.typeIn K (.ref fI_NoLine) = some (.type "function"))
    (xl_NoLine : K.lookup fI_NoLine = some ⟨ocx_NoLine, odx_NoLine, .func (PySem.W.fnOf "__init__" "NoLine.__init__" (defArgs st_x_NoLine) (defBody st_x_NoLine) (defScope st_x_NoLine) .none kVx_NoLine dcx_NoLine pmx_NoLine anx_NoLine cdx_NoLine ctx_NoLine), slx_NoLine⟩)
    (xc_NoLine : PySem.W.codeIn K cdx_NoLine "NoLine.__init__" = true)
    (xq_NoLine : PySem.W.keepIn K (.ref fI_NoLine) = true)
    (xn_NoLine_line : PySem.W.findIn K (.ref C_NoLine) "line" = some none)
    (xb_NoLine : xfB K C_NoLine = true)
    (xg_NoLine : PySem.W.findIn K (.ref C_NoLine) "__getattribute__" = some (some (.builtin "BaseException.__getattribute__")))
    (xh_NoLine : PySem.W.findIn K (.ref C_NoLine) "__getattr__" = some none)
    (xd_NoLine : PySem.W.hasDictIn K C_NoLine = true)
    (xy_NoLine : PySem.W.findIn K (.ref C_NoLine) "__class__" = some (some (.builtin "object.__class__")))
    (xz_NoLine : PySem.W.specialIn K (.builtin "object.__class__") "__get__" = some (some (.builtin "getset_descriptor.__get__")))
    (xw_NoLine : PySem.W.takesIn K (.builtin "object.__class__") = some true)
    (xm_NoLine : PySem.W.mroIn K C_NoLine (.type "object") = some true)
    (xk_NoMachine : PySem.W.keepIn K (.ref C_NoMachine) = true)
    (xs_NoMachine : PySem.W.subIn K (.ref C_NoMachine) (.type "BaseException") = some true)
    (xt_NoMachine : PySem.W.typeIn K (.ref C_NoMachine) = some (.type "type"))
    (xo_NoMachine : oexIn K C_NoMachine = true)
    (xa_NoMachine : PySem.W.findIn K (.ref C_NoMachine) "__setattr__" = some (some (.builtin "object.__setattr__")))
    {fI_NoMachine : Addr} {odx_NoMachine anx_NoMachine : Option Addr} {slx_NoMachine : Array (Option Value)} {ocx_NoMachine kVx_NoMachine dcx_NoMachine pmx_NoMachine cdx_NoMachine ctx_NoMachine : Value}
    (xi_NoMachine_ : PySem.W.findIn K (.ref C_NoMachine) "__init__" = some (some (.ref fI_NoMachine)))
    (xf_NoMachine : PySem.W.typeIn K (.ref fI_NoMachine) = some (.type "function"))
    (xl_NoMachine : K.lookup fI_NoMachine = some ⟨ocx_NoMachine, odx_NoMachine, .func (PySem.W.fnOf "__init__" "NoMachine.__init__" (defArgs st_x_NoMachine) (defBody st_x_NoMachine) (defScope st_x_NoMachine) .none kVx_NoMachine dcx_NoMachine pmx_NoMachine anx_NoMachine cdx_NoMachine ctx_NoMachine), slx_NoMachine⟩)
    (xc_NoMachine : PySem.W.codeIn K cdx_NoMachine "NoMachine.__init__" = true)
    (xq_NoMachine : PySem.W.keepIn K (.ref fI_NoMachine) = true)
    (xn_NoMachine_room : PySem.W.findIn K (.ref C_NoMachine) "room" = some none)
    (xn_NoMachine_part : PySem.W.findIn K (.ref C_NoMachine) "part" = some none)
    (xb_NoMachine : xfB K C_NoMachine = true)
    (xg_NoMachine : PySem.W.findIn K (.ref C_NoMachine) "__getattribute__" = some (some (.builtin "BaseException.__getattribute__")))
    (xh_NoMachine : PySem.W.findIn K (.ref C_NoMachine) "__getattr__" = some none)
    (xd_NoMachine : PySem.W.hasDictIn K C_NoMachine = true)
    (xy_NoMachine : PySem.W.findIn K (.ref C_NoMachine) "__class__" = some (some (.builtin "object.__class__")))
    (xz_NoMachine : PySem.W.specialIn K (.builtin "object.__class__") "__get__" = some (some (.builtin "getset_descriptor.__get__")))
    (xw_NoMachine : PySem.W.takesIn K (.builtin "object.__class__") = some true)
    (xm_NoMachine : PySem.W.mroIn K C_NoMachine (.type "object") = some true)
    (xk_NoName : PySem.W.keepIn K (.ref C_NoName) = true)
    (xs_NoName : PySem.W.subIn K (.ref C_NoName) (.type "BaseException") = some true)
    (xt_NoName : PySem.W.typeIn K (.ref C_NoName) = some (.type "type"))
    (xo_NoName : oexIn K C_NoName = true)
    (xa_NoName : PySem.W.findIn K (.ref C_NoName) "__setattr__" = some (some (.builtin "object.__setattr__")))
    {fI_NoName : Addr} {odx_NoName anx_NoName : Option Addr} {slx_NoName : Array (Option Value)} {ocx_NoName kVx_NoName dcx_NoName pmx_NoName cdx_NoName ctx_NoName : Value}
    (xi_NoName_ : PySem.W.findIn K (.ref C_NoName) "__init__" = some (some (.ref fI_NoName)))
    (xf_NoName : PySem.W.typeIn K (.ref fI_NoName) = some (.type "function"))
    (xl_NoName : K.lookup fI_NoName = some ⟨ocx_NoName, odx_NoName, .func (PySem.W.fnOf "__init__" "NoName.__init__" (defArgs st_x_NoName) (defBody st_x_NoName) (defScope st_x_NoName) .none kVx_NoName dcx_NoName pmx_NoName anx_NoName cdx_NoName ctx_NoName), slx_NoName⟩)
    (xc_NoName : PySem.W.codeIn K cdx_NoName "NoName.__init__" = true)
    (xq_NoName : PySem.W.keepIn K (.ref fI_NoName) = true)
    (xn_NoName_name : PySem.W.findIn K (.ref C_NoName) "name" = some none)
    (xb_NoName : xfB K C_NoName = true)
    (xg_NoName : PySem.W.findIn K (.ref C_NoName) "__getattribute__" = some (some (.builtin "BaseException.__getattribute__")))
    (xh_NoName : PySem.W.findIn K (.ref C_NoName) "__getattr__" = some none)
    (xd_NoName : PySem.W.hasDictIn K C_NoName = true)
    (xy_NoName : PySem.W.findIn K (.ref C_NoName) "__class__" = some (some (.builtin "object.__class__")))
    (xz_NoName : PySem.W.specialIn K (.builtin "object.__class__") "__get__" = some (some (.builtin "getset_descriptor.__get__")))
    (xw_NoName : PySem.W.takesIn K (.builtin "object.__class__") = some true)
    (xm_NoName : PySem.W.mroIn K C_NoName (.type "object") = some true)
    (xk_NoStrip : PySem.W.keepIn K (.ref C_NoStrip) = true)
    (xs_NoStrip : PySem.W.subIn K (.ref C_NoStrip) (.type "BaseException") = some true)
    (xt_NoStrip : PySem.W.typeIn K (.ref C_NoStrip) = some (.type "type"))
    (xo_NoStrip : oexIn K C_NoStrip = true)
    (xa_NoStrip : PySem.W.findIn K (.ref C_NoStrip) "__setattr__" = some (some (.builtin "object.__setattr__")))
    {fI_NoStrip : Addr} {odx_NoStrip anx_NoStrip : Option Addr} {slx_NoStrip : Array (Option Value)} {ocx_NoStrip kVx_NoStrip dcx_NoStrip pmx_NoStrip cdx_NoStrip ctx_NoStrip : Value}
    (xi_NoStrip_ : PySem.W.findIn K (.ref C_NoStrip) "__init__" = some (some (.ref fI_NoStrip)))
    (xf_NoStrip : PySem.W.typeIn K (.ref fI_NoStrip) = some (.type "function"))
    (xl_NoStrip : K.lookup fI_NoStrip = some ⟨ocx_NoStrip, odx_NoStrip, .func (PySem.W.fnOf "__init__" "NoStrip.__init__" (defArgs st_x_NoStrip) (defBody st_x_NoStrip) (defScope st_x_NoStrip) .none kVx_NoStrip dcx_NoStrip pmx_NoStrip anx_NoStrip cdx_NoStrip ctx_NoStrip), slx_NoStrip⟩)
    (xc_NoStrip : PySem.W.codeIn K cdx_NoStrip "NoStrip.__init__" = true)
    (xq_NoStrip : PySem.W.keepIn K (.ref fI_NoStrip) = true)
    (xn_NoStrip_at : PySem.W.findIn K (.ref C_NoStrip) "at" = some none)
    (xb_NoStrip : xfB K C_NoStrip = true)
    (xg_NoStrip : PySem.W.findIn K (.ref C_NoStrip) "__getattribute__" = some (some (.builtin "BaseException.__getattribute__")))
    (xh_NoStrip : PySem.W.findIn K (.ref C_NoStrip) "__getattr__" = some none)
    (xd_NoStrip : PySem.W.hasDictIn K C_NoStrip = true)
    (xy_NoStrip : PySem.W.findIn K (.ref C_NoStrip) "__class__" = some (some (.builtin "object.__class__")))
    (xz_NoStrip : PySem.W.specialIn K (.builtin "object.__class__") "__get__" = some (some (.builtin "getset_descriptor.__get__")))
    (xw_NoStrip : PySem.W.takesIn K (.builtin "object.__class__") = some true)
    (xm_NoStrip : PySem.W.mroIn K C_NoStrip (.type "object") = some true)
    (xk_NoText : PySem.W.keepIn K (.ref C_NoText) = true)
    (xs_NoText : PySem.W.subIn K (.ref C_NoText) (.type "BaseException") = some true)
    (xt_NoText : PySem.W.typeIn K (.ref C_NoText) = some (.type "type"))
    (xo_NoText : oexIn K C_NoText = true)
    (xa_NoText : PySem.W.findIn K (.ref C_NoText) "__setattr__" = some (some (.builtin "object.__setattr__")))
    {fI_NoText : Addr} {odx_NoText anx_NoText : Option Addr} {slx_NoText : Array (Option Value)} {ocx_NoText kVx_NoText dcx_NoText pmx_NoText cdx_NoText ctx_NoText : Value}
    (xi_NoText_ : PySem.W.findIn K (.ref C_NoText) "__init__" = some (some (.ref fI_NoText)))
    (xf_NoText : PySem.W.typeIn K (.ref fI_NoText) = some (.type "function"))
    (xl_NoText : K.lookup fI_NoText = some ⟨ocx_NoText, odx_NoText, .func (PySem.W.fnOf "__init__" "NoText.__init__" (defArgs st_x_NoText) (defBody st_x_NoText) (defScope st_x_NoText) .none kVx_NoText dcx_NoText pmx_NoText anx_NoText cdx_NoText ctx_NoText), slx_NoText⟩)
    (xc_NoText : PySem.W.codeIn K cdx_NoText "NoText.__init__" = true)
    (xq_NoText : PySem.W.keepIn K (.ref fI_NoText) = true)
    (xn_NoText_at : PySem.W.findIn K (.ref C_NoText) "at" = some none)
    (xb_NoText : xfB K C_NoText = true)
    (xg_NoText : PySem.W.findIn K (.ref C_NoText) "__getattribute__" = some (some (.builtin "BaseException.__getattribute__")))
    (xh_NoText : PySem.W.findIn K (.ref C_NoText) "__getattr__" = some none)
    (xd_NoText : PySem.W.hasDictIn K C_NoText = true)
    (xy_NoText : PySem.W.findIn K (.ref C_NoText) "__class__" = some (some (.builtin "object.__class__")))
    (xz_NoText : PySem.W.specialIn K (.builtin "object.__class__") "__get__" = some (some (.builtin "getset_descriptor.__get__")))
    (xw_NoText : PySem.W.takesIn K (.builtin "object.__class__") = some true)
    (xm_NoText : PySem.W.mroIn K C_NoText (.type "object") = some true)
    (xk_TooMany : PySem.W.keepIn K (.ref C_TooMany) = true)
    (xs_TooMany : PySem.W.subIn K (.ref C_TooMany) (.type "BaseException") = some true)
    (xt_TooMany : PySem.W.typeIn K (.ref C_TooMany) = some (.type "type"))
    (xe_TooMany : PySem.W.excIn K C_TooMany [Value.type "ValueError", Value.type "Exception", Value.type "BaseException", Value.type "object"] "ValueError.__new__" = true)
    (xg_TooMany : PySem.W.findIn K (.ref C_TooMany) "__getattribute__" = some (some (.builtin "BaseException.__getattribute__")))
    (xh_TooMany : PySem.W.findIn K (.ref C_TooMany) "__getattr__" = some none)
    (xd_TooMany : PySem.W.hasDictIn K C_TooMany = true)
    (xy_TooMany : PySem.W.findIn K (.ref C_TooMany) "__class__" = some (some (.builtin "object.__class__")))
    (xz_TooMany : PySem.W.specialIn K (.builtin "object.__class__") "__get__" = some (some (.builtin "getset_descriptor.__get__")))
    (xw_TooMany : PySem.W.takesIn K (.builtin "object.__class__") = some true)
    (xm_TooMany : PySem.W.mroIn K C_TooMany (.type "object") = some true)
    (xk_WayError : PySem.W.keepIn K (.ref C_WayError) = true)
    (xs_WayError : PySem.W.subIn K (.ref C_WayError) (.type "BaseException") = some true)
    (xt_WayError : PySem.W.typeIn K (.ref C_WayError) = some (.type "type"))
    (xe_WayError : PySem.W.excIn K C_WayError [Value.type "ValueError", Value.type "Exception", Value.type "BaseException", Value.type "object"] "ValueError.__new__" = true)
    (xg_WayError : PySem.W.findIn K (.ref C_WayError) "__getattribute__" = some (some (.builtin "BaseException.__getattribute__")))
    (xh_WayError : PySem.W.findIn K (.ref C_WayError) "__getattr__" = some none)
    (xd_WayError : PySem.W.hasDictIn K C_WayError = true)
    (xy_WayError : PySem.W.findIn K (.ref C_WayError) "__class__" = some (some (.builtin "object.__class__")))
    (xz_WayError : PySem.W.specialIn K (.builtin "object.__class__") "__get__" = some (some (.builtin "getset_descriptor.__get__")))
    (xw_WayError : PySem.W.takesIn K (.builtin "object.__class__") = some true)
    (xm_WayError : PySem.W.mroIn K C_WayError (.type "object") = some true)
    (em_WayError_NoLine : PySem.W.exmOne K (.ref C_NoLine) (.ref C_WayError) = some true)
    (em_WayError_NoMachine : PySem.W.exmOne K (.ref C_NoMachine) (.ref C_WayError) = some true)
    (em_WayError_NoName : PySem.W.exmOne K (.ref C_NoName) (.ref C_WayError) = some true)
    (em_WayError_NoStrip : PySem.W.exmOne K (.ref C_NoStrip) (.ref C_WayError) = some true)
    (em_WayError_NoText : PySem.W.exmOne K (.ref C_NoText) (.ref C_WayError) = some true)
    (em_WayError_TooMany : PySem.W.exmOne K (.ref C_TooMany) (.ref C_WayError) = some true)
    (em_WayError_WayError : PySem.W.exmOne K (.ref C_WayError) (.ref C_WayError) = some true)
    (ei_TooMany_NoLine : PySem.W.kitOne K (.ref C_NoLine) (.ref C_TooMany) = some false)
    (ei_TooMany_NoMachine : PySem.W.kitOne K (.ref C_NoMachine) (.ref C_TooMany) = some false)
    (ei_TooMany_NoName : PySem.W.kitOne K (.ref C_NoName) (.ref C_TooMany) = some false)
    (ei_TooMany_NoStrip : PySem.W.kitOne K (.ref C_NoStrip) (.ref C_TooMany) = some false)
    (ei_TooMany_NoText : PySem.W.kitOne K (.ref C_NoText) (.ref C_TooMany) = some false)
    (ei_TooMany_TooMany : PySem.W.kitOne K (.ref C_TooMany) (.ref C_TooMany) = some true)
    (ei_TooMany_WayError : PySem.W.kitOne K (.ref C_WayError) (.ref C_TooMany) = some false)
    (ei_NoStrip_NoLine : PySem.W.kitOne K (.ref C_NoLine) (.ref C_NoStrip) = some false)
    (ei_NoStrip_NoMachine : PySem.W.kitOne K (.ref C_NoMachine) (.ref C_NoStrip) = some false)
    (ei_NoStrip_NoName : PySem.W.kitOne K (.ref C_NoName) (.ref C_NoStrip) = some false)
    (ei_NoStrip_NoStrip : PySem.W.kitOne K (.ref C_NoStrip) (.ref C_NoStrip) = some true)
    (ei_NoStrip_NoText : PySem.W.kitOne K (.ref C_NoText) (.ref C_NoStrip) = some false)
    (ei_NoStrip_TooMany : PySem.W.kitOne K (.ref C_TooMany) (.ref C_NoStrip) = some false)
    (ei_NoStrip_WayError : PySem.W.kitOne K (.ref C_WayError) (.ref C_NoStrip) = some false)
    (ei_NoText_NoLine : PySem.W.kitOne K (.ref C_NoLine) (.ref C_NoText) = some false)
    (ei_NoText_NoMachine : PySem.W.kitOne K (.ref C_NoMachine) (.ref C_NoText) = some false)
    (ei_NoText_NoName : PySem.W.kitOne K (.ref C_NoName) (.ref C_NoText) = some false)
    (ei_NoText_NoStrip : PySem.W.kitOne K (.ref C_NoStrip) (.ref C_NoText) = some false)
    (ei_NoText_NoText : PySem.W.kitOne K (.ref C_NoText) (.ref C_NoText) = some true)
    (ei_NoText_TooMany : PySem.W.kitOne K (.ref C_TooMany) (.ref C_NoText) = some false)
    (ei_NoText_WayError : PySem.W.kitOne K (.ref C_WayError) (.ref C_NoText) = some false)
    (ei_NoLine_NoLine : PySem.W.kitOne K (.ref C_NoLine) (.ref C_NoLine) = some true)
    (ei_NoLine_NoMachine : PySem.W.kitOne K (.ref C_NoMachine) (.ref C_NoLine) = some false)
    (ei_NoLine_NoName : PySem.W.kitOne K (.ref C_NoName) (.ref C_NoLine) = some false)
    (ei_NoLine_NoStrip : PySem.W.kitOne K (.ref C_NoStrip) (.ref C_NoLine) = some false)
    (ei_NoLine_NoText : PySem.W.kitOne K (.ref C_NoText) (.ref C_NoLine) = some false)
    (ei_NoLine_TooMany : PySem.W.kitOne K (.ref C_TooMany) (.ref C_NoLine) = some false)
    (ei_NoLine_WayError : PySem.W.kitOne K (.ref C_WayError) (.ref C_NoLine) = some false)
    (ei_NoName_NoLine : PySem.W.kitOne K (.ref C_NoLine) (.ref C_NoName) = some false)
    (ei_NoName_NoMachine : PySem.W.kitOne K (.ref C_NoMachine) (.ref C_NoName) = some false)
    (ei_NoName_NoName : PySem.W.kitOne K (.ref C_NoName) (.ref C_NoName) = some true)
    (ei_NoName_NoStrip : PySem.W.kitOne K (.ref C_NoStrip) (.ref C_NoName) = some false)
    (ei_NoName_NoText : PySem.W.kitOne K (.ref C_NoText) (.ref C_NoName) = some false)
    (ei_NoName_TooMany : PySem.W.kitOne K (.ref C_TooMany) (.ref C_NoName) = some false)
    (ei_NoName_WayError : PySem.W.kitOne K (.ref C_WayError) (.ref C_NoName) = some false)
    (ei_NoMachine_NoLine : PySem.W.kitOne K (.ref C_NoLine) (.ref C_NoMachine) = some false)
    (ei_NoMachine_NoMachine : PySem.W.kitOne K (.ref C_NoMachine) (.ref C_NoMachine) = some true)
    (ei_NoMachine_NoName : PySem.W.kitOne K (.ref C_NoName) (.ref C_NoMachine) = some false)
    (ei_NoMachine_NoStrip : PySem.W.kitOne K (.ref C_NoStrip) (.ref C_NoMachine) = some false)
    (ei_NoMachine_NoText : PySem.W.kitOne K (.ref C_NoText) (.ref C_NoMachine) = some false)
    (ei_NoMachine_TooMany : PySem.W.kitOne K (.ref C_TooMany) (.ref C_NoMachine) = some false)
    (ei_NoMachine_WayError : PySem.W.kitOne K (.ref C_WayError) (.ref C_NoMachine) = some false)
    (ev_ValueError_NoLine : PySem.W.kitOne K (.ref C_NoLine) (.type "ValueError") = some true)
    (ev_ValueError_NoMachine : PySem.W.kitOne K (.ref C_NoMachine) (.type "ValueError") = some true)
    (ev_ValueError_NoName : PySem.W.kitOne K (.ref C_NoName) (.type "ValueError") = some true)
    (ev_ValueError_NoStrip : PySem.W.kitOne K (.ref C_NoStrip) (.type "ValueError") = some true)
    (ev_ValueError_NoText : PySem.W.kitOne K (.ref C_NoText) (.type "ValueError") = some true)
    (ev_ValueError_TooMany : PySem.W.kitOne K (.ref C_TooMany) (.type "ValueError") = some true)
    (ev_ValueError_WayError : PySem.W.kitOne K (.ref C_WayError) (.type "ValueError") = some true)
    (z0 : PySem.W.nsIn K mainGlobals "ValueError" = some none)
    (z1 : PySem.W.nsIn K mainGlobals "all" = some none)
    (z2 : PySem.W.nsIn K mainGlobals "bool" = some none)
    (z3 : PySem.W.nsIn K mainGlobals "enumerate" = some none)
    (z4 : PySem.W.nsIn K mainGlobals "int" = some none)
    (z5 : PySem.W.nsIn K mainGlobals "isinstance" = some none)
    (z6 : PySem.W.nsIn K mainGlobals "len" = some none)
    (z7 : PySem.W.nsIn K mainGlobals "list" = some none)
    (z8 : PySem.W.nsIn K mainGlobals "max" = some none)
    (z9 : PySem.W.nsIn K mainGlobals "min" = some none)
    (z10 : PySem.W.nsIn K mainGlobals "range" = some none)
    (z11 : PySem.W.nsIn K mainGlobals "tuple" = some none)
    {t0 : Tok}
    (v0 : PySem.W.nsIn K mainGlobals "MOST_ROOMS" = some (some (Value.int 60 t0)))
    {t1 : Tok}
    (v1 : PySem.W.nsIn K mainGlobals "SIGNS" = some (some (Value.str "abc" t1)))
    {aT2 : Addr} {oT2 : Option Addr} {mT2 : Nat} {sT2 : Array (Option Value)} {tc2_0 tc2_1 : Tok}
    (v2 : PySem.W.nsIn K mainGlobals "STEPS" = some (some (.ref aT2)))
    (vl2 : K.lookup aT2 = some ⟨.type "tuple", oT2, .seq #[Value.int 1 tc2_0, Value.int (-1) tc2_1] mT2, sT2⟩)
    {f0 : Addr} {od0 an0 : Option Addr} {sl0 : Array (Option Value)} {oc0 kV0 dc0 pm0 cd0 ct0 : Value} (a0 : PySem.W.nsIn K mainGlobals "is_whole" = some (some (.ref f0)))
    (l0 : K.lookup f0 = some ⟨oc0, od0, .func (PySem.W.fnOf "is_whole" "is_whole" (defArgs st_p_is_whole) (defBody st_p_is_whole) (defScope st_p_is_whole) .none kV0 dc0 pm0 an0 cd0 ct0), sl0⟩) (c0 : PySem.W.codeIn K cd0 "is_whole" = true) (k0 : PySem.W.keepIn K (.ref f0) = true)
    {f1 : Addr} {od1 an1 : Option Addr} {sl1 : Array (Option Value)} {oc1 kV1 dc1 pm1 cd1 ct1 : Value} (a1 : PySem.W.nsIn K mainGlobals "is_room" = some (some (.ref f1)))
    (l1 : K.lookup f1 = some ⟨oc1, od1, .func (PySem.W.fnOf "is_room" "is_room" (defArgs st_p_is_room) (defBody st_p_is_room) (defScope st_p_is_room) .none kV1 dc1 pm1 an1 cd1 ct1), sl1⟩) (c1 : PySem.W.codeIn K cd1 "is_room" = true) (k1 : PySem.W.keepIn K (.ref f1) = true)
    {f2 : Addr} {od2 an2 : Option Addr} {sl2 : Array (Option Value)} {oc2 kV2 dc2 pm2 cd2 ct2 : Value} (a2 : PySem.W.nsIn K mainGlobals "is_turn" = some (some (.ref f2)))
    (l2 : K.lookup f2 = some ⟨oc2, od2, .func (PySem.W.fnOf "is_turn" "is_turn" (defArgs st_p_is_turn) (defBody st_p_is_turn) (defScope st_p_is_turn) .none kV2 dc2 pm2 an2 cd2 ct2), sl2⟩) (c2 : PySem.W.codeIn K cd2 "is_turn" = true) (k2 : PySem.W.keepIn K (.ref f2) = true)
    {f3 : Addr} {od3 an3 : Option Addr} {sl3 : Array (Option Value)} {oc3 kV3 dc3 pm3 cd3 ct3 : Value} (a3 : PySem.W.nsIn K mainGlobals "is_cell" = some (some (.ref f3)))
    (l3 : K.lookup f3 = some ⟨oc3, od3, .func (PySem.W.fnOf "is_cell" "is_cell" (defArgs st_p_is_cell) (defBody st_p_is_cell) (defScope st_p_is_cell) .none kV3 dc3 pm3 an3 cd3 ct3), sl3⟩) (c3 : PySem.W.codeIn K cd3 "is_cell" = true) (k3 : PySem.W.keepIn K (.ref f3) = true)
    {f4 : Addr} {od4 an4 : Option Addr} {sl4 : Array (Option Value)} {oc4 kV4 dc4 pm4 cd4 ct4 : Value} (a4 : PySem.W.nsIn K mainGlobals "look_through" = some (some (.ref f4)))
    (l4 : K.lookup f4 = some ⟨oc4, od4, .func (PySem.W.fnOf "look_through" "look_through" (defArgs st_p_look_through) (defBody st_p_look_through) (defScope st_p_look_through) .none kV4 dc4 pm4 an4 cd4 ct4), sl4⟩) (c4 : PySem.W.codeIn K cd4 "look_through" = true) (k4 : PySem.W.keepIn K (.ref f4) = true)
    {f5 : Addr} {od5 an5 : Option Addr} {sl5 : Array (Option Value)} {oc5 kV5 dc5 pm5 cd5 ct5 : Value} (a5 : PySem.W.nsIn K mainGlobals "machine_of" = some (some (.ref f5)))
    (l5 : K.lookup f5 = some ⟨oc5, od5, .func (PySem.W.fnOf "machine_of" "machine_of" (defArgs st_p_machine_of) (defBody st_p_machine_of) (defScope st_p_machine_of) .none kV5 dc5 pm5 an5 cd5 ct5), sl5⟩) (c5 : PySem.W.codeIn K cd5 "machine_of" = true) (k5 : PySem.W.keepIn K (.ref f5) = true)
    {f6 : Addr} {od6 an6 : Option Addr} {sl6 : Array (Option Value)} {oc6 kV6 dc6 pm6 cd6 ct6 : Value} (a6 : PySem.W.nsIn K mainGlobals "signs_of" = some (some (.ref f6)))
    (l6 : K.lookup f6 = some ⟨oc6, od6, .func (PySem.W.fnOf "signs_of" "signs_of" (defArgs st_p_signs_of) (defBody st_p_signs_of) (defScope st_p_signs_of) .none kV6 dc6 pm6 an6 cd6 ct6), sl6⟩) (c6 : PySem.W.codeIn K cd6 "signs_of" = true) (k6 : PySem.W.keepIn K (.ref f6) = true)
    {f7 : Addr} {od7 an7 : Option Addr} {sl7 : Array (Option Value)} {oc7 kV7 dc7 pm7 cd7 ct7 : Value} (a7 : PySem.W.nsIn K mainGlobals "_law_cell" = some (some (.ref f7)))
    (l7 : K.lookup f7 = some ⟨oc7, od7, .func (PySem.W.fnOf "_law_cell" "_law_cell" (defArgs st_l_cell) (defBody st_l_cell) (defScope st_l_cell) .none kV7 dc7 pm7 an7 cd7 ct7), sl7⟩) (c7 : PySem.W.codeIn K cd7 "_law_cell" = true) (k7 : PySem.W.keepIn K (.ref f7) = true)
    {f8 : Addr} {od8 an8 : Option Addr} {sl8 : Array (Option Value)} {oc8 kV8 dc8 pm8 cd8 ct8 : Value} (a8 : PySem.W.nsIn K mainGlobals "_law_mixed" = some (some (.ref f8)))
    (l8 : K.lookup f8 = some ⟨oc8, od8, .func (PySem.W.fnOf "_law_mixed" "_law_mixed" (defArgs st_l_mixed) (defBody st_l_mixed) (defScope st_l_mixed) .none kV8 dc8 pm8 an8 cd8 ct8), sl8⟩) (c8 : PySem.W.codeIn K cd8 "_law_mixed" = true) (k8 : PySem.W.keepIn K (.ref f8) = true)
    {f9 : Addr} {od9 an9 : Option Addr} {sl9 : Array (Option Value)} {oc9 kV9 dc9 pm9 cd9 ct9 : Value} (a9 : PySem.W.nsIn K mainGlobals "_law_turn" = some (some (.ref f9)))
    (l9 : K.lookup f9 = some ⟨oc9, od9, .func (PySem.W.fnOf "_law_turn" "_law_turn" (defArgs st_l_turn) (defBody st_l_turn) (defScope st_l_turn) .none kV9 dc9 pm9 an9 cd9 ct9), sl9⟩) (c9 : PySem.W.codeIn K cd9 "_law_turn" = true) (k9 : PySem.W.keepIn K (.ref f9) = true)
    {f10 : Addr} {od10 an10 : Option Addr} {sl10 : Array (Option Value)} {oc10 kV10 dc10 pm10 cd10 ct10 : Value} (a10 : PySem.W.nsIn K mainGlobals "_law_row" = some (some (.ref f10)))
    (l10 : K.lookup f10 = some ⟨oc10, od10, .func (PySem.W.fnOf "_law_row" "_law_row" (defArgs st_l_row) (defBody st_l_row) (defScope st_l_row) .none kV10 dc10 pm10 an10 cd10 ct10), sl10⟩) (c10 : PySem.W.codeIn K cd10 "_law_row" = true) (k10 : PySem.W.keepIn K (.ref f10) = true)
    {f11 : Addr} {od11 an11 : Option Addr} {sl11 : Array (Option Value)} {oc11 kV11 dc11 pm11 cd11 ct11 : Value} (a11 : PySem.W.nsIn K mainGlobals "_law_machine" = some (some (.ref f11)))
    (l11 : K.lookup f11 = some ⟨oc11, od11, .func (PySem.W.fnOf "_law_machine" "_law_machine" (defArgs st_l_machine) (defBody st_l_machine) (defScope st_l_machine) .none kV11 dc11 pm11 an11 cd11 ct11), sl11⟩) (c11 : PySem.W.codeIn K cd11 "_law_machine" = true) (k11 : PySem.W.keepIn K (.ref f11) = true)
    {f12 : Addr} {od12 an12 : Option Addr} {sl12 : Array (Option Value)} {oc12 kV12 dc12 pm12 cd12 ct12 : Value} (a12 : PySem.W.nsIn K mainGlobals "_law_odd_turn" = some (some (.ref f12)))
    (l12 : K.lookup f12 = some ⟨oc12, od12, .func (PySem.W.fnOf "_law_odd_turn" "_law_odd_turn" (defArgs st_l_odd_turn) (defBody st_l_odd_turn) (defScope st_l_odd_turn) .none kV12 dc12 pm12 an12 cd12 ct12), sl12⟩) (c12 : PySem.W.codeIn K cd12 "_law_odd_turn" = true) (k12 : PySem.W.keepIn K (.ref f12) = true)
    {f13 : Addr} {od13 an13 : Option Addr} {sl13 : Array (Option Value)} {oc13 kV13 dc13 pm13 cd13 ct13 : Value} (a13 : PySem.W.nsIn K mainGlobals "_law_odd_cells" = some (some (.ref f13)))
    (l13 : K.lookup f13 = some ⟨oc13, od13, .func (PySem.W.fnOf "_law_odd_cells" "_law_odd_cells" (defArgs st_l_odd_cells) (defBody st_l_odd_cells) (defScope st_l_odd_cells) .none kV13 dc13 pm13 an13 cd13 ct13), sl13⟩) (c13 : PySem.W.codeIn K cd13 "_law_odd_cells" = true) (k13 : PySem.W.keepIn K (.ref f13) = true)
    {f14 : Addr} {od14 an14 : Option Addr} {sl14 : Array (Option Value)} {oc14 kV14 dc14 pm14 cd14 ct14 : Value} (a14 : PySem.W.nsIn K mainGlobals "_law_rows" = some (some (.ref f14)))
    (l14 : K.lookup f14 = some ⟨oc14, od14, .func (PySem.W.fnOf "_law_rows" "_law_rows" (defArgs st_l_rows) (defBody st_l_rows) (defScope st_l_rows) .none kV14 dc14 pm14 an14 cd14 ct14), sl14⟩) (c14 : PySem.W.codeIn K cd14 "_law_rows" = true) (k14 : PySem.W.keepIn K (.ref f14) = true)
    {f15 : Addr} {od15 an15 : Option Addr} {sl15 : Array (Option Value)} {oc15 kV15 dc15 pm15 cd15 ct15 : Value} (a15 : PySem.W.nsIn K mainGlobals "_law_is_room" = some (some (.ref f15)))
    (l15 : K.lookup f15 = some ⟨oc15, od15, .func (PySem.W.fnOf "_law_is_room" "_law_is_room" (defArgs st_l_is_room) (defBody st_l_is_room) (defScope st_l_is_room) .none kV15 dc15 pm15 an15 cd15 ct15), sl15⟩) (c15 : PySem.W.codeIn K cd15 "_law_is_room" = true) (k15 : PySem.W.keepIn K (.ref f15) = true)
    {f16 : Addr} {od16 an16 : Option Addr} {sl16 : Array (Option Value)} {oc16 kV16 dc16 pm16 cd16 ct16 : Value} (a16 : PySem.W.nsIn K mainGlobals "_law_fault" = some (some (.ref f16)))
    (l16 : K.lookup f16 = some ⟨oc16, od16, .func (PySem.W.fnOf "_law_fault" "_law_fault" (defArgs st_l_fault) (defBody st_l_fault) (defScope st_l_fault) .none kV16 dc16 pm16 an16 cd16 ct16), sl16⟩) (c16 : PySem.W.codeIn K cd16 "_law_fault" = true) (k16 : PySem.W.keepIn K (.ref f16) = true)
    {f17 : Addr} {od17 an17 : Option Addr} {sl17 : Array (Option Value)} {oc17 kV17 dc17 pm17 cd17 ct17 : Value} (a17 : PySem.W.nsIn K mainGlobals "_law_asked" = some (some (.ref f17)))
    (l17 : K.lookup f17 = some ⟨oc17, od17, .func (PySem.W.fnOf "_law_asked" "_law_asked" (defArgs st_l_asked) (defBody st_l_asked) (defScope st_l_asked) .none kV17 dc17 pm17 an17 cd17 ct17), sl17⟩) (c17 : PySem.W.codeIn K cd17 "_law_asked" = true) (k17 : PySem.W.keepIn K (.ref f17) = true)
    {f18 : Addr} {od18 an18 : Option Addr} {sl18 : Array (Option Value)} {oc18 kV18 dc18 pm18 cd18 ct18 : Value} (a18 : PySem.W.nsIn K mainGlobals "_law_plain" = some (some (.ref f18)))
    (l18 : K.lookup f18 = some ⟨oc18, od18, .func (PySem.W.fnOf "_law_plain" "_law_plain" (defArgs st_l_plain) (defBody st_l_plain) (defScope st_l_plain) .none kV18 dc18 pm18 an18 cd18 ct18), sl18⟩) (c18 : PySem.W.codeIn K cd18 "_law_plain" = true) (k18 : PySem.W.keepIn K (.ref f18) = true)
    {f19 : Addr} {od19 an19 : Option Addr} {sl19 : Array (Option Value)} {oc19 kV19 dc19 pm19 cd19 ct19 : Value} (a19 : PySem.W.nsIn K mainGlobals "law" = some (some (.ref f19)))
    (l19 : K.lookup f19 = some ⟨oc19, od19, .func (PySem.W.fnOf "law" "law" (defArgs st_p_law) (defBody st_p_law) (defScope st_p_law) .none kV19 dc19 pm19 an19 cd19 ct19), sl19⟩) (c19 : PySem.W.codeIn K cd19 "law" = true) (k19 : PySem.W.keepIn K (.ref f19) = true)
    : ∃ fd : FuncData, (∀ (s : Shared) (v : Value), BindsTo s fd ⟨[v], []⟩ [("_law_script", v)]) ∧ ∀ base : Heap, K.In base → base.Ns mainGlobals mg → FnOk l.prog w K mg base (L2.CX l.prog w) 7 fa fd ["_law_script"] (spLaw K) := by
  have T : Tx K mg (tabE [(6, C_NoLine, ["line"]), (2, C_NoMachine, ["room", "part"]), (5, C_NoName, ["name"]), (4, C_NoStrip, ["at"]), (3, C_NoText, ["at"]), (7, C_TooMany, []), (1, C_WayError, [])]) := {
    b_WayError := ⟨C_WayError, mc_WayError, PySem.W.mg_of X G g_WayError, bs_WayError, br_WayError, bv_WayError⟩,
    e_NoLine := ⟨C_NoLine, _, rfl, ⟨xg_NoLine, xh_NoLine, xs_NoLine, xd_NoLine, xy_NoLine, xz_NoLine, xw_NoLine, xm_NoLine⟩⟩,
    x_NoLine := ⟨C_NoLine, fI_NoLine, _, ⟨xct_mk xo_NoLine xa_NoLine xs_NoLine xt_NoLine xk_NoLine (PySem.W.mg_of X G g_NoLine), xi_NoLine_, xf_NoLine, fun_mk xl_NoLine xc_NoLine xq_NoLine, (fun_mk xl_NoLine xc_NoLine xq_NoLine).binds (fun _ _ _ _ _ _ us hl => match us, hl with | [_, _], _ => rfl), fun f hf => by simp only [List.mem_cons, List.not_mem_nil, or_false] at hf; rcases hf with rfl <;> assumption, xfB_ok xb_NoLine⟩, rfl⟩,
    e_NoMachine := ⟨C_NoMachine, _, rfl, ⟨xg_NoMachine, xh_NoMachine, xs_NoMachine, xd_NoMachine, xy_NoMachine, xz_NoMachine, xw_NoMachine, xm_NoMachine⟩⟩,
    x_NoMachine := ⟨C_NoMachine, fI_NoMachine, _, ⟨xct_mk xo_NoMachine xa_NoMachine xs_NoMachine xt_NoMachine xk_NoMachine (PySem.W.mg_of X G g_NoMachine), xi_NoMachine_, xf_NoMachine, fun_mk xl_NoMachine xc_NoMachine xq_NoMachine, (fun_mk xl_NoMachine xc_NoMachine xq_NoMachine).binds (fun _ _ _ _ _ _ us hl => match us, hl with | [_, _, _], _ => rfl), fun f hf => by simp only [List.mem_cons, List.not_mem_nil, or_false] at hf; rcases hf with rfl | rfl <;> assumption, xfB_ok xb_NoMachine⟩, rfl⟩,
    e_NoName := ⟨C_NoName, _, rfl, ⟨xg_NoName, xh_NoName, xs_NoName, xd_NoName, xy_NoName, xz_NoName, xw_NoName, xm_NoName⟩⟩,
    x_NoName := ⟨C_NoName, fI_NoName, _, ⟨xct_mk xo_NoName xa_NoName xs_NoName xt_NoName xk_NoName (PySem.W.mg_of X G g_NoName), xi_NoName_, xf_NoName, fun_mk xl_NoName xc_NoName xq_NoName, (fun_mk xl_NoName xc_NoName xq_NoName).binds (fun _ _ _ _ _ _ us hl => match us, hl with | [_, _], _ => rfl), fun f hf => by simp only [List.mem_cons, List.not_mem_nil, or_false] at hf; rcases hf with rfl <;> assumption, xfB_ok xb_NoName⟩, rfl⟩,
    e_NoStrip := ⟨C_NoStrip, _, rfl, ⟨xg_NoStrip, xh_NoStrip, xs_NoStrip, xd_NoStrip, xy_NoStrip, xz_NoStrip, xw_NoStrip, xm_NoStrip⟩⟩,
    x_NoStrip := ⟨C_NoStrip, fI_NoStrip, _, ⟨xct_mk xo_NoStrip xa_NoStrip xs_NoStrip xt_NoStrip xk_NoStrip (PySem.W.mg_of X G g_NoStrip), xi_NoStrip_, xf_NoStrip, fun_mk xl_NoStrip xc_NoStrip xq_NoStrip, (fun_mk xl_NoStrip xc_NoStrip xq_NoStrip).binds (fun _ _ _ _ _ _ us hl => match us, hl with | [_, _], _ => rfl), fun f hf => by simp only [List.mem_cons, List.not_mem_nil, or_false] at hf; rcases hf with rfl <;> assumption, xfB_ok xb_NoStrip⟩, rfl⟩,
    e_NoText := ⟨C_NoText, _, rfl, ⟨xg_NoText, xh_NoText, xs_NoText, xd_NoText, xy_NoText, xz_NoText, xw_NoText, xm_NoText⟩⟩,
    x_NoText := ⟨C_NoText, fI_NoText, _, ⟨xct_mk xo_NoText xa_NoText xs_NoText xt_NoText xk_NoText (PySem.W.mg_of X G g_NoText), xi_NoText_, xf_NoText, fun_mk xl_NoText xc_NoText xq_NoText, (fun_mk xl_NoText xc_NoText xq_NoText).binds (fun _ _ _ _ _ _ us hl => match us, hl with | [_, _], _ => rfl), fun f hf => by simp only [List.mem_cons, List.not_mem_nil, or_false] at hf; rcases hf with rfl <;> assumption, xfB_ok xb_NoText⟩, rfl⟩,
    x_TooMany := ⟨C_TooMany, ⟨xe_TooMany, PySem.W.mg_of X G g_TooMany, xk_TooMany, xs_TooMany, xt_TooMany, ⟨xg_TooMany, xh_TooMany, xs_TooMany, xd_TooMany, xy_TooMany, xz_TooMany, xw_TooMany, xm_TooMany⟩⟩, rfl⟩,
    x_WayError := ⟨C_WayError, ⟨xe_WayError, PySem.W.mg_of X G g_WayError, xk_WayError, xs_WayError, xt_WayError, ⟨xg_WayError, xh_WayError, xs_WayError, xd_WayError, xy_WayError, xz_WayError, xw_WayError, xm_WayError⟩⟩, rfl⟩,
    m_WayError := ⟨C_WayError, PySem.W.mg_of X G g_WayError, tabE_all (List.forall_mem_cons.mpr ⟨em_WayError_NoLine, List.forall_mem_cons.mpr ⟨em_WayError_NoMachine, List.forall_mem_cons.mpr ⟨em_WayError_NoName, List.forall_mem_cons.mpr ⟨em_WayError_NoStrip, List.forall_mem_cons.mpr ⟨em_WayError_NoText, List.forall_mem_cons.mpr ⟨em_WayError_TooMany, List.forall_mem_cons.mpr ⟨em_WayError_WayError, fun _ h => nomatch h⟩⟩⟩⟩⟩⟩⟩)⟩,
    i_TooMany := ⟨C_TooMany, PySem.W.mg_of X G g_TooMany, tabE_all (List.forall_mem_cons.mpr ⟨ei_TooMany_NoLine, List.forall_mem_cons.mpr ⟨ei_TooMany_NoMachine, List.forall_mem_cons.mpr ⟨ei_TooMany_NoName, List.forall_mem_cons.mpr ⟨ei_TooMany_NoStrip, List.forall_mem_cons.mpr ⟨ei_TooMany_NoText, List.forall_mem_cons.mpr ⟨ei_TooMany_TooMany, List.forall_mem_cons.mpr ⟨ei_TooMany_WayError, fun _ h => nomatch h⟩⟩⟩⟩⟩⟩⟩)⟩,
    i_NoStrip := ⟨C_NoStrip, PySem.W.mg_of X G g_NoStrip, tabE_all (List.forall_mem_cons.mpr ⟨ei_NoStrip_NoLine, List.forall_mem_cons.mpr ⟨ei_NoStrip_NoMachine, List.forall_mem_cons.mpr ⟨ei_NoStrip_NoName, List.forall_mem_cons.mpr ⟨ei_NoStrip_NoStrip, List.forall_mem_cons.mpr ⟨ei_NoStrip_NoText, List.forall_mem_cons.mpr ⟨ei_NoStrip_TooMany, List.forall_mem_cons.mpr ⟨ei_NoStrip_WayError, fun _ h => nomatch h⟩⟩⟩⟩⟩⟩⟩)⟩,
    i_NoText := ⟨C_NoText, PySem.W.mg_of X G g_NoText, tabE_all (List.forall_mem_cons.mpr ⟨ei_NoText_NoLine, List.forall_mem_cons.mpr ⟨ei_NoText_NoMachine, List.forall_mem_cons.mpr ⟨ei_NoText_NoName, List.forall_mem_cons.mpr ⟨ei_NoText_NoStrip, List.forall_mem_cons.mpr ⟨ei_NoText_NoText, List.forall_mem_cons.mpr ⟨ei_NoText_TooMany, List.forall_mem_cons.mpr ⟨ei_NoText_WayError, fun _ h => nomatch h⟩⟩⟩⟩⟩⟩⟩)⟩,
    i_NoLine := ⟨C_NoLine, PySem.W.mg_of X G g_NoLine, tabE_all (List.forall_mem_cons.mpr ⟨ei_NoLine_NoLine, List.forall_mem_cons.mpr ⟨ei_NoLine_NoMachine, List.forall_mem_cons.mpr ⟨ei_NoLine_NoName, List.forall_mem_cons.mpr ⟨ei_NoLine_NoStrip, List.forall_mem_cons.mpr ⟨ei_NoLine_NoText, List.forall_mem_cons.mpr ⟨ei_NoLine_TooMany, List.forall_mem_cons.mpr ⟨ei_NoLine_WayError, fun _ h => nomatch h⟩⟩⟩⟩⟩⟩⟩)⟩,
    i_NoName := ⟨C_NoName, PySem.W.mg_of X G g_NoName, tabE_all (List.forall_mem_cons.mpr ⟨ei_NoName_NoLine, List.forall_mem_cons.mpr ⟨ei_NoName_NoMachine, List.forall_mem_cons.mpr ⟨ei_NoName_NoName, List.forall_mem_cons.mpr ⟨ei_NoName_NoStrip, List.forall_mem_cons.mpr ⟨ei_NoName_NoText, List.forall_mem_cons.mpr ⟨ei_NoName_TooMany, List.forall_mem_cons.mpr ⟨ei_NoName_WayError, fun _ h => nomatch h⟩⟩⟩⟩⟩⟩⟩)⟩,
    i_NoMachine := ⟨C_NoMachine, PySem.W.mg_of X G g_NoMachine, tabE_all (List.forall_mem_cons.mpr ⟨ei_NoMachine_NoLine, List.forall_mem_cons.mpr ⟨ei_NoMachine_NoMachine, List.forall_mem_cons.mpr ⟨ei_NoMachine_NoName, List.forall_mem_cons.mpr ⟨ei_NoMachine_NoStrip, List.forall_mem_cons.mpr ⟨ei_NoMachine_NoText, List.forall_mem_cons.mpr ⟨ei_NoMachine_TooMany, List.forall_mem_cons.mpr ⟨ei_NoMachine_WayError, fun _ h => nomatch h⟩⟩⟩⟩⟩⟩⟩)⟩,
    v_ValueError := tabE_all (List.forall_mem_cons.mpr ⟨ev_ValueError_NoLine, List.forall_mem_cons.mpr ⟨ev_ValueError_NoMachine, List.forall_mem_cons.mpr ⟨ev_ValueError_NoName, List.forall_mem_cons.mpr ⟨ev_ValueError_NoStrip, List.forall_mem_cons.mpr ⟨ev_ValueError_NoText, List.forall_mem_cons.mpr ⟨ev_ValueError_TooMany, List.forall_mem_cons.mpr ⟨ev_ValueError_WayError, fun _ h => nomatch h⟩⟩⟩⟩⟩⟩⟩),
    tE := tabE_all (List.forall_mem_cons.mpr ⟨rfl, List.forall_mem_cons.mpr ⟨rfl, List.forall_mem_cons.mpr ⟨rfl, List.forall_mem_cons.mpr ⟨rfl, List.forall_mem_cons.mpr ⟨rfl, List.forall_mem_cons.mpr ⟨rfl, List.forall_mem_cons.mpr ⟨rfl, fun _ h => nomatch h⟩⟩⟩⟩⟩⟩⟩),
    b_ValueError := PySem.W.mg_none_of X G z0,
    b_all := PySem.W.mg_none_of X G z1,
    b_bool := PySem.W.mg_none_of X G z2,
    b_enumerate := PySem.W.mg_none_of X G z3,
    b_int := PySem.W.mg_none_of X G z4,
    b_isinstance := PySem.W.mg_none_of X G z5,
    b_len := PySem.W.mg_none_of X G z6,
    b_list := PySem.W.mg_none_of X G z7,
    b_max := PySem.W.mg_none_of X G z8,
    b_min := PySem.W.mg_none_of X G z9,
    b_range := PySem.W.mg_none_of X G z10,
    b_tuple := PySem.W.mg_none_of X G z11,
    c_MOST_ROOMS := ⟨_, PySem.W.mg_of X G v0⟩,
    c_SIGNS := ⟨_, PySem.W.mg_of X G v1⟩,
    c_STEPS := ⟨aT2, oT2, [Value.int 1 tc2_0, Value.int (-1) tc2_1], mT2, sT2, PySem.W.mg_of X G v2, vl2, by rw [PySem.sizeLine_eq]; show 2 ≤ _; decide, .cons (.int _ _) (.cons (.int _ _) (.nil))⟩,
    d_p_is_whole := txd_mk X G a0 l0 c0 k0 (fun _ _ _ _ _ _ us hl => match us, hl with | [_], _ => rfl),
    d_p_is_room := txd_mk X G a1 l1 c1 k1 (fun _ _ _ _ _ _ us hl => match us, hl with | [_, _], _ => rfl),
    d_p_is_turn := txd_mk X G a2 l2 c2 k2 (fun _ _ _ _ _ _ us hl => match us, hl with | [_, _], _ => rfl),
    d_p_is_cell := txd_mk X G a3 l3 c3 k3 (fun _ _ _ _ _ _ us hl => match us, hl with | [_, _], _ => rfl),
    d_p_look_through := txd_mk X G a4 l4 c4 k4 (fun _ _ _ _ _ _ us hl => match us, hl with | [_, _, _], _ => rfl),
    d_p_machine_of := txd_mk X G a5 l5 c5 k5 (fun _ _ _ _ _ _ us hl => match us, hl with | [_], _ => rfl),
    d_p_signs_of := txd_mk X G a6 l6 c6 k6 (fun _ _ _ _ _ _ us hl => match us, hl with | [_], _ => rfl),
    d_l_cell := txd_mk X G a7 l7 c7 k7 (fun _ _ _ _ _ _ us hl => match us, hl with | [_, _], _ => rfl),
    d_l_mixed := txd_mk X G a8 l8 c8 k8 (fun _ _ _ _ _ _ us hl => match us, hl with | [_, _], _ => rfl),
    d_l_turn := txd_mk X G a9 l9 c9 k9 (fun _ _ _ _ _ _ us hl => match us, hl with | [_, _], _ => rfl),
    d_l_row := txd_mk X G a10 l10 c10 k10 (fun _ _ _ _ _ _ us hl => match us, hl with | [_, _, _], _ => rfl),
    d_l_machine := txd_mk X G a11 l11 c11 k11 (fun _ _ _ _ _ _ us hl => match us, hl with | [_, _, _], _ => rfl),
    d_l_odd_turn := txd_mk X G a12 l12 c12 k12 (fun _ _ _ _ _ _ us hl => match us, hl with | [_, _], _ => rfl),
    d_l_odd_cells := txd_mk X G a13 l13 c13 k13 (fun _ _ _ _ _ _ us hl => match us, hl with | [_, _, _], _ => rfl),
    d_l_rows := txd_mk X G a14 l14 c14 k14 (fun _ _ _ _ _ _ us hl => match us, hl with | [_, _, _], _ => rfl),
    d_l_is_room := txd_mk X G a15 l15 c15 k15 (fun _ _ _ _ _ _ us hl => match us, hl with | [_, _], _ => rfl),
    d_l_fault := txd_mk X G a16 l16 c16 k16 (fun _ _ _ _ _ _ us hl => match us, hl with | [_], _ => rfl),
    d_l_asked := txd_mk X G a17 l17 c17 k17 (fun _ _ _ _ _ _ us hl => match us, hl with | [_], _ => rfl),
    d_l_plain := txd_mk X G a18 l18 c18 k18 (fun _ _ _ _ _ _ us hl => match us, hl with | [_], _ => rfl),
    d_p_law := txd_mk X G a19 l19 c19 k19 (fun _ _ _ _ _ _ us hl => match us, hl with | [_], _ => rfl) }
  have e := hfa.symm.trans (PySem.W.mg_of X G a19)
  cases e
  refine ⟨PySem.W.fnOf "law" "law" (defArgs st_p_law) (defBody st_p_law) (defScope st_p_law) .none kV19 dc19 pm19 an19 cd19 ct19, fun s v => .of_eq rfl, fun base _ _ => ?_⟩
  exact FnOk.imp (ok_p_law T (fun_mk l19 c19 k19)) (sp_law (g := ⟨l.prog, w, K, (tabE [(6, C_NoLine, ["line"]), (2, C_NoMachine, ["room", "part"]), (5, C_NoName, ["name"]), (4, C_NoStrip, ["at"]), (3, C_NoText, ["at"]), (7, C_TooMany, []), (1, C_WayError, [])]), fun _ => none, none, none, none, fun _ => none⟩) hlaw)
end DI
namespace DI
open PySem
set_option maxHeartbeats 4000000
set_option synthInstance.maxSize 4000
abbrev x_WayError : Nat := 1
abbrev x_NoMachine : Nat := 2
abbrev x_NoText : Nat := 3
abbrev x_NoStrip : Nat := 4
abbrev x_NoName : Nat := 5
abbrev x_NoLine : Nat := 6
abbrev x_TooMany : Nat := 7
section
variable {α β γ δ ε ζ η : Type} {σ : Sl}
theorem rf_call1_p {θ : Type} {h : List D → R D} {eθ : θ → D} {f1 : Sl → R D} {e1 : α → D} {a1 : α} {e1' : α → D} {Φ : α → R θ} (T : ∀ a1, Rf (h [e1' a1]) (Φ a1) eθ) (z1 : Fz e1 e1') (hc : (Cl e1 ∧ True) ∨ Nf eθ) (h1 : Rf (f1 σ) (.ok a1) e1) : Rf (eF h (aC f1 aN) σ) (Φ a1) eθ := rf_call1 T z1 hc h1
theorem rf_call2_pp {θ : Type} {h : List D → R D} {eθ : θ → D} {f1 : Sl → R D} {e1 : α → D} {a1 : α} {f2 : Sl → R D} {e2 : β → D} {a2 : β} {e1' : α → D} {e2' : β → D} {Φ : α → β → R θ} (T : ∀ a1 a2, Rf (h [e1' a1, e2' a2]) (Φ a1 a2) eθ) (z1 : Fz e1 e1') (z2 : Fz e2 e2') (hc : (Cl e1 ∧ Cl e2 ∧ True) ∨ Nf eθ) (h1 : Rf (f1 σ) (.ok a1) e1) (h2 : Rf (f2 σ) (.ok a2) e2) : Rf (eF h (aC f1 (aC f2 aN)) σ) (Φ a1 a2) eθ := rf_call2 T z1 z2 hc h1 h2
theorem rf_call1_m {θ : Type} {h : List D → R D} {eθ : θ → D} {f1 : Sl → R D} {e1 : α → D} {m1 : R α} {e1' : α → D} {Φ : α → R θ} (T : ∀ a1, Rf (h [e1' a1]) (Φ a1) eθ) (z1 : Fz e1 e1') (hc : (Cl e1 ∧ True) ∨ Nf eθ) (h1 : Rf (f1 σ) m1 e1) : Rf (eF h (aC f1 aN) σ) (m1.bind fun a1 => Φ a1) eθ := rf_call1 T z1 hc h1
theorem rf_call2_mp {θ : Type} {h : List D → R D} {eθ : θ → D} {f1 : Sl → R D} {e1 : α → D} {m1 : R α} {f2 : Sl → R D} {e2 : β → D} {a2 : β} {e1' : α → D} {e2' : β → D} {Φ : α → β → R θ} (T : ∀ a1 a2, Rf (h [e1' a1, e2' a2]) (Φ a1 a2) eθ) (z1 : Fz e1 e1') (z2 : Fz e2 e2') (hc : (Cl e1 ∧ Cl e2 ∧ True) ∨ Nf eθ) (h1 : Rf (f1 σ) m1 e1) (h2 : Rf (f2 σ) (.ok a2) e2) : Rf (eF h (aC f1 (aC f2 aN)) σ) (m1.bind fun a1 => Φ a1 a2) eθ := rf_call2 T z1 z2 hc h1 h2
theorem rf_bip1_p {θ : Type} {b : Bi} {eθ : θ → D} {f1 : Sl → R D} {e1 : α → D} {a1 : α} {g : α → θ} (T : ∀ a1, Rf (biD b [e1 a1]) (.ok (g a1)) eθ) (h1 : Rf (f1 σ) (.ok a1) e1) : Rf (eBi b (aC f1 aN) σ) (.ok (g a1)) eθ := rf_bi1 (Φ := fun a1 => .ok (g a1)) T h1
theorem rf_bip1_m {θ : Type} {b : Bi} {eθ : θ → D} {f1 : Sl → R D} {e1 : α → D} {m1 : R α} {g : α → θ} (T : ∀ a1, Rf (biD b [e1 a1]) (.ok (g a1)) eθ) (h1 : Rf (f1 σ) m1 e1) : Rf (eBi b (aC f1 aN) σ) (m1.bind fun a1 => .ok (g a1)) eθ := rf_bi1 (Φ := fun a1 => .ok (g a1)) T h1
theorem rf_bi1_p {θ : Type} {b : Bi} {eθ : θ → D} {f1 : Sl → R D} {e1 : α → D} {a1 : α} {Φ : α → R θ} (T : ∀ a1, Rf (biD b [e1 a1]) (Φ a1) eθ) (h1 : Rf (f1 σ) (.ok a1) e1) : Rf (eBi b (aC f1 aN) σ) (Φ a1) eθ := rf_bi1 T h1
theorem rf_call3_ppp {θ : Type} {h : List D → R D} {eθ : θ → D} {f1 : Sl → R D} {e1 : α → D} {a1 : α} {f2 : Sl → R D} {e2 : β → D} {a2 : β} {f3 : Sl → R D} {e3 : γ → D} {a3 : γ} {e1' : α → D} {e2' : β → D} {e3' : γ → D} {Φ : α → β → γ → R θ} (T : ∀ a1 a2 a3, Rf (h [e1' a1, e2' a2, e3' a3]) (Φ a1 a2 a3) eθ) (z1 : Fz e1 e1') (z2 : Fz e2 e2') (z3 : Fz e3 e3') (hc : (Cl e1 ∧ Cl e2 ∧ Cl e3 ∧ True) ∨ Nf eθ) (h1 : Rf (f1 σ) (.ok a1) e1) (h2 : Rf (f2 σ) (.ok a2) e2) (h3 : Rf (f3 σ) (.ok a3) e3) : Rf (eF h (aC f1 (aC f2 (aC f3 aN))) σ) (Φ a1 a2 a3) eθ := rf_call3 T z1 z2 z3 hc h1 h2 h3
theorem rf_tup2_pp {f1 : Sl → R D} {e1 : α → D} {a1 : α} {f2 : Sl → R D} {e2 : β → D} {a2 : β} (h1 : Rf (f1 σ) (.ok a1) e1) (h2 : Rf (f2 σ) (.ok a2) e2) : Rf (eTup (aC f1 (aC f2 aN)) σ) (.ok (a1, a2)) (eT2 e1 e2) := rf_tup2 h1 h2
theorem rf_tup3_pmp {f1 : Sl → R D} {e1 : α → D} {a1 : α} {f2 : Sl → R D} {e2 : β → D} {m2 : R β} {f3 : Sl → R D} {e3 : γ → D} {a3 : γ} (h1 : Rf (f1 σ) (.ok a1) e1) (h2 : Rf (f2 σ) m2 e2) (h3 : Rf (f3 σ) (.ok a3) e3) : Rf (eTup (aC f1 (aC f2 (aC f3 aN))) σ) (m2.bind fun a2 => .ok (a1, a2, a3)) (eT3 e1 e2 e3) := rf_tup3 h1 h2 h3
theorem rf_tup2_mm {f1 : Sl → R D} {e1 : α → D} {m1 : R α} {f2 : Sl → R D} {e2 : β → D} {m2 : R β} (h1 : Rf (f1 σ) m1 e1) (h2 : Rf (f2 σ) m2 e2) : Rf (eTup (aC f1 (aC f2 aN)) σ) (m1.bind fun a1 => m2.bind fun a2 => .ok (a1, a2)) (eT2 e1 e2) := rf_tup2 h1 h2
theorem rf_bip2_pp {θ : Type} {b : Bi} {eθ : θ → D} {f1 : Sl → R D} {e1 : α → D} {a1 : α} {f2 : Sl → R D} {e2 : β → D} {a2 : β} {g : α → β → θ} (T : ∀ a1 a2, Rf (biD b [e1 a1, e2 a2]) (.ok (g a1 a2)) eθ) (h1 : Rf (f1 σ) (.ok a1) e1) (h2 : Rf (f2 σ) (.ok a2) e2) : Rf (eBi b (aC f1 (aC f2 aN)) σ) (.ok (g a1 a2)) eθ := rf_bi2 (Φ := fun a1 a2 => .ok (g a1 a2)) T h1 h2
theorem rf_tup3_ppm {f1 : Sl → R D} {e1 : α → D} {a1 : α} {f2 : Sl → R D} {e2 : β → D} {a2 : β} {f3 : Sl → R D} {e3 : γ → D} {m3 : R γ} (h1 : Rf (f1 σ) (.ok a1) e1) (h2 : Rf (f2 σ) (.ok a2) e2) (h3 : Rf (f3 σ) m3 e3) : Rf (eTup (aC f1 (aC f2 (aC f3 aN))) σ) (m3.bind fun a3 => .ok (a1, a2, a3)) (eT3 e1 e2 e3) := rf_tup3 h1 h2 h3
theorem rf_tup2_mp {f1 : Sl → R D} {e1 : α → D} {m1 : R α} {f2 : Sl → R D} {e2 : β → D} {a2 : β} (h1 : Rf (f1 σ) m1 e1) (h2 : Rf (f2 σ) (.ok a2) e2) : Rf (eTup (aC f1 (aC f2 aN)) σ) (m1.bind fun a1 => .ok (a1, a2)) (eT2 e1 e2) := rf_tup2 h1 h2
end
noncomputable def f_p_is_whole (thing : Turn) : R Bool := runO (L := Unit) (S := Unit) <|
  O.rt (thing.isLeft && (!false))
theorem tf_p_is_whole (thing : Turn) : Rf (h_p_is_whole [eTu thing]) (f_p_is_whole thing) D.bl := by
  unfold h_p_is_whole runF b_p_is_whole f_p_is_whole
  exact g_fun (g_last (g_retP (a := thing.isLeft && (!false)) (rf_o cl_bl (rf_andP_p (rf_isi_p (b := Sum.isLeft) tu_isInt (rf_v (i := 0) (a := thing) eTu rfl)) (rf_not_p (rf_isi_p (b := fun _ => false) (fun a => by cases a <;> rfl) (rf_v (i := 0) (a := thing) eTu rfl)))))))
noncomputable def f_p_is_room (thing : Turn) (many : Int) : R Bool := runO (L := Unit) (S := Unit) <|
  bnd ((f_p_is_whole thing).bind fun u => if u = true then (tuI thing).bind fun v => R.ok (decide (0 ≤ v) && decide (v < many)) else R.ok false) .rt
theorem tf_p_is_room (thing : Turn) (many : Int) : Rf (h_p_is_room [eTu thing, D.int many]) (f_p_is_room thing many) D.bl := by
  unfold h_p_is_room runF b_p_is_room f_p_is_room
  exact g_fun (g_last (g_ret (rf_o cl_bl (rf_and_m (rf_call1_p (Φ := f_p_is_whole) tf_p_is_whole cl_tu.fz (.inl ⟨cl_tu, True.intro⟩) (rf_v (i := 0) (a := thing) eTu rfl)) (rf_cc_lelt_pm (rf_k (a := 0) D.int rfl) (rf_nar_p tuI (rf_v (i := 0) (a := thing) eTu rfl) nw_tuI) (rf_v (i := 1) (a := many) D.int rfl)))) True.intro))
noncomputable def f_p_is_turn (thing : Turn) (many : Int) : R Bool := runO (L := Unit) (S := Unit) <|
  bnd (if (decide (thing ∈ (([Sum.inr ("by".toList), Sum.inr ("out".toList)]) : List Turn))) = true then R.ok true else f_p_is_room thing many) .rt
theorem tf_p_is_turn (thing : Turn) (many : Int) : Rf (h_p_is_turn [eTu thing, D.int many]) (f_p_is_turn thing many) D.bl := by
  unfold h_p_is_turn runF b_p_is_turn f_p_is_turn
  exact g_fun (g_last (g_ret (rf_o cl_bl (rf_or_p (rf_inQ_pp py_tu py_tu pq_tu (by decide) (by decide) (rf_v (i := 0) (a := thing) eTu rfl) (rf_tupQP (as := [Sum.inr ("by".toList), Sum.inr ("out".toList)]) (rl_consP (rf_wid_p Sum.inr (rf_k (a := "by".toList) eSt (k_str _)) wd_ts) (rl_consP (rf_wid_p Sum.inr (rf_k (a := "out".toList) eSt (k_str _)) wd_ts) rl_nil)) (by simp))) (rf_call2_pp (Φ := f_p_is_room) tf_p_is_room cl_tu.fz cl_int.fz (.inl ⟨cl_tu, cl_int, True.intro⟩) (rf_v (i := 0) (a := thing) eTu rfl) (rf_v (i := 1) (a := many) D.int rfl)))) True.intro))
noncomputable def f_p_is_cell (cell : (Int × Int)) (many : Int) : R Bool := runO (L := Unit) (S := Unit) <|
  bnd ((f_p_is_room (Sum.inl cell.1) many).bind fun u => if u = true then (f_p_is_whole (Sum.inl cell.2)).bind fun u => R.ok (u && (decide (cell.2 ∈ (((fun p => [ p.1,  p.2]) ((1, (-1)))) : List Int)))) else R.ok false) .rt
theorem tf_p_is_cell (cell : (Int × Int)) (many : Int) : Rf (h_p_is_cell [(eT2 D.int D.int) cell, D.int many]) (f_p_is_cell cell many) D.bl := by
  unfold h_p_is_cell runF b_p_is_cell f_p_is_cell
  exact g_fun (g_last (g_ret (rf_o cl_bl (rf_and_m (rf_call2_pp (Φ := f_p_is_room) tf_p_is_room cl_tu.fz cl_int.fz (.inl ⟨cl_tu, cl_int, True.intro⟩) (rf_wid_p Sum.inl (rf_ix2_0_p (rf_v (i := 0) (a := cell) (eT2 D.int D.int) rfl)) wd_ti) (rf_v (i := 1) (a := many) D.int rfl)) (rf_andP_m (rf_call1_p (Φ := f_p_is_whole) tf_p_is_whole cl_tu.fz (.inl ⟨cl_tu, True.intro⟩) (rf_wid_p Sum.inl (rf_ix2_1_p (rf_v (i := 0) (a := cell) (eT2 D.int D.int) rfl)) wd_ti)) (rf_inQ_pp py_int py_int pq_int (by decide) (by decide) (rf_ix2_1_p (rf_v (i := 0) (a := cell) (eT2 D.int D.int) rfl)) (rf_wid_p (fun p => [ p.1,  p.2]) (rf_k (a := (1, (-1))) (eT2 D.int D.int) (kt_2i _ _)) (wd_q2 wd_id wd_id)))))) True.intro))
noncomputable def f_p_is_cell2 (cell : (List Int)) (many : Int) : R Bool := runO (L := Unit) (S := Unit) <|
  bnd ((((ofR (L2.atI cell 0)).bind fun u => R.ok (Sum.inl u)).bind fun u => f_p_is_room u many).bind fun u => if u = true then (((ofR (L2.atI cell 1)).bind fun u => R.ok (Sum.inl u)).bind fun u => f_p_is_whole u).bind fun u => if u = true then (ofR (L2.atI cell 1)).bind fun u => R.ok (decide (u ∈ (((fun p => [ p.1,  p.2]) ((1, (-1)))) : List Int))) else R.ok false else R.ok false) .rt
theorem tf_p_is_cell2 (cell : (List Int)) (many : Int) : Rf (h_p_is_cell [(eLs false D.int) cell, D.int many]) (f_p_is_cell2 cell many) D.bl := by
  unfold h_p_is_cell runF b_p_is_cell f_p_is_cell2
  exact g_fun (g_last (g_ret (rf_o cl_bl (rf_and_m (rf_call2_mp (Φ := f_p_is_room) tf_p_is_room cl_tu.fz cl_int.fz (.inl ⟨cl_tu, cl_int, True.intro⟩) (rf_wid_m Sum.inl (rf_ixL_pp (rf_v (i := 0) (a := cell) (eLs false D.int) rfl) (rf_k (a := 0) D.int rfl)) wd_ti) (rf_v (i := 1) (a := many) D.int rfl)) (rf_and_m (rf_call1_m (Φ := f_p_is_whole) tf_p_is_whole cl_tu.fz (.inl ⟨cl_tu, True.intro⟩) (rf_wid_m Sum.inl (rf_ixL_pp (rf_v (i := 0) (a := cell) (eLs false D.int) rfl) (rf_k (a := 1) D.int rfl)) wd_ti)) (rf_inQ_mp py_int py_int pq_int (by decide) (by decide) (rf_ixL_pp (rf_v (i := 0) (a := cell) (eLs false D.int) rfl) (rf_k (a := 1) D.int rfl)) (rf_wid_p (fun p => [ p.1,  p.2]) (rf_k (a := (1, (-1))) (eT2 D.int D.int) (kt_2i _ _)) (wd_q2 wd_id wd_id)))))) True.intro))
noncomputable def f_p_look_through (row : (Turn × (List (Int × Int)) × Turn)) (room : Int) (rows : (List (Turn × (List (Int × Int)) × Turn))) : R Unit := runN <|
  bnd (R.ok (row)) fun (left, cells, right) =>
  bnd (if (decide (((cells.length : Int)) < 1)) = true then R.ok true else ((lenT ("abc".toList)).bind fun v => R.ok (decide (v < ((cells.length : Int))))).bind fun u => if u = true then R.ok true else (((ofR (L2.atI rows 0)).bind fun u => R.ok (u.2.1)).bind fun u => R.ok ((u.length : Int))).bind fun v => R.ok (!decide (((cells.length : Int)) = v))) fun b_ => if b_ = true then
    bnd (R.ok ("cells".toList)) fun u => bnd (R.ok (room)) fun v => O.er 2 [D.int v, eSt u]
  else
    bnd ((f_p_is_turn left ((rows.length : Int))).bind fun u => R.ok (!u)) fun b_ => if b_ = true then
    bnd (R.ok ("left".toList)) fun u => bnd (R.ok (room)) fun v => O.er 2 [D.int v, eSt u]
  else
    bnd (((cmT cells (fun cell => f_p_is_cell cell ((rows.length : Int)))).bind fun u => R.ok (u.all id)).bind fun u => R.ok (!u)) fun b_ => if b_ = true then
    bnd (R.ok ("cell".toList)) fun u => bnd (R.ok (room)) fun v => O.er 2 [D.int v, eSt u]
  else
    bnd ((f_p_is_turn right ((rows.length : Int))).bind fun u => R.ok (!u)) fun b_ => if b_ = true then
    bnd (R.ok ("right".toList)) fun u => bnd (R.ok (room)) fun v => O.er 2 [D.int v, eSt u]
  else
    O.nx ()
theorem tf_p_look_through (row : (Turn × (List (Int × Int)) × Turn)) (room : Int) (rows : (List (Turn × (List (Int × Int)) × Turn))) : Rf (h_p_look_through [(eT3 eTu (eSq (eT2 D.int D.int)) eTu) row, D.int room, (eLs false (eT3 eTu (eSq (eT2 D.int D.int)) eTu)) rows]) (f_p_look_through row room rows) eNon := by
  unfold h_p_look_through runF b_p_look_through f_p_look_through
  exact g_funN (g_last (g_seq (g_unpA (it_t3 cl_tu (cl_sq (cl_t2 cl_int cl_int)) cl_tu) (rf_v (i := 0) (a := row) (eT3 eTu (eSq (eT2 D.int D.int)) eTu) rfl) True.intro fun q_ => by obtain ⟨left, cells, right⟩ := q_; exact ⟨_, rfl, (g_seq (g_if (rf_or_p (rf_lt_pp (rf_bip1_p (g := fun u => (List.length u : Int)) bt_lenQ (rf_v (i := 4) (a := cells) (eSq (eT2 D.int D.int)) rfl)) (rf_k (a := 1) D.int rfl)) (rf_or_m (rf_gt_pm (rf_bip1_p (g := fun u => (List.length u : Int)) bt_lenQ (rf_v (i := 4) (a := cells) (eSq (eT2 D.int D.int)) rfl)) (rf_bi1_p (Φ := lenT) bt_lenS (rf_k (a := "abc".toList) eSt (k_str _)))) (rf_ne_pm py_int py_int pq_int (by decide) (by decide) (rf_bip1_p (g := fun u => (List.length u : Int)) bt_lenQ (rf_v (i := 4) (a := cells) (eSq (eT2 D.int D.int)) rfl)) (rf_bip1_m (g := fun u => (List.length u : Int)) bt_lenQ (rf_ix3_1_m (rf_ixL_pp (rf_v (i := 2) (a := rows) (eLs false (eT3 eTu (eSq (eT2 D.int D.int)) eTu)) rfl) (rf_k (a := 0) D.int rfl))))))) True.intro (g_raise2 cl_st nf_st cl_int nf_int (rf_k (a := "cells".toList) eSt (k_str _)) (rf_v (i := 1) (a := room) D.int rfl) True.intro) (g_skip (g_seq (g_if (rf_not_m (rf_call2_pp (Φ := f_p_is_turn) tf_p_is_turn cl_tu.fz cl_int.fz (.inl ⟨cl_tu, cl_int, True.intro⟩) (rf_v (i := 3) (a := left) eTu rfl) (rf_bip1_p (g := fun u => (List.length u : Int)) bt_lenL (rf_v (i := 2) (a := rows) (eLs false (eT3 eTu (eSq (eT2 D.int D.int)) eTu)) rfl)))) True.intro (g_raise2 cl_st nf_st cl_int nf_int (rf_k (a := "left".toList) eSt (k_str _)) (rf_v (i := 1) (a := room) D.int rfl) True.intro) (g_skip (g_seq (g_if (rf_not_m (rf_bip1_m (g := fun u => List.all u id) bt_all (rf_cm_p (ri_Q_p (cl_t2 cl_int cl_int) (rf_v (i := 4) (a := cells) (eSq (eT2 D.int D.int)) rfl)) (fun cell => ⟨_, rfl, (rf_call2_pp (Φ := f_p_is_cell) tf_p_is_cell (cl_t2 cl_int cl_int).fz cl_int.fz (.inl ⟨(cl_t2 cl_int cl_int), cl_int, True.intro⟩) (rf_v (i := 6) (a := cell) (eT2 D.int D.int) rfl) (rf_bip1_p (g := fun u => (List.length u : Int)) bt_lenL (rf_v (i := 2) (a := rows) (eLs false (eT3 eTu (eSq (eT2 D.int D.int)) eTu)) rfl)))⟩)))) True.intro (g_raise2 cl_st nf_st cl_int nf_int (rf_k (a := "cell".toList) eSt (k_str _)) (rf_v (i := 1) (a := room) D.int rfl) True.intro) (g_skip (g_if (rf_not_m (rf_call2_pp (Φ := f_p_is_turn) tf_p_is_turn cl_tu.fz cl_int.fz (.inl ⟨cl_tu, cl_int, True.intro⟩) (rf_v (i := 5) (a := right) eTu rfl) (rf_bip1_p (g := fun u => (List.length u : Int)) bt_lenL (rf_v (i := 2) (a := rows) (eLs false (eT3 eTu (eSq (eT2 D.int D.int)) eTu)) rfl)))) True.intro (g_raise2 cl_st nf_st cl_int nf_int (rf_k (a := "right".toList) eSt (k_str _)) (rf_v (i := 1) (a := room) D.int rfl) True.intro) (g_skip (g_nx True.intro))))))))))))⟩)))
noncomputable def f_p_look_through2 (row : RwL) (room : Int) (rows : (List RwL)) : R Unit := runN <|
  bnd (R.ok (row)) fun (left, cells, right) =>
  bnd (if (decide (((cells.length : Int)) < 1)) = true then R.ok true else ((lenT ("abc".toList)).bind fun v => R.ok (decide (v < ((cells.length : Int))))).bind fun u => if u = true then R.ok true else (((ofR (L2.atI rows 0)).bind fun u => R.ok u.2.1).bind fun u => R.ok ((u.length : Int))).bind fun v => R.ok (!decide (((cells.length : Int)) = v))) fun b_ => if b_ = true then
    bnd (R.ok ("cells".toList)) fun u => bnd (R.ok (room)) fun v => O.er 2 [D.int v, eSt u]
  else
    bnd ((f_p_is_turn left ((rows.length : Int))).bind fun u => R.ok (!u)) fun b_ => if b_ = true then
    bnd (R.ok ("left".toList)) fun u => bnd (R.ok (room)) fun v => O.er 2 [D.int v, eSt u]
  else
    bnd (((cmT cells (fun cell => f_p_is_cell2 cell ((rows.length : Int)))).bind fun u => R.ok (u.all id)).bind fun u => R.ok (!u)) fun b_ => if b_ = true then
    bnd (R.ok ("cell".toList)) fun u => bnd (R.ok (room)) fun v => O.er 2 [D.int v, eSt u]
  else
    bnd ((f_p_is_turn right ((rows.length : Int))).bind fun u => R.ok (!u)) fun b_ => if b_ = true then
    bnd (R.ok ("right".toList)) fun u => bnd (R.ok (room)) fun v => O.er 2 [D.int v, eSt u]
  else
    O.nx ()
theorem tf_p_look_through2 (row : RwL) (room : Int) (rows : (List RwL)) : Rf (h_p_look_through [eRw row, D.int room, (eLs false eRw) rows]) (f_p_look_through2 row room rows) eNon := by
  unfold h_p_look_through runF b_p_look_through f_p_look_through2
  exact g_funN (g_last (g_seq (g_unpA it_rw (rf_v (i := 0) (a := row) eRw rfl) True.intro fun q_ => by obtain ⟨left, cells, right⟩ := q_; exact ⟨_, rfl, (g_seq (g_if (rf_or_p (rf_lt_pp (rf_bip1_p (g := fun u => (List.length u : Int)) bt_lenL (rf_v (i := 4) (a := cells) (eLs false (eLs false D.int)) rfl)) (rf_k (a := 1) D.int rfl)) (rf_or_m (rf_gt_pm (rf_bip1_p (g := fun u => (List.length u : Int)) bt_lenL (rf_v (i := 4) (a := cells) (eLs false (eLs false D.int)) rfl)) (rf_bi1_p (Φ := lenT) bt_lenS (rf_k (a := "abc".toList) eSt (k_str _)))) (rf_ne_pm py_int py_int pq_int (by decide) (by decide) (rf_bip1_p (g := fun u => (List.length u : Int)) bt_lenL (rf_v (i := 4) (a := cells) (eLs false (eLs false D.int)) rfl)) (rf_bip1_m (g := fun u => (List.length u : Int)) bt_lenL (rf_rw_1_m (rf_ixL_pp (rf_v (i := 2) (a := rows) (eLs false eRw) rfl) (rf_k (a := 0) D.int rfl))))))) True.intro (g_raise2 cl_st nf_st cl_int nf_int (rf_k (a := "cells".toList) eSt (k_str _)) (rf_v (i := 1) (a := room) D.int rfl) True.intro) (g_skip (g_seq (g_if (rf_not_m (rf_call2_pp (Φ := f_p_is_turn) tf_p_is_turn cl_tu.fz cl_int.fz (.inl ⟨cl_tu, cl_int, True.intro⟩) (rf_v (i := 3) (a := left) eTu rfl) (rf_bip1_p (g := fun u => (List.length u : Int)) bt_lenL (rf_v (i := 2) (a := rows) (eLs false eRw) rfl)))) True.intro (g_raise2 cl_st nf_st cl_int nf_int (rf_k (a := "left".toList) eSt (k_str _)) (rf_v (i := 1) (a := room) D.int rfl) True.intro) (g_skip (g_seq (g_if (rf_not_m (rf_bip1_m (g := fun u => List.all u id) bt_all (rf_cm_p (ri_L_p (cl_ls cl_int) (rf_v (i := 4) (a := cells) (eLs false (eLs false D.int)) rfl)) (fun cell => ⟨_, rfl, (rf_call2_pp (Φ := f_p_is_cell2) tf_p_is_cell2 (cl_ls cl_int).fz cl_int.fz (.inl ⟨(cl_ls cl_int), cl_int, True.intro⟩) (rf_v (i := 6) (a := cell) (eLs false D.int) rfl) (rf_bip1_p (g := fun u => (List.length u : Int)) bt_lenL (rf_v (i := 2) (a := rows) (eLs false eRw) rfl)))⟩)))) True.intro (g_raise2 cl_st nf_st cl_int nf_int (rf_k (a := "cell".toList) eSt (k_str _)) (rf_v (i := 1) (a := room) D.int rfl) True.intro) (g_skip (g_if (rf_not_m (rf_call2_pp (Φ := f_p_is_turn) tf_p_is_turn cl_tu.fz cl_int.fz (.inl ⟨cl_tu, cl_int, True.intro⟩) (rf_v (i := 5) (a := right) eTu rfl) (rf_bip1_p (g := fun u => (List.length u : Int)) bt_lenL (rf_v (i := 2) (a := rows) (eLs false eRw) rfl)))) True.intro (g_raise2 cl_st nf_st cl_int nf_int (rf_k (a := "right".toList) eSt (k_str _)) (rf_v (i := 1) (a := room) D.int rfl) True.intro) (g_skip (g_nx True.intro))))))))))))⟩)))
noncomputable def f_p_machine_of (rows : (List (Turn × (List (Int × Int)) × Turn))) : R (List (Turn × (List (Int × Int)) × Turn)) := runO (L := Unit) (S := Unit) <|
  if ((decide (((rows.length : Int)) < 1)) || (decide (60 < ((rows.length : Int))))) = true then
    bnd (R.ok ("rooms".toList)) fun u => bnd (R.ok ((rows.length : Int))) fun v => O.er 2 [D.int v, eSt u]
  else
    O.thn (forT (enT 0 rows) (fun (room, row) (_ : Unit) =>
    bnd (f_p_look_through row room rows) fun _ =>
    O.nx ()) () : O (Unit) _ _) fun (_ : Unit) =>
  bnd ((cmT rows (fun row => ((cmT row.2.1 (fun cell => R.ok ((cell.1, cell.2)))).bind fun u => R.ok (u)).bind fun v => R.ok ((row.1, v, row.2.2)))).bind fun u => R.ok (u)) .rt
theorem tf_p_machine_of (rows : (List (Turn × (List (Int × Int)) × Turn))) : Rf (h_p_machine_of [(eLs false (eT3 eTu (eSq (eT2 D.int D.int)) eTu)) rows]) (f_p_machine_of rows) (eSq (eT3 eTu (eSq (eT2 D.int D.int)) eTu)) := by
  unfold h_p_machine_of runF b_p_machine_of f_p_machine_of
  exact g_fun (g_last (g_seq (g_ifP (b := (decide (((rows.length : Int)) < 1)) || (decide (60 < ((rows.length : Int))))) (rf_orP_p (rf_lt_pp (rf_bip1_p (g := fun u => (List.length u : Int)) bt_lenL (rf_v (i := 0) (a := rows) (eLs false (eT3 eTu (eSq (eT2 D.int D.int)) eTu)) rfl)) (rf_k (a := 1) D.int rfl)) (rf_gt_pp (rf_bip1_p (g := fun u => (List.length u : Int)) bt_lenL (rf_v (i := 0) (a := rows) (eLs false (eT3 eTu (eSq (eT2 D.int D.int)) eTu)) rfl)) (rf_k (a := 60) D.int rfl))) (g_raise2 cl_st nf_st cl_int nf_int (rf_k (a := "rooms".toList) eSt (k_str _)) (rf_bip1_p (g := fun u => (List.length u : Int)) bt_lenL (rf_v (i := 0) (a := rows) (eLs false (eT3 eTu (eSq (eT2 D.int D.int)) eTu)) rfl)) True.intro) (g_skip (g_seq (g_thn (I' := (fun (_ : Unit) (σ : Sl) => ∃ d1 d2 d3 : Option D, σ = [some ((eLs false (eT3 eTu (eSq (eT2 D.int D.int)) eTu)) rows), d1, d2, d3])) (g_forP (I := (fun (_ : Unit) (σ : Sl) => ∃ d1 d2 d3 : Option D, σ = [some ((eLs false (eT3 eTu (eSq (eT2 D.int D.int)) eTu)) rows), d1, d2, d3])) (xs := enT 0 rows) (ri_enL_p (cl_t3 cl_tu (cl_sq (cl_t2 cl_int cl_int)) cl_tu) (rf_o (cl_ls (cl_t3 cl_tu (cl_sq (cl_t2 cl_int cl_int)) cl_tu)) (rf_v (i := 0) (a := rows) (eLs false (eT3 eTu (eSq (eT2 D.int D.int)) eTu)) rfl))) ⟨_, _, _, rfl⟩ True.intro (fun q_ s_ σ_ h_ => by obtain ⟨room, row⟩ := q_; obtain ⟨d1, d2, d3, rfl⟩ := h_; exact ⟨_, rfl, g_last (g_drop (rf_call3_ppp (Φ := f_p_look_through) tf_p_look_through (cl_t3 cl_tu (cl_sq (cl_t2 cl_int cl_int)) cl_tu).fz cl_int.fz (cl_ls (cl_t3 cl_tu (cl_sq (cl_t2 cl_int cl_int)) cl_tu)).fz (.inl ⟨(cl_t3 cl_tu (cl_sq (cl_t2 cl_int cl_int)) cl_tu), cl_int, (cl_ls (cl_t3 cl_tu (cl_sq (cl_t2 cl_int cl_int)) cl_tu)), True.intro⟩) (rf_v (i := 2) (a := row) (eT3 eTu (eSq (eT2 D.int D.int)) eTu) rfl) (rf_v (i := 1) (a := room) D.int rfl) (rf_v (i := 0) (a := rows) (eLs false (eT3 eTu (eSq (eT2 D.int D.int)) eTu)) rfl)) True.intro (g_nx ⟨_, _, _, rfl⟩))⟩)) fun s_ σ_ h_ => by obtain ⟨d1, d2, d3, rfl⟩ := h_; exact (g_ret (rf_bip1_m (g := fun u => u) (bt_tupL (cl_t3 cl_tu (cl_sq (cl_t2 cl_int cl_int)) cl_tu)) (rf_cm_p (ri_L_p (cl_t3 cl_tu (cl_sq (cl_t2 cl_int cl_int)) cl_tu) (rf_v (i := 0) (a := rows) (eLs false (eT3 eTu (eSq (eT2 D.int D.int)) eTu)) rfl)) (fun row => ⟨_, rfl, (rf_tup3_pmp (rf_o cl_tu (rf_ix3_0_p (rf_v (i := 2) (a := row) (eT3 eTu (eSq (eT2 D.int D.int)) eTu) rfl))) (rf_bip1_m (g := fun u => u) (bt_tupL (cl_t2 cl_int cl_int)) (rf_cm_p (ri_Q_p (cl_t2 cl_int cl_int) (rf_ix3_1_p (rf_v (i := 2) (a := row) (eT3 eTu (eSq (eT2 D.int D.int)) eTu) rfl))) (fun cell => ⟨_, rfl, (rf_tup2_pp (rf_o cl_int (rf_ix2_0_p (rf_v (i := 3) (a := cell) (eT2 D.int D.int) rfl))) (rf_o cl_int (rf_ix2_1_p (rf_v (i := 3) (a := cell) (eT2 D.int D.int) rfl))))⟩))) (rf_o cl_tu (rf_ix3_2_p (rf_v (i := 2) (a := row) (eT3 eTu (eSq (eT2 D.int D.int)) eTu) rfl))))⟩))) True.intro)))))))
noncomputable def f_p_machine_of2 (rows : (List RwL)) : R (List (Turn × (List (Int × Int)) × Turn)) := runO (L := Unit) (S := Unit) <|
  if ((decide (((rows.length : Int)) < 1)) || (decide (60 < ((rows.length : Int))))) = true then
    bnd (R.ok ("rooms".toList)) fun u => bnd (R.ok ((rows.length : Int))) fun v => O.er 2 [D.int v, eSt u]
  else
    O.thn (forT (enT 0 rows) (fun (room, row) (_ : Unit) =>
    bnd (f_p_look_through2 row room rows) fun _ =>
    O.nx ()) () : O (Unit) _ _) fun (_ : Unit) =>
  bnd ((cmT rows (fun row => ((cmT row.2.1 (fun cell => (ofR (L2.atI cell 0)).bind fun u => (ofR (L2.atI cell 1)).bind fun v => R.ok ((u, v)))).bind fun u => R.ok (u)).bind fun v => R.ok ((row.1, v, row.2.2)))).bind fun u => R.ok (u)) .rt
theorem tf_p_machine_of2 (rows : (List RwL)) : Rf (h_p_machine_of [(eLs false eRw) rows]) (f_p_machine_of2 rows) (eSq (eT3 eTu (eSq (eT2 D.int D.int)) eTu)) := by
  unfold h_p_machine_of runF b_p_machine_of f_p_machine_of2
  exact g_fun (g_last (g_seq (g_ifP (b := (decide (((rows.length : Int)) < 1)) || (decide (60 < ((rows.length : Int))))) (rf_orP_p (rf_lt_pp (rf_bip1_p (g := fun u => (List.length u : Int)) bt_lenL (rf_v (i := 0) (a := rows) (eLs false eRw) rfl)) (rf_k (a := 1) D.int rfl)) (rf_gt_pp (rf_bip1_p (g := fun u => (List.length u : Int)) bt_lenL (rf_v (i := 0) (a := rows) (eLs false eRw) rfl)) (rf_k (a := 60) D.int rfl))) (g_raise2 cl_st nf_st cl_int nf_int (rf_k (a := "rooms".toList) eSt (k_str _)) (rf_bip1_p (g := fun u => (List.length u : Int)) bt_lenL (rf_v (i := 0) (a := rows) (eLs false eRw) rfl)) True.intro) (g_skip (g_seq (g_thn (I' := (fun (_ : Unit) (σ : Sl) => ∃ d1 d2 d3 : Option D, σ = [some ((eLs false eRw) rows), d1, d2, d3])) (g_forP (I := (fun (_ : Unit) (σ : Sl) => ∃ d1 d2 d3 : Option D, σ = [some ((eLs false eRw) rows), d1, d2, d3])) (xs := enT 0 rows) (ri_enL_p cl_rw (rf_o (cl_ls cl_rw) (rf_v (i := 0) (a := rows) (eLs false eRw) rfl))) ⟨_, _, _, rfl⟩ True.intro (fun q_ s_ σ_ h_ => by obtain ⟨room, row⟩ := q_; obtain ⟨d1, d2, d3, rfl⟩ := h_; exact ⟨_, rfl, g_last (g_drop (rf_call3_ppp (Φ := f_p_look_through2) tf_p_look_through2 cl_rw.fz cl_int.fz (cl_ls cl_rw).fz (.inl ⟨cl_rw, cl_int, (cl_ls cl_rw), True.intro⟩) (rf_v (i := 2) (a := row) eRw rfl) (rf_v (i := 1) (a := room) D.int rfl) (rf_v (i := 0) (a := rows) (eLs false eRw) rfl)) True.intro (g_nx ⟨_, _, _, rfl⟩))⟩)) fun s_ σ_ h_ => by obtain ⟨d1, d2, d3, rfl⟩ := h_; exact (g_ret (rf_bip1_m (g := fun u => u) (bt_tupL (cl_t3 cl_tu (cl_sq (cl_t2 cl_int cl_int)) cl_tu)) (rf_cm_p (ri_L_p cl_rw (rf_v (i := 0) (a := rows) (eLs false eRw) rfl)) (fun row => ⟨_, rfl, (rf_tup3_pmp (rf_o cl_tu (rf_rw_0_p (rf_v (i := 2) (a := row) eRw rfl))) (rf_bip1_m (g := fun u => u) (bt_tupL (cl_t2 cl_int cl_int)) (rf_cm_p (ri_L_p (cl_ls cl_int) (rf_rw_1_p (rf_v (i := 2) (a := row) eRw rfl))) (fun cell => ⟨_, rfl, (rf_tup2_mm (rf_o cl_int (rf_ixL_pp (rf_v (i := 3) (a := cell) (eLs false D.int) rfl) (rf_k (a := 0) D.int rfl))) (rf_o cl_int (rf_ixL_pp (rf_v (i := 3) (a := cell) (eLs false D.int) rfl) (rf_k (a := 1) D.int rfl))))⟩))) (rf_o cl_tu (rf_rw_2_p (rf_v (i := 2) (a := row) eRw rfl))))⟩))) True.intro)))))))
noncomputable def f_p_signs_of (machine : (List (Turn × (List (Int × Int)) × Turn))) : R Int := runO (L := Unit) (S := Unit) <|
  bnd (((ofR (L2.atI machine 0)).bind fun u => R.ok (u.2.1)).bind fun u => R.ok ((u.length : Int))) .rt
theorem tf_p_signs_of (machine : (List (Turn × (List (Int × Int)) × Turn))) : Rf (h_p_signs_of [(eSq (eT3 eTu (eSq (eT2 D.int D.int)) eTu)) machine]) (f_p_signs_of machine) D.int := by
  unfold h_p_signs_of runF b_p_signs_of f_p_signs_of
  exact g_fun (g_last (g_ret (rf_bip1_m (g := fun u => (List.length u : Int)) bt_lenQ (rf_ix3_1_m (rf_ixQ_pp (rf_v (i := 0) (a := machine) (eSq (eT3 eTu (eSq (eT2 D.int D.int)) eTu)) rfl) (rf_k (a := 0) D.int rfl)))) True.intro))
noncomputable def f_l_cell (script : (List Int)) (k : Int) : R Int := runO (L := Unit) (S := Unit) <|
  if (decide (k < ((script.length : Int)))) = true then
    bnd (ofR (L2.atI script k)) .rt
  else
    O.rt (0)
theorem tf_l_cell (script : (List Int)) (k : Int) : Rf (h_l_cell [(eLs false D.int) script, D.int k]) (f_l_cell script k) D.int := by
  unfold h_l_cell runF b_l_cell f_l_cell
  exact g_fun (g_last (g_seq (g_ifP (b := decide (k < ((script.length : Int)))) (rf_lt_pp (rf_v (i := 1) (a := k) D.int rfl) (rf_bip1_p (g := fun u => (List.length u : Int)) bt_lenL (rf_v (i := 0) (a := script) (eLs false D.int) rfl))) (g_ret (rf_o cl_int (rf_ixL_pp (rf_v (i := 0) (a := script) (eLs false D.int) rfl) (rf_v (i := 1) (a := k) D.int rfl))) True.intro) (g_skip (g_retP (a := 0) (rf_k (a := 0) D.int rfl))))))
noncomputable def f_l_mixed (script : (List Int)) (few : Int) : R (List Int) := runO (L := Unit) (S := Unit) <|
  bnd (R.ok (if (if ((script.length : Int)) < 63 then ((script.length : Int)) else 63) > few then (if ((script.length : Int)) < 63 then ((script.length : Int)) else 63) else few) : R Int) fun many =>
  bnd (((f_l_cell script 0).bind fun u => R.ok (u % 2)).bind fun u => R.ok (decide (u = 0)) : R Bool) fun own =>
  bnd (R.ok ([]) : R (List Int)) fun numbers =>
  O.thn (bnd (rngT many) fun l_ => forT l_ (fun k numbers =>
    bnd ((f_l_cell script k).bind fun u => fdivT u (1 + (if (decide (k = 0)) = true then 1 else 0)) : R Int) fun cell_here =>
    O.thn (if ((!own) || (decide (((script.length : Int)) ≤ k))) = true then
      bnd (((((powT 10 15).bind fun v => modT cell_here v).bind fun u => R.ok (u + (7919 * k))).bind fun u => R.ok (u * 48271)).bind fun u => R.ok (u % 2147483647) : R Int) fun cell_here =>
      bnd (R.ok ((cell_here * 69621) % 2147483629) : R Int) fun cell_here =>
      O.nx cell_here
    else
      O.nx cell_here : O Int _ _) fun cell_here =>
    bnd (apT numbers cell_here) fun numbers =>
    O.nx numbers) numbers : O ((List Int)) _ _) fun numbers =>
  bnd (R.ok (numbers)) .rt
theorem tf_l_mixed (script : (List Int)) (few : Int) : Rf (h_l_mixed [(eLs false D.int) script, D.int few]) (f_l_mixed script few) (eLs true D.int) := by
  unfold h_l_mixed runF b_l_mixed f_l_mixed
  exact g_fun (g_last (g_seq (g_set (i := 2) (rf_bip2_pp (g := fun i j => if j > i then j else i) bt_max (rf_v (i := 1) (a := few) D.int rfl) (rf_bip2_pp (g := fun i j => if j < i then j else i) bt_min (rf_k (a := 63) D.int rfl) (rf_bip1_p (g := fun u => (List.length u : Int)) bt_lenL (rf_v (i := 0) (a := script) (eLs false D.int) rfl)))) True.intro fun many => (g_seq (g_set (i := 3) (rf_eq_mp py_int py_int pq_int (by decide) (by decide) (rf_modK_m (j := 2) (by decide) (rf_call2_pp (Φ := f_l_cell) tf_l_cell (cl_ls cl_int).fz cl_int.fz (.inl ⟨(cl_ls cl_int), cl_int, True.intro⟩) (rf_v (i := 0) (a := script) (eLs false D.int) rfl) (rf_k (a := 0) D.int rfl))) (rf_k (a := 0) D.int rfl)) True.intro fun own => (g_seq (g_set (i := 4) (rf_lstP (e := D.int) (as := []) rl_nil (by simp)) True.intro fun numbers => (g_seq (g_thn (I' := (fun (numbers : (List Int)) (σ : Sl) => ∃ d5 d6 : Option D, σ = [some ((eLs false D.int) script), some (D.int few), some (D.int many), some (D.bl own), some ((eLs true D.int) numbers), d5, d6])) (g_for (I := (fun (numbers : (List Int)) (σ : Sl) => ∃ d5 d6 : Option D, σ = [some ((eLs false D.int) script), some (D.int few), some (D.int many), some (D.bl own), some ((eLs true D.int) numbers), d5, d6])) (ri_r1_p (rf_v (i := 2) (a := many) D.int rfl)) ⟨_, _, rfl⟩ True.intro (fun k numbers σ_ h_ => by obtain ⟨d5, d6, rfl⟩ := h_; exact ⟨_, rfl, g_last (g_seq (g_set (i := 6) (rf_fdiv_mp (rf_call2_pp (Φ := f_l_cell) tf_l_cell (cl_ls cl_int).fz cl_int.fz (.inl ⟨(cl_ls cl_int), cl_int, True.intro⟩) (rf_v (i := 0) (a := script) (eLs false D.int) rfl) (rf_v (i := 5) (a := k) D.int rfl)) (rf_add_pp (rf_k (a := 1) D.int rfl) (rf_bip1_p (g := fun u => if u = true then 1 else 0) bt_intB (rf_eq_pp py_int py_int pq_int (by decide) (by decide) (rf_v (i := 5) (a := k) D.int rfl) (rf_k (a := 0) D.int rfl))))) True.intro fun cell_here => (g_seq (g_thn (I' := (fun (cell_here : Int) (σ : Sl) => σ = [some ((eLs false D.int) script), some (D.int few), some (D.int many), some (D.bl own), some ((eLs true D.int) numbers), some (D.int k), some (D.int cell_here)])) (g_last (g_ifP (b := (!own) || (decide (((script.length : Int)) ≤ k))) (rf_orP_p (rf_not_p (rf_v (i := 3) (a := own) D.bl rfl)) (rf_ge_pp (rf_v (i := 5) (a := k) D.int rfl) (rf_bip1_p (g := fun u => (List.length u : Int)) bt_lenL (rf_v (i := 0) (a := script) (eLs false D.int) rfl)))) (g_seq (g_set (i := 6) (rf_modK_m (j := 2147483647) (by decide) (rf_mulR_m (j := 48271) (by decide) (rf_add_mp (rf_mod_pm (rf_v (i := 6) (a := cell_here) D.int rfl) (rf_pow_pp (rf_k (a := 10) D.int rfl) (rf_k (a := 15) D.int rfl))) (rf_mulL_p (j := 7919) (by decide) (rf_v (i := 5) (a := k) D.int rfl))))) True.intro fun cell_here => (g_set (i := 6) (rf_modK_p (j := 2147483629) (by decide) (rf_mulR_p (j := 69621) (by decide) (rf_v (i := 6) (a := cell_here) D.int rfl))) True.intro fun cell_here => (g_nx rfl)))) (g_skip (g_nx rfl)))) fun cell_here σ_ h_ => by obtain rfl := h_; exact (g_appP (i := 4) (xs := numbers) (a := cell_here) D.int rfl (rf_o cl_int (rf_v (i := 6) (a := cell_here) D.int rfl)) True.intro fun numbers => (g_nx ⟨_, _, rfl⟩))))))⟩)) fun numbers σ_ h_ => by obtain ⟨d5, d6, rfl⟩ := h_; exact (g_retR (rf_v (i := 4) (a := numbers) (eLs true D.int) rfl) True.intro))))))))))
noncomputable def f_l_turn (cell_here : Int) (many : Int) : R Turn := runO (L := Unit) (S := Unit) <|
  bnd (modT cell_here (many + 2) : R Int) fun at_ =>
  if (decide (at_ < many)) = true then
    bnd (R.ok (Sum.inl at_)) .rt
  else
    bnd ((ofR (L2.atI (["by".toList, "out".toList]) (at_ - many))).bind fun u => R.ok (Sum.inr u)) .rt
theorem tf_l_turn (cell_here : Int) (many : Int) : Rf (h_l_turn [D.int cell_here, D.int many]) (f_l_turn cell_here many) eTu := by
  unfold h_l_turn runF b_l_turn f_l_turn
  exact g_fun (g_last (g_seq (g_set (i := 2) (rf_mod_pp (rf_v (i := 0) (a := cell_here) D.int rfl) (rf_add_pp (rf_v (i := 1) (a := many) D.int rfl) (rf_k (a := 2) D.int rfl))) True.intro fun at_ => (g_seq (g_ifP (b := decide (at_ < many)) (rf_lt_pp (rf_v (i := 2) (a := at_) D.int rfl) (rf_v (i := 1) (a := many) D.int rfl)) (g_retR (rf_wid_p Sum.inl (rf_v (i := 2) (a := at_) D.int rfl) wd_ti) True.intro) (g_skip (g_ret (rf_wid_m Sum.inr (rf_o cl_st (rf_ixL_pp (rf_lstP (as := ["by".toList, "out".toList]) (rl_consP (rf_k (a := "by".toList) eSt (k_str _)) (rl_consP (rf_k (a := "out".toList) eSt (k_str _)) rl_nil)) (by simp)) (rf_sub_pp (rf_v (i := 2) (a := at_) D.int rfl) (rf_v (i := 1) (a := many) D.int rfl)))) wd_ts) True.intro)))))))
noncomputable def f_l_row (cell_here : Int) (many : Int) (signs : Int) : R (Turn × (List (Int × Int)) × Turn) := runO (L := Unit) (S := Unit) <|
  bnd (f_l_turn cell_here many : R Turn) fun left =>
  bnd (fdivT cell_here (many + 2) : R Int) fun cell_here =>
  bnd (R.ok ([]) : R (List (Int × Int))) fun cells =>
  O.thn (bnd (rngT signs) fun l_ => forT l_ (fun k (cell_here, cells) =>
    bnd (modT cell_here (2 * many) : R Int) fun part =>
    bnd (fdivT cell_here (2 * many) : R Int) fun cell_here =>
    bnd (apT cells (((part / 2), (1 - (2 * (part % 2)))))) fun cells =>
    O.nx (cell_here, cells)) (cell_here, cells) : O (Int × (List (Int × Int))) _ _) fun (cell_here, cells) =>
  bnd ((f_l_turn cell_here many).bind fun w => R.ok ((left, cells, w))) .rt
theorem tf_l_row (cell_here : Int) (many : Int) (signs : Int) : Rf (h_l_row [D.int cell_here, D.int many, D.int signs]) (f_l_row cell_here many signs) (eT3 eTu (eSq (eT2 D.int D.int)) eTu) := by
  unfold h_l_row runF b_l_row f_l_row
  exact g_fun (g_last (g_seq (g_set (i := 3) (rf_call2_pp (Φ := f_l_turn) tf_l_turn cl_int.fz cl_int.fz (.inl ⟨cl_int, cl_int, True.intro⟩) (rf_v (i := 0) (a := cell_here) D.int rfl) (rf_v (i := 1) (a := many) D.int rfl)) True.intro fun left => (g_seq (g_set (i := 0) (rf_fdiv_pp (rf_v (i := 0) (a := cell_here) D.int rfl) (rf_add_pp (rf_v (i := 1) (a := many) D.int rfl) (rf_k (a := 2) D.int rfl))) True.intro fun cell_here => (g_seq (g_set (i := 4) (rf_lstP (e := (eT2 D.int D.int)) (as := []) rl_nil (by simp)) True.intro fun cells => (g_seq (g_thn (I' := (fun (s_ : Int × (List (Int × Int))) (σ : Sl) => match s_ with | (cell_here, cells) => ∃ d5 d6 : Option D, σ = [some (D.int cell_here), some (D.int many), some (D.int signs), some (eTu left), some ((eLs true (eT2 D.int D.int)) cells), d5, d6])) (g_for (I := (fun (s_ : Int × (List (Int × Int))) (σ : Sl) => match s_ with | (cell_here, cells) => ∃ d5 d6 : Option D, σ = [some (D.int cell_here), some (D.int many), some (D.int signs), some (eTu left), some ((eLs true (eT2 D.int D.int)) cells), d5, d6])) (ri_r1_p (rf_v (i := 2) (a := signs) D.int rfl)) ⟨_, _, rfl⟩ True.intro (fun k s_ σ_ h_ => by obtain ⟨cell_here, cells⟩ := s_; obtain ⟨d5, d6, rfl⟩ := h_; exact ⟨_, rfl, g_last (g_seq (g_set (i := 6) (rf_mod_pp (rf_v (i := 0) (a := cell_here) D.int rfl) (rf_mulL_p (j := 2) (by decide) (rf_v (i := 1) (a := many) D.int rfl))) True.intro fun part => (g_seq (g_set (i := 0) (rf_fdiv_pp (rf_v (i := 0) (a := cell_here) D.int rfl) (rf_mulL_p (j := 2) (by decide) (rf_v (i := 1) (a := many) D.int rfl))) True.intro fun cell_here => (g_appP (i := 4) (xs := cells) (a := ((part / 2), (1 - (2 * (part % 2))))) (eT2 D.int D.int) rfl (rf_tup2_pp (rf_fdivK_p (j := 2) (by decide) (rf_v (i := 6) (a := part) D.int rfl)) (rf_sub_pp (rf_k (a := 1) D.int rfl) (rf_mulL_p (j := 2) (by decide) (rf_modK_p (j := 2) (by decide) (rf_v (i := 6) (a := part) D.int rfl))))) True.intro fun cells => (g_nx ⟨_, _, rfl⟩))))))⟩)) fun s_ σ_ h_ => by obtain ⟨cell_here, cells⟩ := s_; obtain ⟨d5, d6, rfl⟩ := h_; exact (g_fz (i := 3) (a := left) eTu rfl cl_tu.fz (g_ret (rf_tup3_ppm (rf_o cl_tu (rf_v (i := 3) (a := left) eTu rfl)) (rf_bip1_p (g := fun u => u) (bt_tupL (cl_t2 cl_int cl_int)) (rf_v (i := 4) (a := cells) (eLs true (eT2 D.int D.int)) rfl)) (rf_call2_pp (Φ := f_l_turn) tf_l_turn cl_int.fz cl_int.fz (.inl ⟨cl_int, cl_int, True.intro⟩) (rf_v (i := 0) (a := cell_here) D.int rfl) (rf_v (i := 1) (a := many) D.int rfl))) True.intro)))))))))))
noncomputable def f_l_machine (cells : (List Int)) (many : Int) (signs : Int) : R (List (Turn × (List (Int × Int)) × Turn)) := runO (L := Unit) (S := Unit) <|
  bnd (R.ok ([]) : R (List (Turn × (List (Int × Int)) × Turn))) fun rows_here =>
  O.thn (bnd (rngT many) fun l_ => forT l_ (fun k rows_here =>
    bnd (R.ok (48271 * (k + 1)) : R Int) fun cell_here =>
    O.thn (if (decide (0 < ((cells.length : Int)))) = true then
      bnd ((ofR (L2.atI cells (if (((cells.length : Int)) - 1) < k then (((cells.length : Int)) - 1) else k))).bind fun u => (mulT cell_here (if (decide (((cells.length : Int)) ≤ k)) = true then 1 else 0)).bind fun v => R.ok (u + v) : R Int) fun cell_here =>
      O.nx cell_here
    else
      O.nx cell_here : O Int _ _) fun cell_here =>
    bnd (f_l_row cell_here many signs) fun u => bnd (apT rows_here u) fun rows_here =>
    O.nx rows_here) rows_here : O ((List (Turn × (List (Int × Int)) × Turn))) _ _) fun rows_here =>
  O.rt (rows_here)
theorem tf_l_machine (cells : (List Int)) (many : Int) (signs : Int) : Rf (h_l_machine [(eLs false D.int) cells, D.int many, D.int signs]) (f_l_machine cells many signs) (eSq (eT3 eTu (eSq (eT2 D.int D.int)) eTu)) := by
  unfold h_l_machine runF b_l_machine f_l_machine
  exact g_fun (g_last (g_seq (g_set (i := 3) (rf_lstP (e := (eT3 eTu (eSq (eT2 D.int D.int)) eTu)) (as := []) rl_nil (by simp)) True.intro fun rows_here => (g_seq (g_thn (I' := (fun (rows_here : (List (Turn × (List (Int × Int)) × Turn))) (σ : Sl) => ∃ d4 d5 : Option D, σ = [some ((eLs false D.int) cells), some (D.int many), some (D.int signs), some ((eLs true (eT3 eTu (eSq (eT2 D.int D.int)) eTu)) rows_here), d4, d5])) (g_for (I := (fun (rows_here : (List (Turn × (List (Int × Int)) × Turn))) (σ : Sl) => ∃ d4 d5 : Option D, σ = [some ((eLs false D.int) cells), some (D.int many), some (D.int signs), some ((eLs true (eT3 eTu (eSq (eT2 D.int D.int)) eTu)) rows_here), d4, d5])) (ri_r1_p (rf_v (i := 1) (a := many) D.int rfl)) ⟨_, _, rfl⟩ True.intro (fun k rows_here σ_ h_ => by obtain ⟨d4, d5, rfl⟩ := h_; exact ⟨_, rfl, g_last (g_seq (g_set (i := 5) (rf_mulL_p (j := 48271) (by decide) (rf_add_pp (rf_v (i := 4) (a := k) D.int rfl) (rf_k (a := 1) D.int rfl))) True.intro fun cell_here => (g_seq (g_thn (I' := (fun (cell_here : Int) (σ : Sl) => σ = [some ((eLs false D.int) cells), some (D.int many), some (D.int signs), some ((eLs true (eT3 eTu (eSq (eT2 D.int D.int)) eTu)) rows_here), some (D.int k), some (D.int cell_here)])) (g_last (g_ifP (b := decide (0 < ((cells.length : Int)))) (rf_gt_pp (rf_bip1_p (g := fun u => (List.length u : Int)) bt_lenL (rf_v (i := 0) (a := cells) (eLs false D.int) rfl)) (rf_k (a := 0) D.int rfl)) (g_set (i := 5) (rf_add_mm (rf_ixL_pp (rf_v (i := 0) (a := cells) (eLs false D.int) rfl) (rf_bip2_pp (g := fun i j => if j < i then j else i) bt_min (rf_v (i := 4) (a := k) D.int rfl) (rf_sub_pp (rf_bip1_p (g := fun u => (List.length u : Int)) bt_lenL (rf_v (i := 0) (a := cells) (eLs false D.int) rfl)) (rf_k (a := 1) D.int rfl)))) (rf_mul_pp (rf_v (i := 5) (a := cell_here) D.int rfl) (rf_bip1_p (g := fun u => if u = true then 1 else 0) bt_intB (rf_ge_pp (rf_v (i := 4) (a := k) D.int rfl) (rf_bip1_p (g := fun u => (List.length u : Int)) bt_lenL (rf_v (i := 0) (a := cells) (eLs false D.int) rfl)))))) True.intro fun cell_here => (g_nx rfl)) (g_skip (g_nx rfl)))) fun cell_here σ_ h_ => by obtain rfl := h_; exact (g_app (i := 3) (xs := rows_here) (eT3 eTu (eSq (eT2 D.int D.int)) eTu) rfl (rf_call3_ppp (Φ := f_l_row) tf_l_row cl_int.fz cl_int.fz cl_int.fz (.inl ⟨cl_int, cl_int, cl_int, True.intro⟩) (rf_v (i := 5) (a := cell_here) D.int rfl) (rf_v (i := 1) (a := many) D.int rfl) (rf_v (i := 2) (a := signs) D.int rfl)) True.intro fun rows_here => (g_nx ⟨_, _, rfl⟩))))))⟩)) fun rows_here σ_ h_ => by obtain ⟨d4, d5, rfl⟩ := h_; exact (g_retP (a := rows_here) (rf_bip1_p (g := fun u => u) (bt_tupL (cl_t3 cl_tu (cl_sq (cl_t2 cl_int cl_int)) cl_tu)) (rf_v (i := 3) (a := rows_here) (eLs true (eT3 eTu (eSq (eT2 D.int D.int)) eTu)) rfl))))))))
noncomputable def f_l_odd_turn (cell_here : Int) (many : Int) : R Turn := runO (L := Unit) (S := Unit) <|
  bnd ((((R.ok (Sum.inl (-1))).bind fun u => ((R.ok (Sum.inl many)).bind fun v => ((R.ok (Sum.inl (many + 1))).bind fun w => ((R.ok (Sum.inr ("".toList))).bind fun z => ((R.ok (Sum.inr ("By".toList))).bind fun y0 => ((R.ok (Sum.inr ("in".toList))).bind fun y1 => ((R.ok (Sum.inr ("out ".toList))).bind fun y2 => ((R.ok (Sum.inr ("0".toList))).bind fun y3 => (((powT 10 59).bind fun u => R.ok (Sum.inl u)).bind fun y4 => ((((powT 10 59).bind fun u => R.ok (-u)).bind fun u => R.ok (Sum.inl u)).bind fun y5 => (R.ok []).bind fun l => R.ok (y5 :: l)).bind fun l => R.ok (y4 :: l)).bind fun l => R.ok (y3 :: l)).bind fun l => R.ok (y2 :: l)).bind fun l => R.ok (y1 :: l)).bind fun l => R.ok (y0 :: l)).bind fun l => R.ok (z :: l)).bind fun l => R.ok (w :: l)).bind fun l => R.ok (v :: l)).bind fun l => R.ok (u :: l)).bind fun l => szT l.length l).bind fun u => ofR (L2.atI u (cell_here % 10))) .rt
theorem tf_l_odd_turn (cell_here : Int) (many : Int) : Rf (h_l_odd_turn [D.int cell_here, D.int many]) (f_l_odd_turn cell_here many) eTu := by
  unfold h_l_odd_turn runF b_l_odd_turn f_l_odd_turn
  exact g_fun (g_last (g_ret (rf_o cl_tu (rf_ixL_mp (rf_lst (rl_cons (rf_wid_p Sum.inl (rf_neg_p (rf_k (a := 1) D.int rfl)) wd_ti) (rl_cons (rf_wid_p Sum.inl (rf_o cl_int (rf_v (i := 1) (a := many) D.int rfl)) wd_ti) (rl_cons (rf_wid_p Sum.inl (rf_add_pp (rf_v (i := 1) (a := many) D.int rfl) (rf_k (a := 1) D.int rfl)) wd_ti) (rl_cons (rf_wid_p Sum.inr (rf_k (a := "".toList) eSt (k_str _)) wd_ts) (rl_cons (rf_wid_p Sum.inr (rf_k (a := "By".toList) eSt (k_str _)) wd_ts) (rl_cons (rf_wid_p Sum.inr (rf_k (a := "in".toList) eSt (k_str _)) wd_ts) (rl_cons (rf_wid_p Sum.inr (rf_k (a := "out ".toList) eSt (k_str _)) wd_ts) (rl_cons (rf_wid_p Sum.inr (rf_k (a := "0".toList) eSt (k_str _)) wd_ts) (rl_cons (rf_wid_m Sum.inl (rf_pow_pp (rf_k (a := 10) D.int rfl) (rf_k (a := 59) D.int rfl)) wd_ti) (rl_cons (rf_wid_m Sum.inl (rf_neg_m (rf_pow_pp (rf_k (a := 10) D.int rfl) (rf_k (a := 59) D.int rfl))) wd_ti) rl_nil))))))))))) (rf_modK_p (j := 10) (by decide) (rf_v (i := 0) (a := cell_here) D.int rfl)))) True.intro))
noncomputable def f_l_odd_cells (cells : (List (Int × Int))) (cell_here : Int) (many : Int) : R (List (Int × Int)) := runO (L := Unit) (S := Unit) <|
  bnd (R.ok (cell_here % 7) : R Int) fun kind =>
  if (decide (kind = 0)) = true then
    O.rt ([])
  else
    if (decide (kind = 1)) = true then
    bnd (szT (cells.length + ([(0, 1)]).length) (cells ++ ([(0, 1)]))) .rt
  else
    if (decide (kind = 2)) = true then
    O.rt (cutL cells (some 1) none)
  else
    if (decide (kind = 3)) = true then
    O.rt ([(0, 1), (0, (-1)), (0, 1), (0, 1)])
  else
    bnd (modT (cell_here / 7) ((cells.length : Int)) : R Int) fun at_ =>
  bnd (((((ofR (L2.atI cells at_)).bind fun u => R.ok (u.1)).bind fun u => ((((R.ok (0)).bind fun u => ((R.ok (2)).bind fun v => ((R.ok (-2)).bind fun w => ((powT 10 30).bind fun z => (R.ok []).bind fun l => R.ok (z :: l)).bind fun l => R.ok (w :: l)).bind fun l => R.ok (v :: l)).bind fun l => R.ok (u :: l)).bind fun l => szT l.length l).bind fun u => ofR (L2.atI u ((cell_here / 21) % 4))).bind fun v => R.ok ((u, v))).bind fun u => ((((((R.ok (-1)).bind fun u => ((R.ok (many)).bind fun v => ((R.ok (many + 7)).bind fun w => ((powT 10 20).bind fun z => (R.ok []).bind fun l => R.ok (z :: l)).bind fun l => R.ok (w :: l)).bind fun l => R.ok (v :: l)).bind fun l => R.ok (u :: l)).bind fun l => szT l.length l).bind fun u => ofR (L2.atI u ((cell_here / 21) % 4))).bind fun u => R.ok ((u, 1))).bind fun v => (R.ok []).bind fun l => R.ok (v :: l)).bind fun l => R.ok (u :: l)).bind fun l => szT l.length l : R (List (Int × Int))) fun one =>
  bnd (((((ofR (L2.atI one (kind % 2))).bind fun u => (R.ok []).bind fun l => R.ok (u :: l)).bind fun l => szT l.length l).bind fun v => szT ((cutL cells none (some at_)).length + v.length) ((cutL cells none (some at_)) ++ v)).bind fun u => szT (u.length + (cutL cells (some (at_ + 1)) none).length) (u ++ (cutL cells (some (at_ + 1)) none))) .rt
theorem tf_l_odd_cells (cells : (List (Int × Int))) (cell_here : Int) (many : Int) : Rf (h_l_odd_cells [(eLs false (eT2 D.int D.int)) cells, D.int cell_here, D.int many]) (f_l_odd_cells cells cell_here many) (eLs true (eT2 D.int D.int)) := by
  unfold h_l_odd_cells runF b_l_odd_cells f_l_odd_cells
  exact g_fun (g_last (g_seq (g_set (i := 3) (rf_modK_p (j := 7) (by decide) (rf_v (i := 1) (a := cell_here) D.int rfl)) True.intro fun kind => (g_seq (g_ifP (b := decide (kind = 0)) (rf_eq_pp py_int py_int pq_int (by decide) (by decide) (rf_v (i := 3) (a := kind) D.int rfl) (rf_k (a := 0) D.int rfl)) (g_retP (a := []) (rf_lstP (e := (eT2 D.int D.int)) (as := []) rl_nil (by simp))) (g_skip (g_seq (g_ifP (b := decide (kind = 1)) (rf_eq_pp py_int py_int pq_int (by decide) (by decide) (rf_v (i := 3) (a := kind) D.int rfl) (rf_k (a := 1) D.int rfl)) (g_ret (rf_cat_pp (cl_t2 cl_int cl_int) (rf_v (i := 0) (a := cells) (eLs false (eT2 D.int D.int)) rfl) (rf_lstP (as := [(0, 1)]) (rl_consP (rf_tup2_pp (rf_k (a := 0) D.int rfl) (rf_k (a := 1) D.int rfl)) rl_nil) (by simp))) True.intro) (g_skip (g_seq (g_ifP (b := decide (kind = 2)) (rf_eq_pp py_int py_int pq_int (by decide) (by decide) (rf_v (i := 3) (a := kind) D.int rfl) (rf_k (a := 2) D.int rfl)) (g_retP (a := cutL cells (some 1) none) (rf_slL_p (cl_t2 cl_int cl_int) (rf_v (i := 0) (a := cells) (eLs false (eT2 D.int D.int)) rfl) (sl_yesP (rf_k (a := 1) D.int rfl)) (sl_noP rfl))) (g_skip (g_seq (g_ifP (b := decide (kind = 3)) (rf_eq_pp py_int py_int pq_int (by decide) (by decide) (rf_v (i := 3) (a := kind) D.int rfl) (rf_k (a := 3) D.int rfl)) (g_retP (a := [(0, 1), (0, (-1)), (0, 1), (0, 1)]) (rf_lstP (as := [(0, 1), (0, (-1)), (0, 1), (0, 1)]) (rl_consP (rf_tup2_pp (rf_k (a := 0) D.int rfl) (rf_k (a := 1) D.int rfl)) (rl_consP (rf_tup2_pp (rf_k (a := 0) D.int rfl) (rf_neg_p (rf_k (a := 1) D.int rfl))) (rl_consP (rf_tup2_pp (rf_k (a := 0) D.int rfl) (rf_k (a := 1) D.int rfl)) (rl_consP (rf_tup2_pp (rf_k (a := 0) D.int rfl) (rf_k (a := 1) D.int rfl)) rl_nil)))) (by simp))) (g_skip (g_seq (g_set (i := 4) (rf_mod_pp (rf_fdivK_p (j := 7) (by decide) (rf_v (i := 1) (a := cell_here) D.int rfl)) (rf_bip1_p (g := fun u => (List.length u : Int)) bt_lenL (rf_v (i := 0) (a := cells) (eLs false (eT2 D.int D.int)) rfl))) True.intro fun at_ => (g_seq (g_set (i := 5) (rf_lst (rl_cons (rf_tup2_mm (rf_o cl_int (rf_ix2_0_m (rf_ixL_pp (rf_v (i := 0) (a := cells) (eLs false (eT2 D.int D.int)) rfl) (rf_v (i := 4) (a := at_) D.int rfl)))) (rf_o cl_int (rf_ixL_mp (rf_lst (rl_cons (rf_k (a := 0) D.int rfl) (rl_cons (rf_k (a := 2) D.int rfl) (rl_cons (rf_neg_p (rf_k (a := 2) D.int rfl)) (rl_cons (rf_pow_pp (rf_k (a := 10) D.int rfl) (rf_k (a := 30) D.int rfl)) rl_nil))))) (rf_modK_p (j := 4) (by decide) (rf_fdivK_p (j := 21) (by decide) (rf_v (i := 1) (a := cell_here) D.int rfl)))))) (rl_cons (rf_tup2_mp (rf_o cl_int (rf_ixL_mp (rf_lst (rl_cons (rf_neg_p (rf_k (a := 1) D.int rfl)) (rl_cons (rf_o cl_int (rf_v (i := 2) (a := many) D.int rfl)) (rl_cons (rf_add_pp (rf_v (i := 2) (a := many) D.int rfl) (rf_k (a := 7) D.int rfl)) (rl_cons (rf_pow_pp (rf_k (a := 10) D.int rfl) (rf_k (a := 20) D.int rfl)) rl_nil))))) (rf_modK_p (j := 4) (by decide) (rf_fdivK_p (j := 21) (by decide) (rf_v (i := 1) (a := cell_here) D.int rfl))))) (rf_k (a := 1) D.int rfl)) rl_nil))) True.intro fun one => (g_ret (rf_cat_mp (cl_t2 cl_int cl_int) (rf_cat_pm (cl_t2 cl_int cl_int) (rf_slL_p (cl_t2 cl_int cl_int) (rf_v (i := 0) (a := cells) (eLs false (eT2 D.int D.int)) rfl) (sl_noP rfl) (sl_yesP (rf_v (i := 4) (a := at_) D.int rfl))) (rf_lst (rl_cons (rf_o (cl_t2 cl_int cl_int) (rf_ixL_pp (rf_v (i := 5) (a := one) (eLs true (eT2 D.int D.int)) rfl) (rf_modK_p (j := 2) (by decide) (rf_v (i := 3) (a := kind) D.int rfl)))) rl_nil))) (rf_slL_p (cl_t2 cl_int cl_int) (rf_v (i := 0) (a := cells) (eLs false (eT2 D.int D.int)) rfl) (sl_yesP (rf_add_pp (rf_v (i := 4) (a := at_) D.int rfl) (rf_k (a := 1) D.int rfl))) (sl_noP rfl))) True.intro))))))))))))))))))))
noncomputable def f_l_is_room (thing : Turn) (many : Int) : R Bool := runO (L := Unit) (S := Unit) <|
  bnd (if thing.isLeft = true then (tuI thing).bind fun v => R.ok (decide (0 ≤ v) && decide (v < many)) else R.ok false) .rt
theorem tf_l_is_room (thing : Turn) (many : Int) : Rf (h_l_is_room [eTu thing, D.int many]) (f_l_is_room thing many) D.bl := by
  unfold h_l_is_room runF b_l_is_room f_l_is_room
  exact g_fun (g_last (g_ret (rf_o cl_bl (rf_and_p (rf_isi_p (b := Sum.isLeft) tu_isInt (rf_v (i := 0) (a := thing) eTu rfl)) (rf_cc_lelt_pm (rf_k (a := 0) D.int rfl) (rf_nar_p tuI (rf_v (i := 0) (a := thing) eTu rfl) nw_tuI) (rf_v (i := 1) (a := many) D.int rfl)))) True.intro))
noncomputable def f_l_fault (rows_here : (List (Turn × (List (Int × Int)) × Turn))) : R (Option (St × Int)) := runO (L := Unit) (S := Unit) <|
  bnd (R.ok ((rows_here.length : Int)) : R Int) fun many =>
  if ((decide (many < 1)) || (decide (60 < many))) = true then
    O.rt (some ((("rooms".toList), many)))
  else
    O.thn (forT (enT 0 rows_here) (fun (room, row_here) (_ : Unit) =>
    bnd (if (!decide (((row_here.2.1.length : Int)) ∈ (([1, 2, 3]) : List Int))) = true then R.ok true else (((ofR (L2.atI rows_here 0)).bind fun u => R.ok (u.2.1)).bind fun u => R.ok ((u.length : Int))).bind fun v => R.ok (!decide (((row_here.2.1.length : Int)) = v))) fun b_ => if b_ = true then
      O.rt (some ((("cells".toList), room)))
    else
      bnd (if (!decide (row_here.1 ∈ (([Sum.inr ("by".toList), Sum.inr ("out".toList)]) : List Turn))) = true then (f_l_is_room row_here.1 many).bind fun u => R.ok (!u) else R.ok false) fun b_ => if b_ = true then
      O.rt (some ((("left".toList), room)))
    else
      O.thn (forT row_here.2.1 (fun cell_here (_ : Unit) =>
      bnd (((f_l_is_room (Sum.inl cell_here.1) many).bind fun u => R.ok (!u)).bind fun u => R.ok (u || (!decide (cell_here.2 ∈ (([1, -1]) : List Int))))) fun b_ => if b_ = true then
        O.rt (some ((("cell".toList), room)))
      else
        O.nx ()) () : O (Unit) _ _) fun (_ : Unit) =>
    bnd (if (!decide (row_here.2.2 ∈ (([Sum.inr ("by".toList), Sum.inr ("out".toList)]) : List Turn))) = true then (f_l_is_room row_here.2.2 many).bind fun u => R.ok (!u) else R.ok false) fun b_ => if b_ = true then
      O.rt (some ((("right".toList), room)))
    else
      O.nx ()) () : O (Unit) _ _) fun (_ : Unit) =>
  O.rt (none)
theorem tf_l_fault (rows_here : (List (Turn × (List (Int × Int)) × Turn))) : Rf (h_l_fault [(eLs false (eT3 eTu (eSq (eT2 D.int D.int)) eTu)) rows_here]) (f_l_fault rows_here) (eOp (eT2 eSt D.int)) := by
  unfold h_l_fault runF b_l_fault f_l_fault
  exact g_fun (g_last (g_seq (g_set (i := 1) (rf_bip1_p (g := fun u => (List.length u : Int)) bt_lenL (rf_v (i := 0) (a := rows_here) (eLs false (eT3 eTu (eSq (eT2 D.int D.int)) eTu)) rfl)) True.intro fun many => (g_seq (g_ifP (b := (decide (many < 1)) || (decide (60 < many))) (rf_orP_p (rf_lt_pp (rf_v (i := 1) (a := many) D.int rfl) (rf_k (a := 1) D.int rfl)) (rf_gt_pp (rf_v (i := 1) (a := many) D.int rfl) (rf_k (a := 60) D.int rfl))) (g_retP (a := some ((("rooms".toList), many))) (rf_wid_p some (rf_tup2_pp (rf_k (a := "rooms".toList) eSt (k_str _)) (rf_o cl_int (rf_v (i := 1) (a := many) D.int rfl))) wd_some)) (g_skip (g_seq (g_thn (I' := (fun (_ : Unit) (σ : Sl) => ∃ d2 d3 d4 : Option D, σ = [some ((eLs false (eT3 eTu (eSq (eT2 D.int D.int)) eTu)) rows_here), some (D.int many), d2, d3, d4])) (g_forP (I := (fun (_ : Unit) (σ : Sl) => ∃ d2 d3 d4 : Option D, σ = [some ((eLs false (eT3 eTu (eSq (eT2 D.int D.int)) eTu)) rows_here), some (D.int many), d2, d3, d4])) (xs := enT 0 rows_here) (ri_enL_p (cl_t3 cl_tu (cl_sq (cl_t2 cl_int cl_int)) cl_tu) (rf_o (cl_ls (cl_t3 cl_tu (cl_sq (cl_t2 cl_int cl_int)) cl_tu)) (rf_v (i := 0) (a := rows_here) (eLs false (eT3 eTu (eSq (eT2 D.int D.int)) eTu)) rfl))) ⟨_, _, _, rfl⟩ True.intro (fun q_ s_ σ_ h_ => by obtain ⟨room, row_here⟩ := q_; obtain ⟨d2, d3, d4, rfl⟩ := h_; exact ⟨_, rfl, g_last (g_seq (g_if (rf_or_p (rf_ninQ_pp py_int py_int pq_int (by decide) (by decide) (rf_bip1_p (g := fun u => (List.length u : Int)) bt_lenQ (rf_ix3_1_p (rf_v (i := 3) (a := row_here) (eT3 eTu (eSq (eT2 D.int D.int)) eTu) rfl))) (rf_tupQP (as := [1, 2, 3]) (rl_consP (rf_k (a := 1) D.int rfl) (rl_consP (rf_k (a := 2) D.int rfl) (rl_consP (rf_k (a := 3) D.int rfl) rl_nil))) (by simp))) (rf_ne_pm py_int py_int pq_int (by decide) (by decide) (rf_bip1_p (g := fun u => (List.length u : Int)) bt_lenQ (rf_ix3_1_p (rf_v (i := 3) (a := row_here) (eT3 eTu (eSq (eT2 D.int D.int)) eTu) rfl))) (rf_bip1_m (g := fun u => (List.length u : Int)) bt_lenQ (rf_ix3_1_m (rf_ixL_pp (rf_v (i := 0) (a := rows_here) (eLs false (eT3 eTu (eSq (eT2 D.int D.int)) eTu)) rfl) (rf_k (a := 0) D.int rfl)))))) True.intro (g_retP (a := some ((("cells".toList), room))) (rf_wid_p some (rf_tup2_pp (rf_k (a := "cells".toList) eSt (k_str _)) (rf_o cl_int (rf_v (i := 2) (a := room) D.int rfl))) wd_some)) (g_skip (g_seq (g_if (rf_and_p (rf_ninQ_pp py_tu py_tu pq_tu (by decide) (by decide) (rf_ix3_0_p (rf_v (i := 3) (a := row_here) (eT3 eTu (eSq (eT2 D.int D.int)) eTu) rfl)) (rf_tupQP (as := [Sum.inr ("by".toList), Sum.inr ("out".toList)]) (rl_consP (rf_wid_p Sum.inr (rf_k (a := "by".toList) eSt (k_str _)) wd_ts) (rl_consP (rf_wid_p Sum.inr (rf_k (a := "out".toList) eSt (k_str _)) wd_ts) rl_nil)) (by simp))) (rf_not_m (rf_call2_pp (Φ := f_l_is_room) tf_l_is_room cl_tu.fz cl_int.fz (.inl ⟨cl_tu, cl_int, True.intro⟩) (rf_ix3_0_p (rf_v (i := 3) (a := row_here) (eT3 eTu (eSq (eT2 D.int D.int)) eTu) rfl)) (rf_v (i := 1) (a := many) D.int rfl)))) True.intro (g_retP (a := some ((("left".toList), room))) (rf_wid_p some (rf_tup2_pp (rf_k (a := "left".toList) eSt (k_str _)) (rf_o cl_int (rf_v (i := 2) (a := room) D.int rfl))) wd_some)) (g_skip (g_seq (g_thn (I' := (fun (_ : Unit) (σ : Sl) => ∃ d4 : Option D, σ = [some ((eLs false (eT3 eTu (eSq (eT2 D.int D.int)) eTu)) rows_here), some (D.int many), some (D.int room), some ((eT3 eTu (eSq (eT2 D.int D.int)) eTu) row_here), d4])) (g_forP (I := (fun (_ : Unit) (σ : Sl) => ∃ d4 : Option D, σ = [some ((eLs false (eT3 eTu (eSq (eT2 D.int D.int)) eTu)) rows_here), some (D.int many), some (D.int room), some ((eT3 eTu (eSq (eT2 D.int D.int)) eTu) row_here), d4])) (xs := row_here.2.1) (ri_Q_p (cl_t2 cl_int cl_int) (rf_o (cl_sq (cl_t2 cl_int cl_int)) (rf_ix3_1_p (rf_v (i := 3) (a := row_here) (eT3 eTu (eSq (eT2 D.int D.int)) eTu) rfl)))) ⟨_, rfl⟩ True.intro (fun cell_here s_ σ_ h_ => by obtain ⟨d4, rfl⟩ := h_; exact ⟨_, rfl, g_last (g_if (rf_orP_m (rf_not_m (rf_call2_pp (Φ := f_l_is_room) tf_l_is_room cl_tu.fz cl_int.fz (.inl ⟨cl_tu, cl_int, True.intro⟩) (rf_wid_p Sum.inl (rf_ix2_0_p (rf_v (i := 4) (a := cell_here) (eT2 D.int D.int) rfl)) wd_ti) (rf_v (i := 1) (a := many) D.int rfl))) (rf_ninQ_pp py_int py_int pq_int (by decide) (by decide) (rf_ix2_1_p (rf_v (i := 4) (a := cell_here) (eT2 D.int D.int) rfl)) (rf_tupQP (as := [1, -1]) (rl_consP (rf_k (a := 1) D.int rfl) (rl_consP (rf_neg_p (rf_k (a := 1) D.int rfl)) rl_nil)) (by simp)))) True.intro (g_retP (a := some ((("cell".toList), room))) (rf_wid_p some (rf_tup2_pp (rf_k (a := "cell".toList) eSt (k_str _)) (rf_o cl_int (rf_v (i := 2) (a := room) D.int rfl))) wd_some)) (g_skip (g_nx ⟨_, rfl⟩)))⟩)) fun s_ σ_ h_ => by obtain ⟨d4, rfl⟩ := h_; exact (g_if (rf_and_p (rf_ninQ_pp py_tu py_tu pq_tu (by decide) (by decide) (rf_ix3_2_p (rf_v (i := 3) (a := row_here) (eT3 eTu (eSq (eT2 D.int D.int)) eTu) rfl)) (rf_tupQP (as := [Sum.inr ("by".toList), Sum.inr ("out".toList)]) (rl_consP (rf_wid_p Sum.inr (rf_k (a := "by".toList) eSt (k_str _)) wd_ts) (rl_consP (rf_wid_p Sum.inr (rf_k (a := "out".toList) eSt (k_str _)) wd_ts) rl_nil)) (by simp))) (rf_not_m (rf_call2_pp (Φ := f_l_is_room) tf_l_is_room cl_tu.fz cl_int.fz (.inl ⟨cl_tu, cl_int, True.intro⟩) (rf_ix3_2_p (rf_v (i := 3) (a := row_here) (eT3 eTu (eSq (eT2 D.int D.int)) eTu) rfl)) (rf_v (i := 1) (a := many) D.int rfl)))) True.intro (g_retP (a := some ((("right".toList), room))) (rf_wid_p some (rf_tup2_pp (rf_k (a := "right".toList) eSt (k_str _)) (rf_o cl_int (rf_v (i := 2) (a := room) D.int rfl))) wd_some)) (g_skip (g_nx ⟨_, _, _, rfl⟩)))))))))))⟩)) fun s_ σ_ h_ => by obtain ⟨d2, d3, d4, rfl⟩ := h_; exact (g_retP (a := none) (rf_wid_p (fun _ => none) (rf_k (a := ()) eNon rfl) (wd_none (e := (eT2 eSt D.int)))))))))))))
noncomputable def f_l_fault2 (rows_here : (List RwL)) : R (Option (St × Int)) := runO (L := Unit) (S := Unit) <|
  bnd (R.ok ((rows_here.length : Int)) : R Int) fun many =>
  if ((decide (many < 1)) || (decide (60 < many))) = true then
    O.rt (some ((("rooms".toList), many)))
  else
    O.thn (forT (enT 0 rows_here) (fun (room, row_here) (_ : Unit) =>
    bnd (if (!decide (((row_here.2.1.length : Int)) ∈ (([1, 2, 3]) : List Int))) = true then R.ok true else (((ofR (L2.atI rows_here 0)).bind fun u => R.ok u.2.1).bind fun u => R.ok ((u.length : Int))).bind fun v => R.ok (!decide (((row_here.2.1.length : Int)) = v))) fun b_ => if b_ = true then
      O.rt (some ((("cells".toList), room)))
    else
      bnd (if (!decide (row_here.1 ∈ (([Sum.inr ("by".toList), Sum.inr ("out".toList)]) : List Turn))) = true then (f_l_is_room row_here.1 many).bind fun u => R.ok (!u) else R.ok false) fun b_ => if b_ = true then
      O.rt (some ((("left".toList), room)))
    else
      O.thn (forT row_here.2.1 (fun cell_here (_ : Unit) =>
      bnd (((((ofR (L2.atI cell_here 0)).bind fun u => R.ok (Sum.inl u)).bind fun u => f_l_is_room u many).bind fun u => R.ok (!u)).bind fun u => if u = true then R.ok true else (ofR (L2.atI cell_here 1)).bind fun u => R.ok (!decide (u ∈ (([1, -1]) : List Int)))) fun b_ => if b_ = true then
        O.rt (some ((("cell".toList), room)))
      else
        O.nx ()) () : O (Unit) _ _) fun (_ : Unit) =>
    bnd (if (!decide (row_here.2.2 ∈ (([Sum.inr ("by".toList), Sum.inr ("out".toList)]) : List Turn))) = true then (f_l_is_room row_here.2.2 many).bind fun u => R.ok (!u) else R.ok false) fun b_ => if b_ = true then
      O.rt (some ((("right".toList), room)))
    else
      O.nx ()) () : O (Unit) _ _) fun (_ : Unit) =>
  O.rt (none)
theorem tf_l_fault2 (rows_here : (List RwL)) : Rf (h_l_fault [(eLs false eRw) rows_here]) (f_l_fault2 rows_here) (eOp (eT2 eSt D.int)) := by
  unfold h_l_fault runF b_l_fault f_l_fault2
  exact g_fun (g_last (g_seq (g_set (i := 1) (rf_bip1_p (g := fun u => (List.length u : Int)) bt_lenL (rf_v (i := 0) (a := rows_here) (eLs false eRw) rfl)) True.intro fun many => (g_seq (g_ifP (b := (decide (many < 1)) || (decide (60 < many))) (rf_orP_p (rf_lt_pp (rf_v (i := 1) (a := many) D.int rfl) (rf_k (a := 1) D.int rfl)) (rf_gt_pp (rf_v (i := 1) (a := many) D.int rfl) (rf_k (a := 60) D.int rfl))) (g_retP (a := some ((("rooms".toList), many))) (rf_wid_p some (rf_tup2_pp (rf_k (a := "rooms".toList) eSt (k_str _)) (rf_o cl_int (rf_v (i := 1) (a := many) D.int rfl))) wd_some)) (g_skip (g_seq (g_thn (I' := (fun (_ : Unit) (σ : Sl) => ∃ d2 d3 d4 : Option D, σ = [some ((eLs false eRw) rows_here), some (D.int many), d2, d3, d4])) (g_forP (I := (fun (_ : Unit) (σ : Sl) => ∃ d2 d3 d4 : Option D, σ = [some ((eLs false eRw) rows_here), some (D.int many), d2, d3, d4])) (xs := enT 0 rows_here) (ri_enL_p cl_rw (rf_o (cl_ls cl_rw) (rf_v (i := 0) (a := rows_here) (eLs false eRw) rfl))) ⟨_, _, _, rfl⟩ True.intro (fun q_ s_ σ_ h_ => by obtain ⟨room, row_here⟩ := q_; obtain ⟨d2, d3, d4, rfl⟩ := h_; exact ⟨_, rfl, g_last (g_seq (g_if (rf_or_p (rf_ninQ_pp py_int py_int pq_int (by decide) (by decide) (rf_bip1_p (g := fun u => (List.length u : Int)) bt_lenL (rf_rw_1_p (rf_v (i := 3) (a := row_here) eRw rfl))) (rf_tupQP (as := [1, 2, 3]) (rl_consP (rf_k (a := 1) D.int rfl) (rl_consP (rf_k (a := 2) D.int rfl) (rl_consP (rf_k (a := 3) D.int rfl) rl_nil))) (by simp))) (rf_ne_pm py_int py_int pq_int (by decide) (by decide) (rf_bip1_p (g := fun u => (List.length u : Int)) bt_lenL (rf_rw_1_p (rf_v (i := 3) (a := row_here) eRw rfl))) (rf_bip1_m (g := fun u => (List.length u : Int)) bt_lenL (rf_rw_1_m (rf_ixL_pp (rf_v (i := 0) (a := rows_here) (eLs false eRw) rfl) (rf_k (a := 0) D.int rfl)))))) True.intro (g_retP (a := some ((("cells".toList), room))) (rf_wid_p some (rf_tup2_pp (rf_k (a := "cells".toList) eSt (k_str _)) (rf_o cl_int (rf_v (i := 2) (a := room) D.int rfl))) wd_some)) (g_skip (g_seq (g_if (rf_and_p (rf_ninQ_pp py_tu py_tu pq_tu (by decide) (by decide) (rf_rw_0_p (rf_v (i := 3) (a := row_here) eRw rfl)) (rf_tupQP (as := [Sum.inr ("by".toList), Sum.inr ("out".toList)]) (rl_consP (rf_wid_p Sum.inr (rf_k (a := "by".toList) eSt (k_str _)) wd_ts) (rl_consP (rf_wid_p Sum.inr (rf_k (a := "out".toList) eSt (k_str _)) wd_ts) rl_nil)) (by simp))) (rf_not_m (rf_call2_pp (Φ := f_l_is_room) tf_l_is_room cl_tu.fz cl_int.fz (.inl ⟨cl_tu, cl_int, True.intro⟩) (rf_rw_0_p (rf_v (i := 3) (a := row_here) eRw rfl)) (rf_v (i := 1) (a := many) D.int rfl)))) True.intro (g_retP (a := some ((("left".toList), room))) (rf_wid_p some (rf_tup2_pp (rf_k (a := "left".toList) eSt (k_str _)) (rf_o cl_int (rf_v (i := 2) (a := room) D.int rfl))) wd_some)) (g_skip (g_seq (g_thn (I' := (fun (_ : Unit) (σ : Sl) => ∃ d4 : Option D, σ = [some ((eLs false eRw) rows_here), some (D.int many), some (D.int room), some (eRw row_here), d4])) (g_forP (I := (fun (_ : Unit) (σ : Sl) => ∃ d4 : Option D, σ = [some ((eLs false eRw) rows_here), some (D.int many), some (D.int room), some (eRw row_here), d4])) (xs := row_here.2.1) (ri_L_p (cl_ls cl_int) (rf_o (cl_ls (cl_ls cl_int)) (rf_rw_1_p (rf_v (i := 3) (a := row_here) eRw rfl)))) ⟨_, rfl⟩ True.intro (fun cell_here s_ σ_ h_ => by obtain ⟨d4, rfl⟩ := h_; exact ⟨_, rfl, g_last (g_if (rf_or_m (rf_not_m (rf_call2_mp (Φ := f_l_is_room) tf_l_is_room cl_tu.fz cl_int.fz (.inl ⟨cl_tu, cl_int, True.intro⟩) (rf_wid_m Sum.inl (rf_ixL_pp (rf_v (i := 4) (a := cell_here) (eLs false D.int) rfl) (rf_k (a := 0) D.int rfl)) wd_ti) (rf_v (i := 1) (a := many) D.int rfl))) (rf_ninQ_mp py_int py_int pq_int (by decide) (by decide) (rf_ixL_pp (rf_v (i := 4) (a := cell_here) (eLs false D.int) rfl) (rf_k (a := 1) D.int rfl)) (rf_tupQP (as := [1, -1]) (rl_consP (rf_k (a := 1) D.int rfl) (rl_consP (rf_neg_p (rf_k (a := 1) D.int rfl)) rl_nil)) (by simp)))) True.intro (g_retP (a := some ((("cell".toList), room))) (rf_wid_p some (rf_tup2_pp (rf_k (a := "cell".toList) eSt (k_str _)) (rf_o cl_int (rf_v (i := 2) (a := room) D.int rfl))) wd_some)) (g_skip (g_nx ⟨_, rfl⟩)))⟩)) fun s_ σ_ h_ => by obtain ⟨d4, rfl⟩ := h_; exact (g_if (rf_and_p (rf_ninQ_pp py_tu py_tu pq_tu (by decide) (by decide) (rf_rw_2_p (rf_v (i := 3) (a := row_here) eRw rfl)) (rf_tupQP (as := [Sum.inr ("by".toList), Sum.inr ("out".toList)]) (rl_consP (rf_wid_p Sum.inr (rf_k (a := "by".toList) eSt (k_str _)) wd_ts) (rl_consP (rf_wid_p Sum.inr (rf_k (a := "out".toList) eSt (k_str _)) wd_ts) rl_nil)) (by simp))) (rf_not_m (rf_call2_pp (Φ := f_l_is_room) tf_l_is_room cl_tu.fz cl_int.fz (.inl ⟨cl_tu, cl_int, True.intro⟩) (rf_rw_2_p (rf_v (i := 3) (a := row_here) eRw rfl)) (rf_v (i := 1) (a := many) D.int rfl)))) True.intro (g_retP (a := some ((("right".toList), room))) (rf_wid_p some (rf_tup2_pp (rf_k (a := "right".toList) eSt (k_str _)) (rf_o cl_int (rf_v (i := 2) (a := room) D.int rfl))) wd_some)) (g_skip (g_nx ⟨_, _, _, rfl⟩)))))))))))⟩)) fun s_ σ_ h_ => by obtain ⟨d2, d3, d4, rfl⟩ := h_; exact (g_retP (a := none) (rf_wid_p (fun _ => none) (rf_k (a := ()) eNon rfl) (wd_none (e := (eT2 eSt D.int)))))))))))))
noncomputable def f_l_plain (rows_here : (List (Turn × (List (Int × Int)) × Turn))) : R (List (Turn × (List (Int × Int)) × Turn)) := runO (L := Unit) (S := Unit) <|
  bnd ((cmT rows_here (fun row_here => ((cmT row_here.2.1 (fun cell_here => R.ok ((cell_here.1, cell_here.2)))).bind fun u => R.ok (u)).bind fun v => R.ok ((row_here.1, v, row_here.2.2)))).bind fun u => R.ok (u)) .rt
theorem tf_l_plain (rows_here : (List (Turn × (List (Int × Int)) × Turn))) : Rf (h_l_plain [(eLs false (eT3 eTu (eSq (eT2 D.int D.int)) eTu)) rows_here]) (f_l_plain rows_here) (eSq (eT3 eTu (eSq (eT2 D.int D.int)) eTu)) := by
  unfold h_l_plain runF b_l_plain f_l_plain
  exact g_fun (g_last (g_ret (rf_bip1_m (g := fun u => u) (bt_tupL (cl_t3 cl_tu (cl_sq (cl_t2 cl_int cl_int)) cl_tu)) (rf_cm_p (ri_L_p (cl_t3 cl_tu (cl_sq (cl_t2 cl_int cl_int)) cl_tu) (rf_v (i := 0) (a := rows_here) (eLs false (eT3 eTu (eSq (eT2 D.int D.int)) eTu)) rfl)) (fun row_here => ⟨_, rfl, (rf_tup3_pmp (rf_o cl_tu (rf_ix3_0_p (rf_v (i := 1) (a := row_here) (eT3 eTu (eSq (eT2 D.int D.int)) eTu) rfl))) (rf_bip1_m (g := fun u => u) (bt_tupL (cl_t2 cl_int cl_int)) (rf_cm_p (ri_Q_p (cl_t2 cl_int cl_int) (rf_ix3_1_p (rf_v (i := 1) (a := row_here) (eT3 eTu (eSq (eT2 D.int D.int)) eTu) rfl))) (fun cell_here => ⟨_, rfl, (rf_tup2_pp (rf_o cl_int (rf_ix2_0_p (rf_v (i := 2) (a := cell_here) (eT2 D.int D.int) rfl))) (rf_o cl_int (rf_ix2_1_p (rf_v (i := 2) (a := cell_here) (eT2 D.int D.int) rfl))))⟩))) (rf_o cl_tu (rf_ix3_2_p (rf_v (i := 1) (a := row_here) (eT3 eTu (eSq (eT2 D.int D.int)) eTu) rfl))))⟩))) True.intro))
noncomputable def f_l_plain2 (rows_here : (List RwL)) : R (List (Turn × (List (Int × Int)) × Turn)) := runO (L := Unit) (S := Unit) <|
  bnd ((cmT rows_here (fun row_here => ((cmT row_here.2.1 (fun cell_here => (ofR (L2.atI cell_here 0)).bind fun u => (ofR (L2.atI cell_here 1)).bind fun v => R.ok ((u, v)))).bind fun u => R.ok (u)).bind fun v => R.ok ((row_here.1, v, row_here.2.2)))).bind fun u => R.ok (u)) .rt
theorem tf_l_plain2 (rows_here : (List RwL)) : Rf (h_l_plain [(eLs false eRw) rows_here]) (f_l_plain2 rows_here) (eSq (eT3 eTu (eSq (eT2 D.int D.int)) eTu)) := by
  unfold h_l_plain runF b_l_plain f_l_plain2
  exact g_fun (g_last (g_ret (rf_bip1_m (g := fun u => u) (bt_tupL (cl_t3 cl_tu (cl_sq (cl_t2 cl_int cl_int)) cl_tu)) (rf_cm_p (ri_L_p cl_rw (rf_v (i := 0) (a := rows_here) (eLs false eRw) rfl)) (fun row_here => ⟨_, rfl, (rf_tup3_pmp (rf_o cl_tu (rf_rw_0_p (rf_v (i := 1) (a := row_here) eRw rfl))) (rf_bip1_m (g := fun u => u) (bt_tupL (cl_t2 cl_int cl_int)) (rf_cm_p (ri_L_p (cl_ls cl_int) (rf_rw_1_p (rf_v (i := 1) (a := row_here) eRw rfl))) (fun cell_here => ⟨_, rfl, (rf_tup2_mm (rf_o cl_int (rf_ixL_pp (rf_v (i := 2) (a := cell_here) (eLs false D.int) rfl) (rf_k (a := 0) D.int rfl))) (rf_o cl_int (rf_ixL_pp (rf_v (i := 2) (a := cell_here) (eLs false D.int) rfl) (rf_k (a := 1) D.int rfl))))⟩))) (rf_o cl_tu (rf_rw_2_p (rf_v (i := 1) (a := row_here) eRw rfl))))⟩))) True.intro))
end DI
namespace DI
open PySem
abbrev Row := Turn × List (Int × Int) × Turn
abbrev Mc := List Row
def EndOk (n : Nat) : Turn → Prop
  | .inl r => 0 ≤ r ∧ r < n
  | .inr w => w = "by".toList ∨ w = "out".toList
def CellOk (n : Nat) (c : Int × Int) : Prop := (0 ≤ c.1 ∧ c.1 < n) ∧ (c.2 = 1 ∨ c.2 = -1)
structure RowOk (n k : Nat) (r : Row) : Prop where
  left : EndOk n r.1
  len : r.2.1.length = k
  cells : ∀ c ∈ r.2.1, CellOk n c
  right : EndOk n r.2.2
structure McOk (n k : Nat) (m : Mc) : Prop where
  len : m.length = n
  rows : ∀ r ∈ m, RowOk n k r
def tuB (n : Nat) : Turn → Bool
  | .inl i => decide (0 ≤ i) && decide (i < (n : Int))
  | .inr w => decide (w = "by".toList) || decide (w = "out".toList)
def ceB (n : Nat) (c : Int × Int) : Bool := decide (0 ≤ c.1) && decide (c.1 < (n : Int)) && (decide (c.2 = 1) || decide (c.2 = -1))
def clB (k k0 : Nat) : Bool := (decide (k = 1) || decide (k = 2) || decide (k = 3)) && decide (k = k0)
def frow (n k0 : Nat) (r : Row) : Option St :=
  if clB r.2.1.length k0 = false then some "cells".toList else
  if tuB n r.1 = false then some "left".toList else
  if r.2.1.all (ceB n) = false then some "cell".toList else
  if tuB n r.2.2 = false then some "right".toList else none
def ffst (n k0 : Nat) : Nat → List Row → Option (St × Int)
  | _, [] => none
  | j, r :: rs => match frow n k0 r with
    | some w => some (w, (j : Int))
    | none => ffst n k0 (j + 1) rs
def wid : Mc → Nat
  | [] => 0
  | r :: _ => r.2.1.length
def faultV (rows : Mc) : Option (St × Int) :=
  if (decide (rows.length < 1) || decide (60 < rows.length)) = true then some ("rooms".toList, (rows.length : Int)) else ffst rows.length (wid rows) 0 rows
def rwOf (r : Row) : RwL := (r.1, r.2.1.map fun c => [c.1, c.2], r.2.2)
theorem room_l (i : Int) (n : Int) : f_p_is_room (.inl i) n = .ok (decide (0 ≤ i) && decide (i < n)) := rfl
theorem room_r (w : St) (n : Int) : f_p_is_room (.inr w) n = .ok false := rfl
theorem roomL_l (i : Int) (n : Int) : f_l_is_room (.inl i) n = .ok (decide (0 ≤ i) && decide (i < n)) := rfl
theorem roomL_r (w : St) (n : Int) : f_l_is_room (.inr w) n = .ok false := rfl
theorem turn_ok (t : Turn) (n : Nat) : f_p_is_turn t (n : Int) = .ok (tuB n t) := by
  unfold f_p_is_turn
  cases t with
  | inl i =>
    rw [if_neg (by simp), room_l]
    rfl
  | inr w =>
    by_cases h : w = "by".toList ∨ w = "out".toList
    · rw [if_pos (by rcases h with h | h <;> simp [h]), bnd_ok]
      show R.ok true = R.ok (decide (w = "by".toList) || decide (w = "out".toList))
      rcases h with h | h <;> rw [h] <;> rfl
    · have h1 : ¬ w = "by".toList := fun e => h (.inl e)
      have h2 : ¬ w = "out".toList := fun e => h (.inr e)
      rw [if_neg (by simpa using ⟨h1, h2⟩), room_r]
      show R.ok false = R.ok (decide (w = "by".toList) || decide (w = "out".toList))
      rw [decide_eq_false h1, decide_eq_false h2]; rfl
theorem turnL_ok (t : Turn) (n : Nat) : (if (!decide (t ∈ (([Sum.inr ("by".toList), Sum.inr ("out".toList)]) : List Turn))) = true then (f_l_is_room t (n : Int)).bind fun u => R.ok (!u) else R.ok false) = .ok (!tuB n t) := by
  cases t with
  | inl i =>
    rw [if_pos (by simp), roomL_l]
    rfl
  | inr w =>
    by_cases h : w = "by".toList ∨ w = "out".toList
    · rw [if_neg (by rcases h with h | h <;> simp [h])]
      show R.ok false = R.ok (!(decide (w = "by".toList) || decide (w = "out".toList)))
      rcases h with h | h <;> rw [h] <;> rfl
    · have h1 : ¬ w = "by".toList := fun e => h (.inl e)
      have h2 : ¬ w = "out".toList := fun e => h (.inr e)
      rw [if_pos (by simpa using ⟨h1, h2⟩), roomL_r]
      show R.ok (!false) = R.ok (!(decide (w = "by".toList) || decide (w = "out".toList)))
      rw [decide_eq_false h1, decide_eq_false h2]; rfl
theorem cell1_ok (c : Int × Int) (n : Nat) : f_p_is_cell c (n : Int) = .ok (ceB n c) := by
  unfold f_p_is_cell
  rw [room_l, R.bind_ok]
  unfold ceB
  split
  · rename_i h
    show R.ok (true && decide (c.2 ∈ [1, -1])) = _
    rw [h]
    simp
  · rename_i h
    have h : (decide (0 ≤ c.1) && decide (c.1 < (n : Int))) = false := by simpa using h
    rw [h]; rfl
theorem cell2w_ok (c : Int × Int) (n : Nat) : f_p_is_cell2 [c.1, c.2] (n : Int) = .ok (ceB n c) := by
  unfold f_p_is_cell2
  rw [show ofR (L2.atI [c.1, c.2] 0) = R.ok c.1 from rfl, show ofR (L2.atI [c.1, c.2] 1) = R.ok c.2 from rfl, R.bind_ok, R.bind_ok, room_l, R.bind_ok]
  unfold ceB
  split
  · rename_i h
    show R.ok (decide (c.2 ∈ [1, -1])) = _
    rw [h]
    simp
  · rename_i h
    have h : (decide (0 ≤ c.1) && decide (c.1 < (n : Int))) = false := by simpa using h
    rw [h]; rfl
theorem head_wid {rows : Mc} (h : 0 < rows.length) : ∃ r, ofR (L2.atI rows 0) = .ok r ∧ r.2.1.length = wid rows := by
  cases rows with
  | nil => simp at h
  | cons r rs => exact ⟨r, at_get (by decide) rfl, rfl⟩
theorem head_wid2 {rows : Mc} (h : 0 < rows.length) : ∃ r, ofR (L2.atI (rows.map rwOf) 0) = .ok r ∧ r.2.1.length = wid rows := by
  cases rows with
  | nil => simp at h
  | cons r rs => exact ⟨rwOf r, at_get (by decide) rfl, by simp [rwOf, wid]⟩
theorem cl_test {k k0 : Nat} : (if (decide ((k : Int) < 1)) = true then R.ok true else if (decide ((3 : Int) < k)) = true then R.ok true else R.ok (!decide ((k : Int) = (k0 : Int)))) = R.ok (!clB k k0) := by
  unfold clB
  by_cases h1 : k < 1
  · rw [if_pos (by simp; omega)]
    have : k = 0 := by omega
    subst this
    simp
  · rw [if_neg (by simp; omega)]
    by_cases h2 : 3 < k
    · rw [if_pos (by simp; omega)]
      simp
      omega
    · rw [if_neg (by simp; omega)]
      have : (decide (k = 1) || decide (k = 2) || decide (k = 3)) = true := by
        simp
        omega
      rw [this, Bool.true_and]
      congr 2
      exact decide_eq_decide.mpr ⟨fun h => by omega, fun h => by omega⟩
theorem cl_testL {k k0 : Nat} : (if (!decide ((k : Int) ∈ (([1, 2, 3]) : List Int))) = true then R.ok true else R.ok (!decide ((k : Int) = (k0 : Int)))) = R.ok (!clB k k0) := by
  unfold clB
  by_cases h2 : k = 1 ∨ k = 2 ∨ k = 3
  · rw [if_neg (by simp; omega)]
    have : (decide (k = 1) || decide (k = 2) || decide (k = 3)) = true := by
      simp
      omega
    rw [this, Bool.true_and]
    congr 2
    exact decide_eq_decide.mpr ⟨fun h => by omega, fun h => by omega⟩
  · rw [if_pos (by simp; omega)]
    have : (decide (k = 1) || decide (k = 2) || decide (k = 3)) = false := by
      simp
      omega
    rw [this]; rfl
theorem lenAbc : lenT ("abc".toList) = .ok (3 : Int) := lenT_ok (s := "abc".toList) (by decide)
theorem look1_ok (r : Row) (j : Nat) (rows : Mc) (h : 0 < rows.length) (hl : r.2.1.length ≤ 1000000) : f_p_look_through r (j : Int) rows = match frow rows.length (wid rows) r with
    | none => .ok ()
    | some w => .err 2 [D.int (j : Int), eSt w] := by
  obtain ⟨r0, e0, w0⟩ := head_wid h
  obtain ⟨l, cs, rt⟩ := r
  have ec := cmT_ok (F := fun c => f_p_is_cell c (rows.length : Int)) (ceB rows.length) (xs := cs) (fun c _ => cell1_ok c _) hl
  unfold f_p_look_through frow
  simp only [bnd_ok, lenAbc, R.bind_ok, e0, turn_ok, ec, w0, cl_test]
  cases h1 : clB cs.length (wid rows) with
  | false => rfl
  | true =>
    cases h2 : tuB rows.length l with
    | false => rfl
    | true =>
      have h3 : (cs.map (ceB rows.length)).all id = cs.all (ceB rows.length) := by rw [List.all_map]; rfl
      rw [h3]
      cases h4 : cs.all (ceB rows.length) with
      | false => rfl
      | true => cases h5 : tuB rows.length rt <;> rfl
theorem look2_ok (r : Row) (j : Nat) (rows : Mc) (h : 0 < rows.length) (hl : r.2.1.length ≤ 1000000) : f_p_look_through2 (rwOf r) (j : Int) (rows.map rwOf) = match frow rows.length (wid rows) r with
    | none => .ok ()
    | some w => .err 2 [D.int (j : Int), eSt w] := by
  obtain ⟨r0, e0, w0⟩ := head_wid2 h
  obtain ⟨l, cs, rt⟩ := r
  have ec : cmT (cs.map fun c => [c.1, c.2]) (fun c => f_p_is_cell2 c (rows.length : Int)) = .ok (cs.map (ceB rows.length)) := by
    have := cmT_ok (F := fun c => f_p_is_cell2 c (rows.length : Int)) (fun c => ceB rows.length (c.headD 0, c.getD 1 0)) (xs := cs.map fun c => [c.1, c.2]) (fun c hc => by
      obtain ⟨d, _, rfl⟩ := List.mem_map.mp hc
      exact cell2w_ok d _) (by simpa using hl)
    rw [this, List.map_map]
    rfl
  unfold f_p_look_through2 frow
  rw [show rwOf (l, cs, rt) = (l, cs.map (fun c => [c.1, c.2]), rt) from rfl]
  simp only [bnd_ok, lenAbc, R.bind_ok, e0, List.length_map, turn_ok, ec, w0, cl_test]
  cases h1 : clB cs.length (wid rows) with
  | false => rfl
  | true =>
    cases h2 : tuB rows.length l with
    | false => rfl
    | true =>
      have h3 : (cs.map (ceB rows.length)).all id = cs.all (ceB rows.length) := by rw [List.all_map]; rfl
      rw [h3]
      cases h4 : cs.all (ceB rows.length) with
      | false => rfl
      | true => cases h5 : tuB rows.length rt <;> rfl
theorem loopM {α β : Type} {n k : Nat} {φ : Row → β} {F : Int × β → Unit → O Unit Unit α} {P : Row → Prop} (hF : ∀ (j : Nat) (r : Row), P r → F ((j : Int), φ r) () = match frow n k r with
    | none => .nx ()
    | some w => .er 2 [D.int (j : Int), eSt w]) : ∀ (rs : List Row) (j : Nat), (∀ r ∈ rs, P r) → (forT (enT j (rs.map φ)) F () : O Unit Unit α) = match ffst n k j rs with
    | none => .nx ()
    | some p => .er 2 [D.int p.2, eSt p.1]
  | [], j, _ => rfl
  | r :: rs, j, h => by
    rw [List.map_cons, enT, forT_cons, hF j r (h r List.mem_cons_self), ffst]
    cases e : frow n k r with
    | none => exact loopM hF rs (j + 1) fun r hr => h r (List.mem_cons_of_mem _ hr)
    | some w => rfl
theorem loopL {β : Type} {n k : Nat} {φ : Row → β} {F : Int × β → Unit → O Unit Unit (Option (St × Int))} {P : Row → Prop} (hF : ∀ (j : Nat) (r : Row), P r → F ((j : Int), φ r) () = match frow n k r with
    | none => .nx ()
    | some w => .rt (some (w, (j : Int)))) : ∀ (rs : List Row) (j : Nat), (∀ r ∈ rs, P r) → (forT (enT j (rs.map φ)) F () : O Unit Unit (Option (St × Int))) = match ffst n k j rs with
    | none => .nx ()
    | some p => .rt (some p)
  | [], j, _ => rfl
  | r :: rs, j, h => by
    rw [List.map_cons, enT, forT_cons, hF j r (h r List.mem_cons_self), ffst]
    cases e : frow n k r with
    | none => exact loopL hF rs (j + 1) fun r hr => h r (List.mem_cons_of_mem _ hr)
    | some w => rfl
theorem loopC {α β : Type} {n : Nat} {φ : Int × Int → β} {a : α} {F : β → Unit → O Unit Unit α} (hF : ∀ c, F (φ c) () = if ceB n c = true then .nx () else .rt a) : ∀ (cs : List (Int × Int)), (forT (cs.map φ) F () : O Unit Unit α) = if cs.all (ceB n) = true then .nx () else .rt a
  | [] => rfl
  | c :: cs => by
    rw [List.map_cons, forT_cons, hF c, List.all_cons]
    cases e : ceB n c with
    | false => rfl
    | true =>
      rw [Bool.true_and]
      exact loopC hF cs
structure RowsB (rows : Mc) : Prop where
  len : rows.length ≤ 1000
  cells : ∀ r ∈ rows, r.2.1.length ≤ 1000
theorem rooms_test (n : Nat) : (decide ((n : Int) < 1) || decide ((60 : Int) < n)) = (decide (n < 1) || decide (60 < n)) := by
  congr 1
  · exact decide_eq_decide.mpr (by omega)
  · exact decide_eq_decide.mpr (by omega)
theorem machine1_ok {rows : Mc} (h : RowsB rows) : f_p_machine_of rows = match faultV rows with
    | none => .ok rows
    | some p => .err 2 [D.int p.2, eSt p.1] := by
  unfold f_p_machine_of faultV
  rw [rooms_test]
  cases e : (decide (rows.length < 1) || decide (60 < rows.length)) with
  | true => rfl
  | false =>
    have hp : 0 < rows.length := by
      simp at e
      cases rows with
      | nil => simp at e
      | cons _ _ => simp
    have lp := loopM (α := List Row) (n := rows.length) (k := wid rows) (φ := id) (F := fun (room, row) (_ : Unit) => bnd (f_p_look_through row room rows) fun _ => O.nx ()) (P := fun r => r.2.1.length ≤ 1000)
      (fun j r hr => by
        show bnd (f_p_look_through r (j : Int) rows) _ = _
        rw [look1_ok r j rows hp (by omega)]
        cases frow rows.length (wid rows) r <;> rfl) rows 0 h.cells
    rw [List.map_id] at lp
    rw [if_neg (by decide), if_neg (by decide)]
    erw [lp]
    cases ffst rows.length (wid rows) 0 rows with
    | some p => rfl
    | none =>
      show runO (bnd _ _) = _
      have e1 : ∀ r ∈ rows, (fun row : Row => ((cmT row.2.1 (fun cell => R.ok ((cell.1, cell.2)))).bind fun u => R.ok (u)).bind fun v => R.ok ((row.1, v, row.2.2))) r = R.ok (id r) := by
        intro r hr
        show ((cmT r.2.1 (fun cell => R.ok ((cell.1, cell.2)))).bind fun u => R.ok (u)).bind _ = _
        rw [cmT_ok (F := fun cell : Int × Int => R.ok (cell.1, cell.2)) (fun c => (c.1, c.2)) (fun _ _ => rfl) (by have := h.cells r hr; omega)]
        simp only [R.bind_ok]
        rw [show (fun c : Int × Int => (c.1, c.2)) = id from rfl, List.map_id]
        rfl
      rw [cmT_ok id e1 (by have := h.len; omega), R.bind_ok, bnd_ok, List.map_id]
      rfl
theorem machine2_ok {rows : Mc} (h : RowsB rows) : f_p_machine_of2 (rows.map rwOf) = match faultV rows with
    | none => .ok rows
    | some p => .err 2 [D.int p.2, eSt p.1] := by
  unfold f_p_machine_of2 faultV
  rw [List.length_map, rooms_test]
  cases e : (decide (rows.length < 1) || decide (60 < rows.length)) with
  | true => rfl
  | false =>
    have hp : 0 < rows.length := by
      simp at e
      cases rows with
      | nil => simp at e
      | cons _ _ => simp
    have lp := loopM (α := List Row) (n := rows.length) (k := wid rows) (φ := rwOf) (F := fun (room, row) (_ : Unit) => bnd (f_p_look_through2 row room (rows.map rwOf)) fun _ => O.nx ()) (P := fun r => r.2.1.length ≤ 1000)
      (fun j r hr => by
        show bnd (f_p_look_through2 (rwOf r) (j : Int) (rows.map rwOf)) _ = _
        rw [look2_ok r j rows hp (by omega)]
        cases frow rows.length (wid rows) r <;> rfl) rows 0 h.cells
    rw [if_neg (by decide), if_neg (by decide)]
    erw [lp]
    cases ffst rows.length (wid rows) 0 rows with
    | some p => rfl
    | none =>
      show runO (bnd _ _) = _
      have e1 : ∀ r ∈ rows.map rwOf, (fun row : RwL => ((cmT row.2.1 (fun cell => (ofR (L2.atI cell 0)).bind fun u => (ofR (L2.atI cell 1)).bind fun v => R.ok ((u, v)))).bind fun u => R.ok (u)).bind fun v => R.ok ((row.1, v, row.2.2))) r = R.ok ((fun r : RwL => (r.1, r.2.1.map (fun c => (c.headD 0, c.getD 1 0)), r.2.2)) r) := by
        intro q hq
        obtain ⟨r, hr, rfl⟩ := List.mem_map.mp hq
        show ((cmT (r.2.1.map fun c => [c.1, c.2]) (fun cell => (ofR (L2.atI cell 0)).bind fun u => (ofR (L2.atI cell 1)).bind fun v => R.ok ((u, v)))).bind fun u => R.ok (u)).bind _ = _
        rw [cmT_ok (fun c => (c.headD 0, c.getD 1 0)) (fun c hc => by
          obtain ⟨d, _, rfl⟩ := List.mem_map.mp hc
          rfl) (by have := h.cells r hr; simp; omega)]
        rfl
      rw [cmT_ok _ e1 (by have := h.len; simp; omega), R.bind_ok, bnd_ok, List.map_map]
      have : rows.map ((fun r : RwL => (r.1, r.2.1.map (fun c => (c.headD 0, c.getD 1 0)), r.2.2)) ∘ rwOf) = rows := by
        conv => rhs; rw [← List.map_id rows]
        refine List.map_congr_left fun r _ => ?_
        show (r.1, (r.2.1.map fun c => [c.1, c.2]).map (fun c => (c.headD 0, c.getD 1 0)), r.2.2) = r
        rw [List.map_map, show ((fun c : List Int => (c.headD 0, c.getD 1 0)) ∘ fun c : Int × Int => [c.1, c.2]) = id from rfl, List.map_id]
      rw [this]
      rfl
theorem plain1_ok {rows : Mc} (h : RowsB rows) : f_l_plain rows = .ok rows := by
  unfold f_l_plain
  have e1 : ∀ r ∈ rows, (fun row : Row => ((cmT row.2.1 (fun cell => R.ok ((cell.1, cell.2)))).bind fun u => R.ok (u)).bind fun v => R.ok ((row.1, v, row.2.2))) r = R.ok (id r) := by
    intro r hr
    show ((cmT r.2.1 (fun cell => R.ok ((cell.1, cell.2)))).bind fun u => R.ok (u)).bind _ = _
    rw [cmT_ok (F := fun cell : Int × Int => R.ok (cell.1, cell.2)) (fun c => (c.1, c.2)) (fun _ _ => rfl) (by have := h.cells r hr; omega)]
    simp only [R.bind_ok]
    rw [show (fun c : Int × Int => (c.1, c.2)) = id from rfl, List.map_id]
    rfl
  rw [cmT_ok id e1 (by have := h.len; omega), R.bind_ok, bnd_ok, List.map_id]
  rfl
theorem plain2_ok {rows : Mc} (h : RowsB rows) : f_l_plain2 (rows.map rwOf) = .ok rows := by
  unfold f_l_plain2
  have e1 : ∀ r ∈ rows.map rwOf, (fun row : RwL => ((cmT row.2.1 (fun cell => (ofR (L2.atI cell 0)).bind fun u => (ofR (L2.atI cell 1)).bind fun v => R.ok ((u, v)))).bind fun u => R.ok (u)).bind fun v => R.ok ((row.1, v, row.2.2))) r = R.ok ((fun r : RwL => (r.1, r.2.1.map (fun c => (c.headD 0, c.getD 1 0)), r.2.2)) r) := by
    intro q hq
    obtain ⟨r, hr, rfl⟩ := List.mem_map.mp hq
    show ((cmT (r.2.1.map fun c => [c.1, c.2]) (fun cell => (ofR (L2.atI cell 0)).bind fun u => (ofR (L2.atI cell 1)).bind fun v => R.ok ((u, v)))).bind fun u => R.ok (u)).bind _ = _
    rw [cmT_ok (fun c => (c.headD 0, c.getD 1 0)) (fun c hc => by
      obtain ⟨d, _, rfl⟩ := List.mem_map.mp hc
      rfl) (by have := h.cells r hr; simp; omega)]
    rfl
  rw [cmT_ok _ e1 (by have := h.len; simp; omega), R.bind_ok, bnd_ok, List.map_map]
  have : rows.map ((fun r : RwL => (r.1, r.2.1.map (fun c => (c.headD 0, c.getD 1 0)), r.2.2)) ∘ rwOf) = rows := by
    conv => rhs; rw [← List.map_id rows]
    refine List.map_congr_left fun r _ => ?_
    show (r.1, (r.2.1.map fun c => [c.1, c.2]).map (fun c => (c.headD 0, c.getD 1 0)), r.2.2) = r
    rw [List.map_map, show ((fun c : List Int => (c.headD 0, c.getD 1 0)) ∘ fun c : Int × Int => [c.1, c.2]) = id from rfl, List.map_id]
  rw [this]
  rfl
theorem fault1_ok {rows : Mc} (h : RowsB rows) : f_l_fault rows = .ok (faultV rows) := by
  unfold f_l_fault faultV
  rw [bnd_ok, rooms_test]
  cases e : (decide (rows.length < 1) || decide (60 < rows.length)) with
  | true => rfl
  | false =>
    have hp : 0 < rows.length := by
      simp at e
      cases rows with
      | nil => simp at e
      | cons _ _ => simp
    obtain ⟨r0, e0, w0⟩ := head_wid hp
    rw [if_neg (by decide), if_neg (by decide)]
    simp only [e0, R.bind_ok, w0, cl_testL, turnL_ok, bnd_ok, roomL_l]
    have lp := loopL (n := rows.length) (k := wid rows) (φ := id) (P := fun _ => True)
      (F := fun (x : Int × Row) (_ : Unit) =>
        if (!clB x.2.2.1.length (wid rows)) = true then O.rt (some ("cells".toList, x.1)) else
        if (!tuB rows.length x.2.1) = true then O.rt (some ("left".toList, x.1)) else
        O.thn (forT x.2.2.1 (fun cell_here (_ : Unit) => if (!(decide (0 ≤ cell_here.1) && decide (cell_here.1 < (rows.length : Int))) || !decide (cell_here.2 ∈ (([1, -1]) : List Int))) = true then O.rt (some ("cell".toList, x.1)) else O.nx ()) () : O Unit Unit _) fun (_ : Unit) =>
        if (!tuB rows.length x.2.2.2) = true then O.rt (some ("right".toList, x.1)) else O.nx ())
      (fun j r _ => by
        have lc := loopC (n := rows.length) (φ := id) (a := some ("cell".toList, (j : Int))) (F := fun cell_here (_ : Unit) => if (!(decide (0 ≤ cell_here.1) && decide (cell_here.1 < (rows.length : Int))) || !decide (cell_here.2 ∈ (([1, -1]) : List Int))) = true then O.rt (some ("cell".toList, (j : Int))) else O.nx ()) (fun c => by
          show (if _ then _ else _) = _
          unfold ceB
          have : decide ((id c).2 ∈ (([1, -1]) : List Int)) = (decide (c.2 = 1) || decide (c.2 = -1)) := by simp
          rw [this]
          show (if (!(decide (0 ≤ c.1) && decide (c.1 < (rows.length : Int))) || !(decide (c.2 = 1) || decide (c.2 = -1))) = true then _ else _) = _
          cases (decide (0 ≤ c.1) && decide (c.1 < (rows.length : Int))) <;> cases (decide (c.2 = 1) || decide (c.2 = -1)) <;> rfl) r.2.1
        rw [List.map_id] at lc
        unfold frow
        show (if (!clB r.2.1.length (wid rows)) = true then _ else _) = _
        cases h1 : clB r.2.1.length (wid rows) with
        | false => rfl
        | true =>
          rw [if_neg (by decide)]
          show (if (!tuB rows.length r.1) = true then _ else _) = _
          cases h2 : tuB rows.length r.1 with
          | false => rfl
          | true =>
            rw [if_neg (by decide)]
            show O.thn (forT r.2.1 _ () : O Unit Unit _) _ = _
            erw [lc]
            cases h4 : r.2.1.all (ceB rows.length) with
            | false => rfl
            | true =>
              show (if (!tuB rows.length r.2.2) = true then _ else _) = _
              cases h5 : tuB rows.length r.2.2 <;> rfl) rows 0 fun _ _ => True.intro
    rw [List.map_id] at lp
    erw [lp]
    cases ffst rows.length (wid rows) 0 rows <;> rfl
theorem fault2_ok {rows : Mc} (h : RowsB rows) : f_l_fault2 (rows.map rwOf) = .ok (faultV rows) := by
  unfold f_l_fault2 faultV
  rw [bnd_ok, List.length_map, rooms_test]
  cases e : (decide (rows.length < 1) || decide (60 < rows.length)) with
  | true => rfl
  | false =>
    have hp : 0 < rows.length := by
      simp at e
      cases rows with
      | nil => simp at e
      | cons _ _ => simp
    obtain ⟨r0, e0, w0⟩ := head_wid2 hp
    rw [if_neg (by decide), if_neg (by decide)]
    simp only [e0, R.bind_ok, w0, cl_testL, turnL_ok, bnd_ok]
    have lp := loopL (n := rows.length) (k := wid rows) (φ := rwOf) (P := fun _ => True)
      (F := fun (x : Int × RwL) (_ : Unit) =>
        if (!clB x.2.2.1.length (wid rows)) = true then O.rt (some ("cells".toList, x.1)) else
        if (!tuB rows.length x.2.1) = true then O.rt (some ("left".toList, x.1)) else
        O.thn (forT x.2.2.1 (fun cell_here (_ : Unit) => bnd (((((ofR (L2.atI cell_here 0)).bind fun u => R.ok (Sum.inl u)).bind fun u => f_l_is_room u (rows.length : Int)).bind fun u => R.ok (!u)).bind fun u => if u = true then R.ok true else (ofR (L2.atI cell_here 1)).bind fun u => R.ok (!decide (u ∈ (([1, -1]) : List Int)))) fun b_ => if b_ = true then O.rt (some ("cell".toList, x.1)) else O.nx ()) () : O Unit Unit _) fun (_ : Unit) =>
        if (!tuB rows.length x.2.2.2) = true then O.rt (some ("right".toList, x.1)) else O.nx ())
      (fun j r _ => by
        have lc := loopC (n := rows.length) (φ := fun c => [c.1, c.2]) (a := some ("cell".toList, (j : Int))) (F := fun cell_here (_ : Unit) => bnd (((((ofR (L2.atI cell_here 0)).bind fun u => R.ok (Sum.inl u)).bind fun u => f_l_is_room u (rows.length : Int)).bind fun u => R.ok (!u)).bind fun u => if u = true then R.ok true else (ofR (L2.atI cell_here 1)).bind fun u => R.ok (!decide (u ∈ (([1, -1]) : List Int)))) fun b_ => if b_ = true then O.rt (some ("cell".toList, (j : Int))) else O.nx ()) (fun c => by
          show bnd (((((ofR (L2.atI [c.1, c.2] 0)).bind fun u => R.ok (Sum.inl u)).bind fun u => f_l_is_room u (rows.length : Int)).bind fun u => R.ok (!u)).bind fun u => if u = true then R.ok true else (ofR (L2.atI [c.1, c.2] 1)).bind fun u => R.ok (!decide (u ∈ (([1, -1]) : List Int)))) _ = _
          rw [show ofR (L2.atI [c.1, c.2] 0) = R.ok c.1 from rfl, show ofR (L2.atI [c.1, c.2] 1) = R.ok c.2 from rfl, R.bind_ok, R.bind_ok, roomL_l, R.bind_ok, R.bind_ok, R.bind_ok]
          unfold ceB
          have : decide (c.2 ∈ (([1, -1]) : List Int)) = (decide (c.2 = 1) || decide (c.2 = -1)) := by simp
          rw [this]
          cases (decide (0 ≤ c.1) && decide (c.1 < (rows.length : Int))) <;> cases (decide (c.2 = 1) || decide (c.2 = -1)) <;> rfl) r.2.1
        unfold frow
        show (if (!clB (r.2.1.map fun c => [c.1, c.2]).length (wid rows)) = true then _ else _) = _
        rw [List.length_map]
        cases h1 : clB r.2.1.length (wid rows) with
        | false => rfl
        | true =>
          rw [if_neg (by decide)]
          show (if (!tuB rows.length r.1) = true then _ else _) = _
          cases h2 : tuB rows.length r.1 with
          | false => rfl
          | true =>
            rw [if_neg (by decide)]
            show O.thn (forT (r.2.1.map fun c => [c.1, c.2]) _ () : O Unit Unit _) _ = _
            erw [lc]
            cases h4 : r.2.1.all (ceB rows.length) with
            | false => rfl
            | true =>
              show (if (!tuB rows.length r.2.2) = true then _ else _) = _
              cases h5 : tuB rows.length r.2.2 <;> rfl) rows 0 fun _ _ => True.intro
    erw [lp]
    cases ffst rows.length (wid rows) 0 rows <;> rfl
end DI
namespace DI
open PySem
theorem cell2_ok (ns : List Int) (k : Int) (hk : 0 ≤ k) : ∃ z : Int, f_l_cell ns k = .ok z := by
  unfold f_l_cell
  by_cases h : k < ns.length
  · obtain ⟨c, e, _⟩ := at_ex (xs := ns) (i := k) hk h
    rw [if_pos (decide_eq_true h), e]
    exact ⟨c, rfl⟩
  · rw [if_neg (by simpa using h)]
    exact ⟨0, rfl⟩
theorem mixed_ok (ns : List Int) : ∃ ms, f_l_mixed ns 10 = .ok ms ∧ 10 ≤ ms.length ∧ ms.length ≤ 63 := by
  unfold f_l_mixed
  refine wp_run ?_
  rw [bnd_ok]
  obtain ⟨z, hz⟩ := cell2_ok ns 0 (by decide)
  rw [hz, R.bind_ok, R.bind_ok, bnd_ok, bnd_ok]
  generalize hM : (if (if (ns.length : Int) < 63 then (ns.length : Int) else 63) > 10 then (if (ns.length : Int) < 63 then (ns.length : Int) else 63) else 10) = many
  have hM2 : 10 ≤ many ∧ many ≤ 63 := by
    rw [← hM]
    split
    · split at * <;> omega
    · omega
  obtain ⟨M, rfl⟩ := Int.eq_ofNat_of_zero_le (show 0 ≤ many by omega)
  rw [rngT_nat (by omega), bnd_ok]
  refine wp_for (fun i (xs : List Int) => xs.length = i) rfl ?_ ?_
  · intro i x xs hx hl
    rw [rg_get] at hx
    have hi : i < M := by
      by_cases q : i < M
      · exact q
      · rw [if_neg q] at hx; cases hx
    rw [if_pos hi] at hx
    injection hx with hx
    obtain ⟨c, hc⟩ := cell2_ok ns x (by omega)
    have hd : ∃ d, fdivT c (1 + (if (decide (x = 0)) = true then 1 else 0)) = .ok d := by
      by_cases q : x = 0
      · rw [if_pos (decide_eq_true q)]; exact ⟨_, fdivT_ok _ (by decide) (by decide)⟩
      · rw [if_neg (by simpa using q)]; exact ⟨_, fdivT_ok _ (by decide) (by decide)⟩
    obtain ⟨d, hd⟩ := hd
    have pw : powT 10 15 = .ok 1000000000000000 := by
      unfold powT
      rw [if_pos (by decide)]
      rfl
    rw [hc, R.bind_ok, hd, bnd_ok]
    refine wp_thn (fun _ => True) ?_ ?_
    · split
      · rw [pw, R.bind_ok, modT_ok _ (by decide), R.bind_ok, R.bind_ok, R.bind_ok, bnd_ok, bnd_ok]
        exact True.intro
      · exact True.intro
    · intro e _
      rw [apT_ok (xs := xs) _ (by omega), bnd_ok]
      show (xs ++ [e]).length = i + 1
      rw [List.length_append, hl]
      rfl
  · intro xs hl
    rw [rg_len] at hl
    show 10 ≤ xs.length ∧ xs.length ≤ 63
    omega
theorem turn2_ok (z : Int) {n : Nat} (hn : 0 < n) : ∃ t, f_l_turn z n = .ok t ∧ EndOk n t := by
  unfold f_l_turn
  refine wp_run ?_
  rw [modT_ok _ (show (0 : Int) < n + 2 by omega), bnd_ok]
  have h0 := Int.emod_nonneg z (show ((n : Int) + 2) ≠ 0 by omega)
  have h1 := Int.emod_lt_of_pos z (show (0 : Int) < n + 2 by omega)
  by_cases q : z % ((n : Int) + 2) < n
  · rw [if_pos (decide_eq_true q), bnd_ok]
    exact ⟨h0, q⟩
  · rw [if_neg (by simpa using q)]
    rcases (show z % ((n : Int) + 2) - n = 0 ∨ z % ((n : Int) + 2) - n = 1 by omega) with e | e
    · rw [e, show ofR (L2.atI ["by".toList, "out".toList] 0) = R.ok "by".toList from rfl, R.bind_ok, bnd_ok]
      exact .inl rfl
    · rw [e, show ofR (L2.atI ["by".toList, "out".toList] 1) = R.ok "out".toList from rfl, R.bind_ok, bnd_ok]
      exact .inr rfl
theorem row2_ok (z : Int) {n k : Nat} (hn : 0 < n) (hn2 : n ≤ 1000) (hk : k ≤ 1000) : ∃ r, f_l_row z n k = .ok r ∧ RowOk n k r := by
  unfold f_l_row
  refine wp_run ?_
  have hn' : (0 : Int) < (n : Int) + 2 := by omega
  obtain ⟨t, ht, to⟩ := turn2_ok z hn
  rw [ht, bnd_ok, fdivT_ok _ hn' (by omega), bnd_ok, bnd_ok, rngT_nat (by omega), bnd_ok]
  refine wp_for (fun i (p : Int × List (Int × Int)) => p.2.length = i ∧ ∀ c ∈ p.2, CellOk n c) ⟨rfl, fun _ h => nomatch h⟩ ?_ ?_
  · rintro i x ⟨w, cs⟩ hx ⟨hl, hc⟩
    rw [rg_get] at hx
    have hi : i < k := by
      by_cases q : i < k
      · exact q
      · rw [if_neg q] at hx; cases hx
    simp only at hl hc
    show Wp (bnd (modT w (2 * n)) _) _ _ _ _
    have h2 : (0 : Int) < 2 * n := by omega
    rw [modT_ok _ h2, bnd_ok, fdivT_ok _ h2 (by omega), bnd_ok, apT_ok (xs := cs) _ (by omega), bnd_ok]
    refine ⟨by simp; omega, fun c hc' => ?_⟩
    have a0 := Int.emod_nonneg w (show (2 * (n : Int)) ≠ 0 by omega)
    have a1 := Int.emod_lt_of_pos w h2
    rcases List.mem_append.mp hc' with q | q
    · exact hc c q
    · rw [List.mem_singleton.mp q]
      refine ⟨⟨?_, ?_⟩, ?_⟩
      · show 0 ≤ w % (2 * (n : Int)) / 2
        omega
      · show w % (2 * (n : Int)) / 2 < n
        omega
      · show 1 - 2 * (w % (2 * (n : Int)) % 2) = 1 ∨ 1 - 2 * (w % (2 * (n : Int)) % 2) = -1
        omega
  · rintro ⟨w, cs⟩ ⟨hl, hc⟩
    rw [rg_len] at hl
    obtain ⟨t2, ht2, to2⟩ := turn2_ok w hn
    show Wp (bnd ((f_l_turn w n).bind fun w => R.ok ((t, cs, w))) .rt) _ _ _ _
    rw [ht2, R.bind_ok, bnd_ok]
    exact ⟨to, hl, hc, to2⟩
theorem mach_drawn (cells : List Int) {n k : Nat} (hn2 : n ≤ 61) (hk : k ≤ 3) : ∃ m, f_l_machine cells n k = .ok m ∧ McOk n k m := by
  unfold f_l_machine
  refine wp_run ?_
  rw [bnd_ok, rngT_nat (by omega), bnd_ok]
  refine wp_for (fun i (rows : Mc) => rows.length = i ∧ ∀ r ∈ rows, RowOk n k r) ⟨rfl, fun _ h => nomatch h⟩ ?_ ?_
  · rintro i x rows hx ⟨hl, hr⟩
    rw [rg_get] at hx
    have hi : i < n := by
      by_cases q : i < n
      · exact q
      · rw [if_neg q] at hx; cases hx
    rw [if_pos hi] at hx
    injection hx with hx
    rw [bnd_ok]
    refine wp_thn (fun _ => True) ?_ ?_
    · split
      · rename_i h
        have h := of_decide_eq_true h
        have ha : ∃ a, ofR (L2.atI cells (if (((cells.length : Int)) - 1) < x then (((cells.length : Int)) - 1) else x)) = .ok a := by
          obtain ⟨c, e, _⟩ := at_ex (xs := cells) (i := if (((cells.length : Int)) - 1) < x then (((cells.length : Int)) - 1) else x) (by split <;> omega) (by split <;> omega)
          exact ⟨c, e⟩
        obtain ⟨a, ha⟩ := ha
        rw [ha, R.bind_ok, mulT_R _ (by split <;> decide) (by split <;> decide), R.bind_ok, bnd_ok]
        exact True.intro
      · exact True.intro
    · intro c _
      obtain ⟨r, e, ro⟩ := row2_ok c (show 0 < n by omega) (show n ≤ 1000 by omega) (show k ≤ 1000 by omega)
      rw [e, bnd_ok, apT_ok (xs := rows) _ (by omega), bnd_ok]
      refine ⟨by simp; omega, fun q hq => ?_⟩
      rcases List.mem_append.mp hq with h | h
      · exact hr q h
      · rw [List.mem_singleton.mp h]; exact ro
  · rintro rows ⟨hl, hr⟩
    rw [rg_len] at hl
    exact ⟨by omega, hr⟩
theorem pow_ok (j : Int) (h0 : 0 ≤ j) (h : j ≤ 1000000) : ∃ p, powT 10 j = .ok p := ⟨_, if_pos ⟨h0, h, by decide⟩⟩
theorem odd_turn_ok (z n : Int) : ∃ t, f_l_odd_turn z n = .ok t := by
  unfold f_l_odd_turn
  obtain ⟨p, hp⟩ := pow_ok 59 (by decide) (by decide)
  simp only [hp, R.bind_ok]
  rw [szT_ok _ (by simp), R.bind_ok]
  obtain ⟨t, e, _⟩ := at_ex (xs := [Sum.inl (-1), Sum.inl n, Sum.inl (n + 1), Sum.inr ("".toList), Sum.inr ("By".toList), Sum.inr ("in".toList), Sum.inr ("out ".toList), Sum.inr ("0".toList), Sum.inl p, Sum.inl (-p)]) (i := z % 10) (Int.emod_nonneg _ (by decide)) (by simp; exact Int.emod_lt_of_pos _ (by decide))
  rw [e]
  exact ⟨t, rfl⟩
theorem cut_len {α : Type} (xs : List α) (a b : Option Int) : (cutL xs a b).length ≤ xs.length := by
  unfold cutL
  rw [List.length_take, List.length_drop]
  omega
theorem odd_cells_ok (cs : List (Int × Int)) (z n : Int) (h0 : 0 < cs.length) (hl : cs.length ≤ 1000) : ∃ ds, f_l_odd_cells cs z n = .ok ds ∧ ds.length ≤ 2 * cs.length + 4 := by
  unfold f_l_odd_cells
  refine wp_run ?_
  rw [bnd_ok]
  split
  · exact Nat.zero_le _
  split
  · rw [szT_ok _ (by simp; omega), bnd_ok]
    show (cs ++ [(0, 1)]).length ≤ _
    simp; omega
  split
  · show (cutL cs (some 1) none).length ≤ _
    have := cut_len cs (some 1) none
    omega
  split
  · show 4 ≤ _
    omega
  rw [modT_ok _ (by omega), bnd_ok]
  have a0 := Int.emod_nonneg (z / 7) (show (cs.length : Int) ≠ 0 by omega)
  have a1 := Int.emod_lt_of_pos (z / 7) (show (0 : Int) < cs.length by omega)
  obtain ⟨c, e, _⟩ := at_ex (xs := cs) a0 a1
  obtain ⟨p, hp⟩ := pow_ok 30 (by decide) (by decide)
  obtain ⟨q, hq⟩ := pow_ok 20 (by decide) (by decide)
  simp only [e, hp, hq, R.bind_ok]
  have b0 := Int.emod_nonneg (z / 21) (show (4 : Int) ≠ 0 by omega)
  have b1 := Int.emod_lt_of_pos (z / 21) (show (0 : Int) < 4 by omega)
  obtain ⟨u, eu, _⟩ := at_ex (xs := [0, 2, -2, p]) b0 (by simpa using b1)
  obtain ⟨v, ev, _⟩ := at_ex (xs := [-1, n, n + 7, q]) b0 (by simpa using b1)
  rw [szT_ok [0, 2, -2, p] (by simp), R.bind_ok, eu, R.bind_ok, R.bind_ok, szT_ok [-1, n, n + 7, q] (by simp), R.bind_ok, ev]
  simp only [R.bind_ok]
  rw [szT_ok _ (by simp), bnd_ok]
  obtain ⟨w, ew, _⟩ := at_ex (xs := [(c.1, u), (v, 1)]) (i := z % 7 % 2) (Int.emod_nonneg _ (by decide)) (by simp; exact Int.emod_lt_of_pos _ (by decide))
  rw [ew]
  simp only [R.bind_ok]
  have c1 := cut_len cs none (some (z / 7 % (cs.length : Int)))
  have c2 := cut_len cs (some (z / 7 % (cs.length : Int) + 1)) none
  rw [szT_ok [w] (by simp), R.bind_ok, szT_ok _ (by simp; omega), R.bind_ok, szT_ok _ (by simp; omega), bnd_ok]
  show (cutL cs none (some (z / 7 % (cs.length : Int))) ++ [w] ++ cutL cs (some (z / 7 % (cs.length : Int) + 1)) none).length ≤ 2 * cs.length + 4
  simp only [List.length_append, List.length_singleton]
  omega
end DI
namespace DI
open PySem
abbrev eRow : Row → D := eT3 eTu (eSq (eT2 D.int D.int)) eTu
def eRo (r : Row) : D := .lst true [eTu r.1, eLs false (eT2 D.int D.int) r.2.1, eTu r.2.2]
def eRoF (r : Row) : D := .lst false [eTu r.1, eLs false (eT2 D.int D.int) r.2.1, eTu r.2.2]
def eCel (c : Int × Int) : D := .lst true [.int c.1, .int c.2]
def eRl (r : Row) : D := .lst true [eTu r.1, .lst true (r.2.1.map eCel), eTu r.2.2]
theorem cl_row : Cl eRow := cl_t3 cl_tu (cl_sq (cl_t2 cl_int cl_int)) cl_tu
theorem cl_rof : Cl eRoF := fun r => by
  unfold eRoF
  rw [clean, cleanL, cleanL, cleanL, cleanL, cl_tu _, cl_tu _, cl_ls (cl_t2 cl_int cl_int) _]
  rfl
theorem fz_tu (t : Turn) : frz (eTu t) = eTu t := frz_clean _ (cl_tu t)
theorem frz_ro (r : Row) : frz (eRo r) = eRoF r := by
  unfold eRo eRoF
  rw [frz, frzL, frzL, frzL, frzL, fz_tu, fz_tu, frz_clean _ (cl_ls (cl_t2 cl_int cl_int) _)]
theorem frz_rl (r : Row) : frz (eRl r) = eRw (rwOf r) := by
  unfold eRl eRw rwOf
  rw [frz, frzL, frzL, frzL, frzL, fz_tu, fz_tu, frz, frzL_map, List.map_map]
  show D.lst false [eTu r.1, .lst false (r.2.1.map (frz ∘ eCel)), eTu r.2.2] = D.lst false [eTu r.1, .lst false ((r.2.1.map fun c => [c.1, c.2]).map (eLs false D.int)), eTu r.2.2]
  rw [List.map_map]
  have : (frz ∘ eCel) = (eLs false D.int ∘ fun c : Int × Int => [c.1, c.2]) := by
    funext c
    simp [eCel, eLs, Function.comp]
  rw [this]
theorem frz_rls (rows : Mc) (o : Bool) : frz (.lst o (rows.map eRl)) = eLs false eRw (rows.map rwOf) := by
  rw [frz, frzL_map, List.map_map]
  unfold eLs
  rw [List.map_map]
  have : (frz ∘ eRl) = (eRw ∘ rwOf) := by
    funext r
    exact frz_rl r
  rw [this]
theorem frz_rows (rows : Mc) (o : Bool) : frz (.lst o (rows.map eRow)) = eLs false eRow rows := by
  rw [frz, frzL_map, List.map_map]
  unfold eLs
  congr 1
  exact List.map_congr_left fun r _ => frz_clean _ (cl_row r)
theorem frz_ros (rows : Mc) (o : Bool) : frz (.lst o (rows.map eRo)) = .lst false (rows.map eRoF) := by
  rw [frz, frzL_map, List.map_map]
  congr 1
  exact List.map_congr_left fun r _ => frz_ro r
theorem fe_1 {h : List D → R D} {f : Sl → R D} {σ : Sl} {a d : D} (e1 : f σ = .ok a) (hh : h [frz a] = .ok d) (hn : noFrz d = true) : eF h (aC f aN) σ = .ok d := by
  show ((f σ).bind fun x => _).bind _ = _
  rw [e1]
  show (h (frzL [a])).bind _ = _
  rw [frzL, frzL, hh]
  show (if _ then _ else _) = _
  rw [hn, Bool.or_true, if_pos rfl]
theorem fe_2 {h : List D → R D} {f k : Sl → R D} {σ : Sl} {a b d : D} (e1 : f σ = .ok a) (e2 : k σ = .ok b) (hh : h [frz a, frz b] = .ok d) (hn : noFrz d = true) : eF h (aC f (aC k aN)) σ = .ok d := by
  show ((f σ).bind fun x => _).bind _ = _
  rw [e1]
  show (((k σ).bind fun x => _).bind fun x => _).bind _ = _
  rw [e2]
  show (h (frzL [a, b])).bind _ = _
  rw [frzL, frzL, frzL, hh]
  show (if _ then _ else _) = _
  rw [hn, Bool.or_true, if_pos rfl]
theorem fe_3 {h : List D → R D} {f k l : Sl → R D} {σ : Sl} {a b c d : D} (e1 : f σ = .ok a) (e2 : k σ = .ok b) (e3 : l σ = .ok c) (hh : h [frz a, frz b, frz c] = .ok d) (hn : noFrz d = true) : eF h (aC f (aC k (aC l aN))) σ = .ok d := by
  show ((f σ).bind fun x => _).bind _ = _
  rw [e1]
  show (((k σ).bind fun x => _).bind fun x => _).bind _ = _
  rw [e2]
  show ((((l σ).bind fun x => _).bind fun x => _).bind fun x => _).bind _ = _
  rw [e3]
  show (h (frzL [a, b, c])).bind _ = _
  rw [frzL, frzL, frzL, frzL, hh]
  show (if _ then _ else _) = _
  rw [hn, Bool.or_true, if_pos rfl]
theorem frz_ints (o : Bool) (ms : List Int) : frz (.lst o (ms.map D.int)) = eLs false D.int ms := by
  rw [frz, frzL_map, List.map_map]
  rfl
theorem cellD {f k : Sl → R D} {σ : Sl} {o : Bool} {ms : List Int} {i : Int} (e1 : f σ = .ok (.lst o (ms.map D.int))) (e2 : k σ = .ok (.int i)) (hi : 0 ≤ i) : ∃ z, eF h_l_cell (aC f (aC k aN)) σ = .ok (.int z) := by
  obtain ⟨z, hz⟩ := cell2_ok ms i hi
  have t := tf_l_cell ms i
  rw [hz] at t
  exact ⟨z, fe_2 e1 e2 (by rw [frz_ints]; exact t) rfl⟩
theorem oddtD {f k : Sl → R D} {σ : Sl} {z n : Int} (e1 : f σ = .ok (.int z)) (e2 : k σ = .ok (.int n)) : ∃ t, eF h_l_odd_turn (aC f (aC k aN)) σ = .ok (eTu t) := by
  obtain ⟨t, ht⟩ := odd_turn_ok z n
  have q := tf_l_odd_turn z n
  rw [ht] at q
  exact ⟨t, fe_2 e1 e2 q (by cases t <;> rfl)⟩
theorem nf_pairs (cs : List (Int × Int)) : noFrzL (cs.map (eT2 D.int D.int)) = true := by
  induction cs with
  | nil => rfl
  | cons c cs ih => rw [List.map_cons, noFrzL, ih]; rfl
theorem oddcD {f k l : Sl → R D} {σ : Sl} {cs : List (Int × Int)} {z n : Int} (e1 : f σ = .ok (eLs false (eT2 D.int D.int) cs)) (e2 : k σ = .ok (.int z)) (e3 : l σ = .ok (.int n)) (h0 : 0 < cs.length) (hl : cs.length ≤ 1000) : ∃ ds, eF h_l_odd_cells (aC f (aC k (aC l aN))) σ = .ok (eLs true (eT2 D.int D.int) ds) ∧ ds.length ≤ 2 * cs.length + 4 := by
  obtain ⟨ds, hd, hl2⟩ := odd_cells_ok cs z n h0 hl
  have q := tf_l_odd_cells cs z n
  rw [hd] at q
  refine ⟨ds, fe_3 e1 e2 e3 (by rw [frz_clean _ (cl_ls (cl_t2 cl_int cl_int) _)]; exact q) ?_, hl2⟩
  unfold eLs
  rw [noFrz, nf_pairs]
  rfl
noncomputable abbrev appF : SF := sApp 3 (eLst (aC (eO (eIx (eV 4) (eK (.int 0)))) (aC (eFrz (eLi (aC (eIx (eV 4) (eK (.int 1))) (aN)))) (aC (eO (eIx (eV 4) (eK (.int 2)))) (aN)))))
theorem app_step (s n k : D) (acc : List D) (r : Row) (h : acc.length < 1000) (x5 x6 : Option D) : appF [some s, some n, some k, some (.lst true acc), some (eRow r), x5, x6] = .nx [some s, some n, some k, some (.lst true (acc ++ [eRo r])), some (eRow r), x5, x6] := by
  have c1 := cl_tu r.1
  have c2 := cl_tu r.2.2
  have c3 : cleanL (r.2.1.map (eT2 D.int D.int)) = true := by
    have := cl_sq (cl_t2 cl_int cl_int) r.2.1
    unfold eSq at this
    rwa [clean] at this
  have f3 : frz (.lst true (r.2.1.map (eT2 D.int D.int))) = eLs false (eT2 D.int D.int) r.2.1 := by
    rw [frz, frzL_clean _ c3]; rfl
  have i0 : eO (eIx (eV 4) (eK (.int 0))) [some s, some n, some k, some (.lst true acc), some (eRow r), x5, x6] = .ok (eTu r.1) := if_pos c1
  have i2 : eO (eIx (eV 4) (eK (.int 2))) [some s, some n, some k, some (.lst true acc), some (eRow r), x5, x6] = .ok (eTu r.2.2) := if_pos c2
  have i1 : eFrz (eLi (aC (eIx (eV 4) (eK (.int 1))) (aN))) [some s, some n, some k, some (.lst true acc), some (eRow r), x5, x6] = .ok (eLs false (eT2 D.int D.int) r.2.1) := by
    show (liD [eSq (eT2 D.int D.int) r.2.1]).bind _ = _
    rw [show liD [eSq (eT2 D.int D.int) r.2.1] = .ok (.lst true (r.2.1.map (eT2 D.int D.int))) from if_pos c3]
    exact congrArg R.ok f3
  show rS (eLst _ _) _ _ = _
  rw [show eLst (aC (eO (eIx (eV 4) (eK (.int 0)))) (aC (eFrz (eLi (aC (eIx (eV 4) (eK (.int 1))) (aN)))) (aC (eO (eIx (eV 4) (eK (.int 2)))) (aN)))) [some s, some n, some k, some (.lst true acc), some (eRow r), x5, x6] = .ok (eRo r) from by
    rw [u_eLst, u_aC, i0, R.bind_ok, u_aC, i1, R.bind_ok, u_aC, i2, R.bind_ok]
    simp only [u_aN, R.bind_ok, tupOf_tup]
    rw [if_pos (show ([eTu r.1, eLs false (eT2 D.int D.int) r.2.1, eTu r.2.2] : List D).length ≤ sizeLine from le_line (show 3 ≤ 1000000 by decide))]
    rfl, rS_ok]
  exact if_pos (lt_line (by omega))
theorem app_loop (s n k : D) (x5 x6 : Option D) : ∀ (m acc : Mc) (x4 : Option D), acc.length + m.length ≤ 1000 → ∃ x4', fr (.one 4) appF (m.map eRow) [some s, some n, some k, some (.lst true (acc.map eRo)), x4, x5, x6] = .nx [some s, some n, some k, some (.lst true ((acc ++ m).map eRo)), x4', x5, x6]
  | [], acc, x4, _ => ⟨x4, by rw [List.append_nil]; rfl⟩
  | r :: m, acc, x4, h => by
    rw [List.length_cons] at h
    obtain ⟨x4', e⟩ := app_loop s n k x5 x6 m (acc ++ [r]) (some (eRow r)) (by simp; omega)
    refine ⟨x4', ?_⟩
    rw [List.map_cons, fr]
    show (match appF [some s, some n, some k, some (.lst true (acc.map eRo)), some (eRow r), x5, x6] with
      | .nx σ' => fr (.one 4) appF (m.map eRow) σ'
      | .ct σ' => fr (.one 4) appF (m.map eRow) σ'
      | .bk σ' => .nx σ'
      | r => r) = _
    rw [app_step s n k _ r (by rw [List.length_map]; omega)]
    show fr (.one 4) appF (m.map eRow) [some s, some n, some k, some (.lst true (acc.map eRo ++ [eRo r])), some (eRow r), x5, x6] = _
    rw [show acc.map eRo ++ [eRo r] = (acc ++ [r]).map eRo by simp, e]
    simp
theorem ixN_nat {i n : Nat} (h : i < n) : L2.ixN n (i : Int) = some i := by
  unfold L2.ixN
  rw [if_pos (by omega), if_pos (by omega)]
  simp
theorem aput_ok {i j k : Nat} {fk fe : Sl → R D} {σ : Sl} {y : D} {xs ys : List D} {q : Nat} (e1 : eAl i j k fe σ = .ok y) (e2 : getS σ i = .ok (.lst true xs)) (e3 : xs[k]? = some (.lst true ys)) (e4 : fk σ = .ok (.int (q : Int))) (hq : q < ys.length) (hc : cleanL ys = true) :
    aPut i j fk fe k σ = .nx (σ.set i (some (.lst true (xs.set k (.lst true (ys.set q (frz y))))))) := by
  unfold aPut
  rw [e1, rS_ok, e2, R.bind_ok, lstOf_lst, rS_ok, e3, ofR_some, rS_ok, lstOf_lst, rS_ok, e4, rS_ok, intOf_int, rS_ok, ixN_nat hq, ofR_some, rS_ok, if_pos hc]
theorem eal_ok {i j k : Nat} {f : Sl → R D} {σ : Sl} {xs : List D} {y r : D} (e1 : getS σ i = .ok (.lst true xs)) (e2 : xs[k]? = some y) (e3 : f ((σ.set i (some (frz (.lst true xs)))).set j (some (frz y))) = .ok r) (hn : noFrz r = true) : eAl i j k f σ = .ok r := by
  unfold eAl
  rw [e1, R.bind_ok, lstOf_lst, R.bind_ok, e2, ofR_some, R.bind_ok, e3]
  exact if_pos hn
abbrev P2 := eT2 D.int D.int
noncomputable abbrev c1F : Sl → R D := eC .eq (eB .mod (eB .fdiv (eV 6) (eK (.int 64))) (eK (.int 4))) (eK (.int 0))
noncomputable abbrev c2F : Sl → R D := eC .eq (eB .mod (eB .fdiv (eV 6) (eK (.int 64))) (eK (.int 4))) (eK (.int 1))
noncomputable abbrev c3F : Sl → R D := eC .gt (eBi .len (aC (eIx (eV 4) (eK (.int 1))) (aN))) (eK (.int 0))
noncomputable abbrev otF : Sl → R D := eF h_l_odd_turn (aC (eB .fdiv (eV 6) (eK (.int 256))) (aC (eV 1) (aN)))
noncomputable abbrev ocF : Sl → R D := eF h_l_odd_cells (aC (eIx (eV 4) (eK (.int 1))) (aC (eB .fdiv (eV 6) (eK (.int 256))) (aC (eV 1) (aN))))
noncomputable abbrev bodF : AF := aIf 3 4 c1F (aPut 3 4 (eK (.int 0)) otF) (aIf 3 4 c2F (aPut 3 4 (eK (.int 2)) otF) (aIf 3 4 c3F (aPut 3 4 (eK (.int 1)) ocF) (aSkip)))
theorem binD_md {a b : Int} (h : 0 < b) : binD .mod (.int a) (.int b) = .ok (.int (a % b)) := if_pos h
theorem bod_step (s : D) (n : Int) (k : D) (rows : Mc) (z : Int) (x5 : Option D) (q : Nat) (r : Row) (hr : rows[q]? = some r) (B : Nat) (hB : B ≤ 100) (hb : ∀ r ∈ rows, r.2.1.length ≤ B) :
    ∃ r' : Row, r'.2.1.length ≤ 2 * B + 4 ∧ bodF q [some s, some (.int n), some k, some (.lst true (rows.map eRo)), none, x5, some (.int z)] = .nx [some s, some (.int n), some k, some (.lst true ((rows.set q r').map eRo)), none, x5, some (.int z)] := by
  have hq : (rows.map eRo)[q]? = some (eRo r) := by rw [List.getElem?_map, hr]; rfl
  have hlr : r.2.1.length ≤ B := hb r (List.mem_iff_getElem?.mpr ⟨q, hr⟩)
  have hql : q < rows.length := (List.getElem?_eq_some_iff.mp hr).1
  have same : rows.set q r = rows := by
    obtain ⟨h, e⟩ := List.getElem?_eq_some_iff.mp hr
    rw [← e]; exact List.set_getElem_self h
  have clr : cleanL [eTu r.1, eLs false P2 r.2.1, eTu r.2.2] = true := by
    have := cl_rof r
    unfold eRoF at this
    rw [clean] at this
    simpa using this
  let σ : Sl := [some s, some (.int n), some k, some (.lst true (rows.map eRo)), none, x5, some (.int z)]
  have gs : getS σ 3 = .ok (.lst true (rows.map eRo)) := rfl
  let σ' : Sl := [some s, some (.int n), some k, some (frz (.lst true (rows.map eRo))), some (eRoF r), x5, some (.int z)]
  have hσ : (σ.set 3 (some (frz (.lst true (rows.map eRo))))).set 4 (some (frz (eRo r))) = σ' := by
    rw [frz_ro]; rfl
  have fin : ∀ (j : Nat) (y : D) (r' : Row), ([eTu r.1, eLs false P2 r.2.1, eTu r.2.2] : List D).set j (frz y) = [eTu r'.1, eLs false P2 r'.2.1, eTu r'.2.2] → σ.set 3 (some (.lst true ((rows.map eRo).set q (.lst true (([eTu r.1, eLs false P2 r.2.1, eTu r.2.2] : List D).set j (frz y)))))) = [some s, some (.int n), some k, some (.lst true ((rows.set q r').map eRo)), none, x5, some (.int z)] := by
    intro j y r' e
    rw [e, List.map_set]
    rfl
  have d1 : ∀ (σ : Sl), getS σ 6 = .ok (.int z) → eB .mod (eB .fdiv (eV 6) (eK (.int 64))) (eK (.int 4)) σ = .ok (.int (z / 64 % 4)) := by
    intro σ hz
    rw [u_eB, u_eB, u_eV, hz, R.bind_ok, u_eK, R.bind_ok, binD_fdiv _ _ (by decide) (by decide), R.bind_ok, u_eK, R.bind_ok]
    exact binD_md (by decide)
  have d2 : eB .fdiv (eV 6) (eK (.int 256)) σ' = .ok (.int (z / 256)) := by
    show binD .fdiv (.int z) (.int 256) = _
    exact binD_fdiv z 256 (by decide) (by decide)
  have b1 : eAl 3 4 q c1F σ = .ok (.bl (decide (z / 64 % 4 = 0))) := eal_ok gs hq (by
    unfold c1F; rw [hσ, u_eC, d1 σ' rfl, R.bind_ok, u_eK, R.bind_ok, cmpD_eq, eqD_int]; rfl) rfl
  have b2 : eAl 3 4 q c2F σ = .ok (.bl (decide (z / 64 % 4 = 1))) := eal_ok gs hq (by
    unfold c2F; rw [hσ, u_eC, d1 σ' rfl, R.bind_ok, u_eK, R.bind_ok, cmpD_eq, eqD_int]; rfl) rfl
  have b3 : eAl 3 4 q c3F σ = .ok (.bl (decide ((0 : Int) < (r.2.1.length : Int)))) := eal_ok gs hq (by
    rw [hσ]
    show R.ok (D.bl (decide ((0 : Int) < ((r.2.1.map P2).length : Int)))) = _
    rw [List.length_map]) rfl
  show ∃ r' : Row, _ ∧ bodF q σ = _
  show ∃ r' : Row, _ ∧ rS (eAl 3 4 q c1F σ) σ (fun d => cond d _ _) = _
  rw [b1, rS_ok, cond_bl]
  by_cases h1 : z / 64 % 4 = 0
  · rw [if_pos (decide_eq_true h1)]
    obtain ⟨t, ht⟩ := oddtD (σ := σ') (f := eB .fdiv (eV 6) (eK (.int 256))) (k := eV 1) d2 rfl
    have e := aput_ok (fk := eK (.int 0)) (q := 0) (eal_ok gs hq (by rw [hσ]; exact ht) (by cases t <;> rfl)) gs hq rfl (show 0 < 3 by decide) clr
    refine ⟨(t, r.2.1, r.2.2), by show r.2.1.length ≤ _; omega, e.trans (congrArg RS.nx (fin 0 _ _ ?_))⟩
    rw [fz_tu]; rfl
  · rw [if_neg (by simpa using h1)]
    show ∃ r' : Row, _ ∧ rS (eAl 3 4 q c2F σ) σ (fun d => cond d _ _) = _
    rw [b2, rS_ok, cond_bl]
    by_cases h2 : z / 64 % 4 = 1
    · rw [if_pos (decide_eq_true h2)]
      obtain ⟨t, ht⟩ := oddtD (σ := σ') (f := eB .fdiv (eV 6) (eK (.int 256))) (k := eV 1) d2 rfl
      have e := aput_ok (fk := eK (.int 2)) (q := 2) (eal_ok gs hq (by rw [hσ]; exact ht) (by cases t <;> rfl)) gs hq rfl (show 2 < 3 by decide) clr
      refine ⟨(r.1, r.2.1, t), by show r.2.1.length ≤ _; omega, e.trans (congrArg RS.nx (fin 2 _ _ ?_))⟩
      rw [fz_tu]; rfl
    · rw [if_neg (by simpa using h2)]
      show ∃ r' : Row, _ ∧ rS (eAl 3 4 q c3F σ) σ (fun d => cond d _ _) = _
      rw [b3, rS_ok, cond_bl]
      by_cases h3 : 0 < r.2.1.length
      · rw [if_pos (decide_eq_true (by omega))]
        obtain ⟨ds, hd, hl⟩ := oddcD (σ := σ') (f := eIx (eV 4) (eK (.int 1))) (k := eB .fdiv (eV 6) (eK (.int 256))) (l := eV 1) (cs := r.2.1) rfl d2 rfl h3 (by omega)
        have e := aput_ok (fk := eK (.int 1)) (q := 1) (eal_ok gs hq (by rw [hσ]; exact hd) (by unfold eLs; rw [noFrz, nf_pairs]; rfl)) gs hq rfl (show 1 < 3 by decide) clr
        refine ⟨(r.1, ds, r.2.2), by show ds.length ≤ _; omega, e.trans (congrArg RS.nx (fin 1 _ _ ?_))⟩
        have : frz (eLs true P2 ds) = eLs false P2 ds := by
          unfold eLs
          rw [frz, frzL_clean _ (by rw [cleanL_all]; simp; exact fun a b _ => rfl)]
        rw [this]; rfl
      · rw [if_neg (by simpa using h3)]
        refine ⟨r, by omega, ?_⟩
        rw [same]; rfl
end DI
namespace DI
open PySem
abbrev scD (ms : List Int) : D := eLs false D.int ms
noncomputable abbrev bod2 : SF := sSeq (sSet 6 (eB .add (eB .fdiv (eF h_l_cell (aC (eV 0) (aC (eK (.int 3)) (aN)))) (eB .add (eV 5) (eK (.int 1)))) (eF h_l_cell (aC (eV 0) (aC (eB .add (eK (.int 4)) (eV 5)) (aN)))))) <| sAl 3 4 (eB .mod (eV 6) (eV 1)) bodF
def gB : Nat → Nat
  | 0 => 3
  | i + 1 => 2 * gB i + 4
theorem bod2_step (ms : List Int) (n : Nat) (k : D) (rows : Mc) (x4 x6 : Option D) (i : Nat) (hi : i < 3) (hn : 0 < n) (hl : rows.length = n) (hb : ∀ r ∈ rows, r.2.1.length ≤ gB i) :
    ∃ (rows' : Mc) (x6' : Option D), rows'.length = n ∧ (∀ r ∈ rows', r.2.1.length ≤ gB (i + 1)) ∧ bod2 [some (scD ms), some (.int (n : Int)), some k, some (.lst true (rows.map eRo)), x4, some (.int (i : Int)), x6] = .nx [some (scD ms), some (.int (n : Int)), some k, some (.lst true (rows'.map eRo)), none, some (.int (i : Int)), x6'] := by
  let σ : Sl := [some (scD ms), some (.int (n : Int)), some k, some (.lst true (rows.map eRo)), x4, some (.int (i : Int)), x6]
  obtain ⟨z1, e1⟩ := cellD (σ := σ) (f := eV 0) (k := eK (.int 3)) (o := false) (ms := ms) rfl rfl (by decide)
  obtain ⟨z2, e2⟩ := cellD (σ := σ) (f := eV 0) (k := eB .add (eK (.int 4)) (eV 5)) (o := false) (ms := ms) (i := 4 + (i : Int)) rfl rfl (by omega)
  have ez : (eB .add (eB .fdiv (eF h_l_cell (aC (eV 0) (aC (eK (.int 3)) (aN)))) (eB .add (eV 5) (eK (.int 1)))) (eF h_l_cell (aC (eV 0) (aC (eB .add (eK (.int 4)) (eV 5)) (aN))))) σ = .ok (.int (z1 / ((i : Int) + 1) + z2)) := by
    rw [u_eB, u_eB, e1, R.bind_ok, show eB .add (eV 5) (eK (.int 1)) σ = .ok (.int ((i : Int) + 1)) from rfl, R.bind_ok, binD_fdiv _ _ (by omega) (by omega), R.bind_ok, e2]
    rfl
  generalize z1 / ((i : Int) + 1) + z2 = z at ez
  have m0 := Int.emod_nonneg z (show (n : Int) ≠ 0 by omega)
  have m1 := Int.emod_lt_of_pos z (show (0 : Int) < n by omega)
  obtain ⟨q, hq⟩ := Int.eq_ofNat_of_zero_le m0
  have hq2 : q < rows.length := by omega
  obtain ⟨r, hr⟩ : ∃ r, rows[q]? = some r := ⟨_, List.getElem?_eq_getElem hq2⟩
  have hB : gB i ≤ 100 := by
    rcases (show i = 0 ∨ i = 1 ∨ i = 2 by omega) with rfl | rfl | rfl <;> decide
  obtain ⟨r', hl', e⟩ := bod_step (scD ms) (n : Int) k rows z (some (.int (i : Int))) q r hr (gB i) hB hb
  refine ⟨rows.set q r', some (.int z), by rw [List.length_set]; exact hl, fun p hp => ?_, ?_⟩
  · rcases List.mem_or_eq_of_mem_set hp with h | h
    · have := hb p h
      show _ ≤ 2 * gB i + 4
      omega
    · rw [h]; exact hl'
  · show (sSet 6 _ σ).andThen _ = _
    rw [u_sSet, ez, rS_ok, then_nx]
    show rS (.ok (rows.map eRo)) _ _ = _
    rw [rS_ok]
    show rS (binD .mod (.int z) (.int (n : Int))) _ _ = _
    rw [binD_md (by omega), rS_ok, intOf_int, rS_ok, hq, List.length_map, ixN_nat hq2, ofR_some, rS_ok, List.getElem?_map, hr]
    exact e
theorem bod2_loop (ms : List Int) (n : Nat) (k : D) (hn : 0 < n) (x4 x5 x6 : Option D) (rows : Mc) (hl : rows.length = n) (hb : ∀ r ∈ rows, r.2.1.length ≤ 3) (m : Nat) (hm : m ≤ 3) :
    ∃ (rows' : Mc) (x4' x5' x6' : Option D), rows'.length = n ∧ (∀ r ∈ rows', r.2.1.length ≤ 52) ∧ fr (.one 5) bod2 (rngL 0 m) [some (scD ms), some (.int (n : Int)), some k, some (.lst true (rows.map eRo)), x4, x5, x6] = .nx [some (scD ms), some (.int (n : Int)), some k, some (.lst true (rows'.map eRo)), x4', x5', x6'] := by
  obtain ⟨σ', e, rows', x4', x5', x6', h1, h2, h3⟩ := fr_inv (p := .one 5) (f := bod2) (fun i σ => ∃ (rows' : Mc) (x4' x5' x6' : Option D), rows'.length = n ∧ (∀ r ∈ rows', r.2.1.length ≤ gB i) ∧ σ = [some (scD ms), some (.int (n : Int)), some k, some (.lst true (rows'.map eRo)), x4', x5', x6']) (rngL 0 m) 0 [some (scD ms), some (.int (n : Int)), some k, some (.lst true (rows.map eRo)), x4, x5, x6] ⟨rows, x4, x5, x6, hl, hb, rfl⟩
    (fun i x σ hx h => by
      obtain ⟨rows', x4', x5', x6', h1, h2, rfl⟩ := h
      rw [Nat.zero_add] at h2 ⊢
      have hi : i < m ∧ x = .int (i : Int) := by
        unfold rngL at hx
        rw [List.getElem?_map] at hx
        by_cases q : i < m
        · rw [List.getElem?_range q] at hx
          injection hx with hx
          exact ⟨q, by rw [← hx]; show D.int (0 + (i : Int)) = _; rw [Int.zero_add]⟩
        · rw [List.getElem?_eq_none (by simp; omega)] at hx; cases hx
      obtain ⟨hi, rfl⟩ := hi
      obtain ⟨rows2, x62, g1, g2, g3⟩ := bod2_step ms n k rows' x4' x6' i (by omega) hn h1 h2
      exact ⟨_, _, rfl, .inl g3, rows2, none, some (.int (i : Int)), x62, g1, g2, rfl⟩)
  refine ⟨rows', x4', x5', x6', h1, fun r hr => Nat.le_trans (h2 r hr) ?_, by rw [e, h3]⟩
  have : (rngL 0 m).length = m := by simp [rngL]
  rw [Nat.zero_add, this]
  rcases (show m = 0 ∨ m = 1 ∨ m = 2 ∨ m = 3 by omega) with rfl | rfl | rfl | rfl <;> decide
theorem compR_rows {α : Type} {F : D → R (Option D)} {a b : α → D} : ∀ (rows : List α), (∀ r ∈ rows, F (a r) = .ok (some (b r))) → compR F (rows.map a) = .ok (rows.map b)
  | [], _ => rfl
  | r :: rows, h => by
    rw [List.map_cons, compR, h r List.mem_cons_self, R.bind_ok, compR_rows rows fun q hq => h q (List.mem_cons_of_mem _ hq)]
    rfl
theorem ecomp_rows {α : Type} {vs : List Nat} {p : Pat} {fi : Sl → R (List D)} {fc fe : Sl → R D} {σ : Sl} {a b : α → D} (rows : List α) (h1 : fi σ = .ok (rows.map a)) (h2 : ∀ r ∈ rows, cBody vs p fc fe σ (a r) = .ok (some (b r))) (h3 : rows.length ≤ 1000000) : eComp vs p fi fc fe σ = .ok (.lst true (rows.map b)) := by
  unfold eComp
  rw [h1, R.bind_ok, compR_rows rows h2, R.bind_ok, if_pos (by rw [List.length_map]; exact le_line h3)]
theorem cl_rofs (rows : Mc) : cleanL (rows.map eRoF) = true := by
  rw [cleanL_all]
  simp only [List.all_map, List.all_eq_true]
  exact fun r _ => cl_rof r
noncomputable abbrev rt1 : Sl → R D := eTmp 3 (eComp [4] (.one 4) (iSeq' (eV 3)) (eT) (eBi .tuple (aC (eLst (aC (eO (eIx (eV 4) (eK (.int 0)))) (aC (eBi .tuple (aC (eIx (eV 4) (eK (.int 1))) (aN))) (aC (eO (eIx (eV 4) (eK (.int 2)))) (aN))))) (aN))))
noncomputable abbrev rt2 : Sl → R D := eTmp 3 (eComp [4] (.one 4) (iSeq' (eV 3)) (eT) (eLst (aC (eO (eIx (eV 4) (eK (.int 0)))) (aC (eComp [6] (.one 6) (iSeq' (eIx (eV 4) (eK (.int 1)))) (eT) (eLi (aC (eV 6) (aN)))) (aC (eO (eIx (eV 4) (eK (.int 2)))) (aN))))))
theorem cl_cells (r : Row) : cleanL (r.2.1.map P2) = true := by
  have := cl_sq (cl_t2 cl_int cl_int) r.2.1
  unfold eSq at this
  rwa [clean] at this
theorem nf_rows (rows : Mc) : noFrz (.lst true (rows.map eRow)) = true := by
  rw [noFrz, noFrzL_all]
  simp only [Bool.true_and, List.all_map, List.all_eq_true]
  intro r _
  show noFrz (.tup [eTu r.1, .tup (r.2.1.map P2), eTu r.2.2]) = true
  rw [noFrz, noFrzL, noFrzL, noFrzL, noFrzL, nf_tu, nf_tu, noFrz, nf_pairs]
  rfl
theorem nf_rls (rows : Mc) : noFrz (.lst true (rows.map eRl)) = true := by
  rw [noFrz, noFrzL_all]
  simp only [Bool.true_and, List.all_map, List.all_eq_true]
  intro r _
  show noFrz (.lst true [eTu r.1, .lst true (r.2.1.map eCel), eTu r.2.2]) = true
  rw [noFrz, noFrzL, noFrzL, noFrzL, noFrzL, nf_tu, nf_tu, noFrz]
  have : noFrzL (r.2.1.map eCel) = true := by
    rw [noFrzL_all]
    simp only [List.all_map, List.all_eq_true]
    exact fun c _ => rfl
  rw [this]
  rfl
theorem rt1_ok (s n k : D) (rows : Mc) (x4 x5 x6 : Option D) (hl : rows.length ≤ 1000) : rt1 [some s, some n, some k, some (.lst true (rows.map eRo)), x4, x5, x6] = .ok (.lst true (rows.map eRow)) := by
  have e : eComp [4] (.one 4) (iSeq' (eV 3)) (eT) (eBi .tuple (aC (eLst (aC (eO (eIx (eV 4) (eK (.int 0)))) (aC (eBi .tuple (aC (eIx (eV 4) (eK (.int 1))) (aN))) (aC (eO (eIx (eV 4) (eK (.int 2)))) (aN))))) (aN))) [some s, some n, some k, some (frz (.lst true (rows.map eRo))), x4, x5, x6] = .ok (.lst true (rows.map eRow)) := by
    refine ecomp_rows rows (a := eRoF) ?_ (fun r hr => ?_) (by omega)
    · rw [frz_ros]
      exact if_pos (cl_rofs rows)
    · let σ : Sl := [some s, some n, some k, some (frz (.lst true (rows.map eRo))), some (eRoF r), x5, x6]
      have i0 : eO (eIx (eV 4) (eK (.int 0))) σ = .ok (eTu r.1) := if_pos (cl_tu _)
      have i2 : eO (eIx (eV 4) (eK (.int 2))) σ = .ok (eTu r.2.2) := if_pos (cl_tu _)
      have i1 : eBi .tuple (aC (eIx (eV 4) (eK (.int 1))) (aN)) σ = .ok (eSq P2 r.2.1) := if_pos (cl_cells r)
      show noErr ((eBi .tuple _ σ).bind fun y => .ok (some y)) = _
      have i4 : eLst (aC (eO (eIx (eV 4) (eK (.int 0)))) (aC (eBi .tuple (aC (eIx (eV 4) (eK (.int 1))) (aN))) (aC (eO (eIx (eV 4) (eK (.int 2)))) (aN)))) σ = .ok (.lst true [eTu r.1, eSq P2 r.2.1, eTu r.2.2]) := by
        rw [u_eLst, u_aC, i0, R.bind_ok, u_aC, i1, R.bind_ok, u_aC, i2, R.bind_ok]
        simp only [u_aN, R.bind_ok, tupOf_tup]
        rw [if_pos (show ([eTu r.1, eSq P2 r.2.1, eTu r.2.2] : List D).length ≤ sizeLine from le_line (show 3 ≤ 1000000 by decide))]
      rw [u_eBi, u_aC, i4]
      show noErr ((if cleanL [eTu r.1, eSq P2 r.2.1, eTu r.2.2] = true then R.ok (D.tup [eTu r.1, eSq P2 r.2.1, eTu r.2.2]) else .bad).bind fun y => .ok (some y)) = _
      rw [if_pos (by have := cl_row r; unfold eRow eT3 at this; rwa [clean] at this)]
      rfl
  show (match eComp [4] (.one 4) (iSeq' (eV 3)) (eT) (eBi .tuple (aC (eLst (aC (eO (eIx (eV 4) (eK (.int 0)))) (aC (eBi .tuple (aC (eIx (eV 4) (eK (.int 1))) (aN))) (aC (eO (eIx (eV 4) (eK (.int 2)))) (aN))))) (aN))) [some s, some n, some k, some (frz (.lst true (rows.map eRo))), x4, x5, x6] with
    | .ok r => if noFrz r = true then R.ok r else .bad
    | _ => .bad) = _
  rw [e]
  exact if_pos (nf_rows rows)
theorem rt2_ok (s n k : D) (rows : Mc) (x4 x5 x6 : Option D) (hl : rows.length ≤ 1000) (hc : ∀ r ∈ rows, r.2.1.length ≤ 1000) : rt2 [some s, some n, some k, some (.lst true (rows.map eRo)), x4, x5, x6] = .ok (.lst true (rows.map eRl)) := by
  have e : eComp [4] (.one 4) (iSeq' (eV 3)) (eT) (eLst (aC (eO (eIx (eV 4) (eK (.int 0)))) (aC (eComp [6] (.one 6) (iSeq' (eIx (eV 4) (eK (.int 1)))) (eT) (eLi (aC (eV 6) (aN)))) (aC (eO (eIx (eV 4) (eK (.int 2)))) (aN))))) [some s, some n, some k, some (frz (.lst true (rows.map eRo))), x4, x5, x6] = .ok (.lst true (rows.map eRl)) := by
    refine ecomp_rows rows (a := eRoF) ?_ (fun r hr => ?_) (by omega)
    · rw [frz_ros]
      exact if_pos (cl_rofs rows)
    · let σ : Sl := [some s, some n, some k, some (frz (.lst true (rows.map eRo))), some (eRoF r), x5, x6]
      have i0 : eO (eIx (eV 4) (eK (.int 0))) σ = .ok (eTu r.1) := if_pos (cl_tu _)
      have i2 : eO (eIx (eV 4) (eK (.int 2))) σ = .ok (eTu r.2.2) := if_pos (cl_tu _)
      have i1 : eComp [6] (.one 6) (iSeq' (eIx (eV 4) (eK (.int 1)))) (eT) (eLi (aC (eV 6) (aN))) σ = .ok (.lst true (r.2.1.map eCel)) := by
        refine ecomp_rows r.2.1 (a := P2) ?_ (fun c _ => ?_) (by have := hc r hr; omega)
        · exact if_pos (cl_cells r)
        · rfl
      show noErr ((eLst _ σ).bind fun y => .ok (some y)) = _
      have i4 : eLst (aC (eO (eIx (eV 4) (eK (.int 0)))) (aC (eComp [6] (.one 6) (iSeq' (eIx (eV 4) (eK (.int 1)))) (eT) (eLi (aC (eV 6) (aN)))) (aC (eO (eIx (eV 4) (eK (.int 2)))) (aN)))) σ = .ok (.lst true [eTu r.1, .lst true (r.2.1.map eCel), eTu r.2.2]) := by
        rw [u_eLst, u_aC, i0, R.bind_ok, u_aC, i1, R.bind_ok, u_aC, i2, R.bind_ok]
        simp only [u_aN, R.bind_ok, tupOf_tup]
        rw [if_pos (show ([eTu r.1, .lst true (r.2.1.map eCel), eTu r.2.2] : List D).length ≤ sizeLine from le_line (show 3 ≤ 1000000 by decide))]
      rw [i4]
      rfl
  show (match eComp [4] (.one 4) (iSeq' (eV 3)) (eT) (eLst (aC (eO (eIx (eV 4) (eK (.int 0)))) (aC (eComp [6] (.one 6) (iSeq' (eIx (eV 4) (eK (.int 1)))) (eT) (eLi (aC (eV 6) (aN)))) (aC (eO (eIx (eV 4) (eK (.int 2)))) (aN))))) [some s, some n, some k, some (frz (.lst true (rows.map eRo))), x4, x5, x6] with
    | .ok r => if noFrz r = true then R.ok r else .bad
    | _ => .bad) = _
  rw [e]
  exact if_pos (nf_rls rows)
theorem rowsD (ms : List Int) (n k : Nat) (hn : n ≤ 61) (hk : k ≤ 3) : ∃ rows : Mc, rows.length = n ∧ (∀ r ∈ rows, r.2.1.length ≤ 52) ∧
    (h_l_rows [scD ms, .int (n : Int), .int (k : Int)] = .ok (.lst true (rows.map eRow)) ∨ h_l_rows [scD ms, .int (n : Int), .int (k : Int)] = .ok (.lst true (rows.map eRl))) := by
  obtain ⟨m, hm, mo⟩ := mach_drawn (cutL ms (some 4) none) hn hk
  have t := tf_l_machine (cutL ms (some 4) none) (n : Int) (k : Int)
  rw [hm] at t
  have ecut : cutL (ms.map D.int) (some 4) none = (cutL ms (some 4) none).map D.int := by
    unfold cutL
    rw [List.length_map, List.map_take, List.map_drop]
  let σ0 : Sl := [some (scD ms), some (.int (n : Int)), some (.int (k : Int)), some (.lst true []), none, none, none]
  have e0 : eF h_l_machine (aC (eSl (eV 0) false (eK (.int 4)) true (eK .non)) (aC (eV 1) (aC (eV 2) (aN)))) σ0 = .ok (eSq eRow m) := by
    refine fe_3 (a := .lst true ((cutL ms (some 4) none).map D.int)) ?_ rfl rfl (by rw [frz_ints]; exact t) ?_
    · show slD (.lst false (ms.map D.int)) (some 4) none = _
      rw [← ecut]
      refine if_pos ?_
      rw [cleanL_all]; simp
    · have := nf_rows m
      unfold eSq
      rw [noFrz]
      rw [noFrz] at this
      simpa using this
  have e1 : iSeq' (eF h_l_machine (aC (eSl (eV 0) false (eK (.int 4)) true (eK .non)) (aC (eV 1) (aC (eV 2) (aN))))) σ0 = .ok (m.map eRow) := by
    rw [u_iSeqq, e0]
    refine if_pos ?_
    have := cl_sq cl_row m
    unfold eSq at this
    rwa [clean] at this
  obtain ⟨x4, e2⟩ := app_loop (scD ms) (.int (n : Int)) (.int (k : Int)) none none m [] none (by have := mo.len; simp; omega)
  rw [List.nil_append, List.map_nil] at e2
  let σ1 : Sl := [some (scD ms), some (.int (n : Int)), some (.int (k : Int)), some (.lst true (m.map eRo)), x4, none, none]
  obtain ⟨z, e3⟩ := cellD (σ := σ1) (f := eV 0) (k := eK (.int 2)) (o := false) (ms := ms) rfl rfl (by decide)
  have z0 := Int.emod_nonneg z (show (4 : Int) ≠ 0 by decide)
  have z1 := Int.emod_lt_of_pos z (show (0 : Int) < 4 by decide)
  have hsrc : ∃ mm : Nat, mm ≤ 3 ∧ (n = 0 → mm = 0) ∧ iR1 (aC (eB .mul (eB .mod (eF h_l_cell (aC (eV 0) (aC (eK (.int 2)) (aN)))) (eK (.int 4))) (eBi .int (aC (eC .gt (eV 1) (eK (.int 0))) (aN)))) (aN)) σ1 = .ok (rngL 0 mm) := by
    have e4 : eB .mod (eF h_l_cell (aC (eV 0) (aC (eK (.int 2)) (aN)))) (eK (.int 4)) σ1 = .ok (.int (z % 4)) := by
      rw [u_eB, e3, R.bind_ok, u_eK, R.bind_ok, binD_md (by decide)]
    have e5 : eBi .int (aC (eC .gt (eV 1) (eK (.int 0))) (aN)) σ1 = .ok (.int (if decide ((0 : Int) < (n : Int)) = true then 1 else 0)) := rfl
    have e6 : (eB .mul (eB .mod (eF h_l_cell (aC (eV 0) (aC (eK (.int 2)) (aN)))) (eK (.int 4))) (eBi .int (aC (eC .gt (eV 1) (eK (.int 0))) (aN)))) σ1 = .ok (.int (z % 4 * (if decide ((0 : Int) < (n : Int)) = true then 1 else 0))) := by
      rw [u_eB, e4, R.bind_ok, e5, R.bind_ok, binD_mulL _ _ (by omega) (by omega)]
    refine ⟨(z % 4 * (if decide ((0 : Int) < (n : Int)) = true then 1 else 0)).toNat, ?_, ?_, ?_⟩
    · split <;> omega
    · intro h; subst h; rw [if_neg (by decide)]; omega
    · rw [u_iR1, u_aC, e6]
      show (if small62 _ = true then _ else _) = _
      rw [small62_of (by split <;> omega) (by split <;> omega), if_pos rfl]
  obtain ⟨mm, hmm, hm0, e4⟩ := hsrc
  have lp : ∃ (rows' : Mc) (x4' x5' x6' : Option D), rows'.length = n ∧ (∀ r ∈ rows', r.2.1.length ≤ 52) ∧ fr (.one 5) bod2 (rngL 0 mm) σ1 = .nx [some (scD ms), some (.int (n : Int)), some (.int (k : Int)), some (.lst true (rows'.map eRo)), x4', x5', x6'] := by
    by_cases h : n = 0
    · rw [hm0 h]
      exact ⟨m, x4, none, none, mo.len, fun r hr => by have := (mo.rows r hr).len; omega, rfl⟩
    · exact bod2_loop ms n (.int (k : Int)) (by omega) x4 none none m mo.len (fun r hr => by have := (mo.rows r hr).len; omega) mm hmm
  obtain ⟨rows, x4', x5', x6', h1, h2, e5⟩ := lp
  refine ⟨rows, h1, h2, ?_⟩
  let σ2 : Sl := [some (scD ms), some (.int (n : Int)), some (.int (k : Int)), some (.lst true (rows.map eRo)), x4', x5', x6']
  obtain ⟨w, e6⟩ := cellD (σ := σ2) (f := eV 0) (k := eK (.int 2)) (o := false) (ms := ms) rfl rfl (by decide)
  have e7 : (eC .eq (eB .mod (eB .fdiv (eF h_l_cell (aC (eV 0) (aC (eK (.int 2)) (aN)))) (eK (.int 4))) (eK (.int 2))) (eK (.int 1))) σ2 = .ok (.bl (decide (w / 4 % 2 = 1))) := by
    rw [u_eC, u_eB, u_eB, e6, R.bind_ok, u_eK, R.bind_ok, binD_fdiv _ _ (by decide) (by decide), R.bind_ok, u_eK, R.bind_ok, binD_md (by decide), R.bind_ok, u_eK, R.bind_ok, cmpD_eq, eqD_int]; rfl
  have hrt1 := rt1_ok (scD ms) (.int (n : Int)) (.int (k : Int)) rows x4' x5' x6' (by omega)
  have hrt2 := rt2_ok (scD ms) (.int (n : Int)) (.int (k : Int)) rows x4' x5' x6' (by omega) (fun r hr => by have := h2 r hr; omega)
  have step : b_l_rows [some (scD ms), some (.int (n : Int)), some (.int (k : Int)), none, none, none, none] = (sSeq (sIf (eC .eq (eB .mod (eB .fdiv (eF h_l_cell (aC (eV 0) (aC (eK (.int 2)) (aN)))) (eK (.int 4))) (eK (.int 2))) (eK (.int 1))) (sRet rt1) (sSkip)) <| sRet rt2) σ2 := by
    show (rS (iSeq' _ σ0) σ0 fun xs => fr (.one 4) appF xs σ0).andThen _ = _
    rw [e1, rS_ok, e2, then_nx]
    show (rS (iR1 _ σ1) σ1 fun xs => fr (.one 5) bod2 xs σ1).andThen _ = _
    rw [e4, rS_ok, e5, then_nx]
  show resR (b_l_rows [some (scD ms), some (.int (n : Int)), some (.int (k : Int)), none, none, none, none]) = _ ∨ resR (b_l_rows [some (scD ms), some (.int (n : Int)), some (.int (k : Int)), none, none, none, none]) = _
  rw [step, u_sSeq, u_sIf, e7, rS_ok, cond_bl]
  by_cases q : w / 4 % 2 = 1
  · rw [if_pos (decide_eq_true q)]
    left
    rw [u_sRet, hrt1]
    rfl
  · rw [if_neg (by simpa using q)]
    right
    show resR (sRet rt2 σ2) = _
    rw [u_sRet, hrt2]
    rfl
end DI
namespace DI
open PySem
theorem asked_ok (x d : D) (h : h_p_machine_of [frz x] = .ok d) (hc : noFrz d = true) (hn : isNon d = false) : h_l_asked [x] = .ok d := by
  have e1 : eF h_p_machine_of (aC (eV 0) (aN)) [some x, some .non, some .non, none, none] = .ok d := fe_1 rfl h hc
  show resR (sKeep 4 _ _ _ _ _ _ [some x, some .non, some .non, none, none]) = _
  unfold sKeep
  rw [u_sSet, e1]
  rfl
theorem asked_er (x : D) (part room : D) (h : h_p_machine_of [frz x] = .err 2 [room, part]) (c1 : clean room = true) (c2 : clean part = true) (nx1 : noX room = true) (nx2 : noX part = true) : h_l_asked [x] = .ok (.lst true [part, room]) := by
  have e1 : eF h_p_machine_of (aC (eV 0) (aN)) [some x, some .non, some .non, none, none] = .err 2 [room, part] := by
    show (h_p_machine_of (frzL [x])).bind _ = _
    rw [frzL, frzL, h]
    rfl
  show resR (sKeep 4 _ _ _ _ _ _ [some x, some .non, some .non, none, none]) = _
  unfold sKeep
  rw [u_sSet, e1]
  simp only [rS_err]
  rw [if_pos (by decide), if_pos (by decide)]
  have hcl : clean (.obj 2 [room, part]) = true := by rw [clean, cleanL, cleanL, cleanL, c1, c2]; rfl
  have e2 : sSet 1 (eO (eV 4)) [some x, some .non, some .non, none, some (.obj 2 [room, part])] = .nx [some x, some (.obj 2 [room, part]), some .non, none, some (.obj 2 [room, part])] := by
    show rS (if clean (.obj 2 [room, part]) = true then R.ok (D.obj 2 [room, part]) else .bad) _ _ = _
    rw [if_pos hcl]
    rfl
  show resR (match (match sSet 1 (eO (eV 4)) [some x, some .non, some .non, none, some (.obj 2 [room, part])] with
      | .nx σ2 => _
      | _ => RS.bad) with | r => r) = _
  rw [e2]
  have i1 : eO (eXf tE "part" (eV 1)) [some x, some (.obj 2 [room, part]), some .non, some (.bl false), none] = .ok part := if_pos c2
  have i2 : eO (eXf tE "room" (eV 1)) [some x, some (.obj 2 [room, part]), some .non, some (.bl false), none] = .ok room := if_pos c1
  have e3 : eLst (aC (eO (eXf tE "part" (eV 1))) (aC (eO (eXf tE "room" (eV 1))) (aN))) [some x, some (.obj 2 [room, part]), some .non, some (.bl false), none] = .ok (.lst true [part, room]) := by
    rw [u_eLst, u_aC, i1, R.bind_ok, u_aC, i2, R.bind_ok]
    simp only [u_aN, R.bind_ok, tupOf_tup]
    exact if_pos (show ([part, room] : List D).length ≤ sizeLine from le_line (show 2 ≤ 1000000 by decide))
  show resR (match rS (eLst (aC (eO (eXf tE "part" (eV 1))) (aC (eO (eXf tE "room" (eV 1))) (aN))) [some x, some (.obj 2 [room, part]), some .non, some (.bl false), none]) [some x, some (.obj 2 [room, part]), some .non, some (.bl false), none] .rt with
      | .rt d => if noX d = true then .rt d else .bad
      | _ => .bad) = _
  rw [e3, rS_ok]
  show resR (if noX (.lst true [part, room]) = true then .rt _ else .bad) = _
  rw [if_pos (by rw [noX, noXL, noXL, noXL, nx1, nx2]; rfl)]
  rfl
end DI
namespace DI
open PySem
theorem eq_mc (a b : Mc) : eqD (eSq eRow a) (eSq eRow b) = .ok (decide (a = b)) := eqD_ty (py_sq (py_t3 py_tu (py_sq (py_t2 py_int py_int)) py_tu)) (py_sq (py_t3 py_tu (py_sq (py_t2 py_int py_int)) py_tu)) (pq_sq (pq_t3 pq_tu (pq_sq (pq_t2 pq_int pq_int)) pq_tu)) (by decide) (by decide) a b
theorem eq_ans (w : St) (j : Int) : eqD (.lst true [eSt w, .int j]) (.lst true [eSt w, .int j]) = .ok true := by
  have := eqD_ty (e := eLs true eTu) (e' := eLs true eTu) (py_ls py_tu) (py_ls py_tu) (pq_ls pq_tu) (by decide) (by decide) [Sum.inr w, Sum.inl j] [Sum.inr w, Sum.inl j]
  rw [decide_eq_true rfl] at this
  exact this
theorem fault_none {rows : Mc} (h : faultV rows = none) : ∃ r rs, rows = r :: rs := by
  cases rows with
  | nil => cases h
  | cons r rs => exact ⟨r, rs, rfl⟩
theorem elst_ok {f : Sl → R D} {σ : Sl} {xs : List D} (e : f σ = .ok (.tup xs)) (h : xs.length ≤ 1000000) : eLst f σ = .ok (.lst true xs) := by
  rw [u_eLst, e, R.bind_ok, tupOf_tup, R.bind_ok, if_pos (le_line h)]
theorem lt_of_get' {α : Type} {xs : List α} {i : Nat} {x : α} (h : xs[i]? = some x) : i < xs.length := (List.getElem?_eq_some_iff.mp h).1
theorem sub2_ok {i j k : Nat} {fc f2 fe : Sl → R D} {σ : Sl} {xs ys zs : List D} {u : D} (e1 : getS σ i = .ok (.lst true xs)) (e2 : fc σ = .ok (.int (j : Int))) (hj : xs[j]? = some (.lst true ys)) (e3 : f2 σ = .ok (.int (k : Int))) (hk : ys[k]? = some (.lst true zs)) (e4 : fe σ = .ok u) (h1 : zs.length < 1000000) (h2 : clean u = true) :
    sSub2App i fc f2 fe σ = .nx (σ.set i (some (.lst true (xs.set j (.lst true (ys.set k (.lst true (zs ++ [u])))))))) := by
  unfold sSub2App
  rw [e1, R.bind_ok, lstOf_lst, rS_ok, e2, rS_ok, intOf_int, rS_ok, ixN_nat (lt_of_get' hj), ofR_some, rS_ok, hj, ofR_some, rS_ok, lstOf_lst, rS_ok, e3, rS_ok, intOf_int, rS_ok, ixN_nat (lt_of_get' hk), ofR_some, rS_ok, hk, ofR_some, rS_ok, lstOf_lst, rS_ok, e4, rS_ok, if_pos ⟨lt_line h1, h2⟩]
theorem subp_ok {i j k : Nat} {fc fk fe : Sl → R D} {σ : Sl} {xs ys : List D} {y : D} (e0 : fe σ = .ok y) (e1 : getS σ i = .ok (.lst true xs)) (e2 : fc σ = .ok (.int (j : Int))) (hj : xs[j]? = some (.lst true ys)) (e3 : fk σ = .ok (.int (k : Int))) (hk : k < ys.length) (h2 : clean y = true) :
    sSubPutG i fc fk fe σ = .nx (σ.set i (some (.lst true (xs.set j (.lst true (ys.set k y)))))) := by
  unfold sSubPutG
  rw [e0, rS_ok, e1, R.bind_ok, lstOf_lst, rS_ok, e2, rS_ok, intOf_int, rS_ok, ixN_nat (lt_of_get' hj), ofR_some, rS_ok, hj, ofR_some, rS_ok, lstOf_lst, rS_ok, e3, rS_ok, intOf_int, rS_ok, ixN_nat hk, ofR_some, rS_ok, if_pos h2]
structure Rd (rows : Mc) (rd : D) : Prop where
  nf : noFrz rd = true
  fz : frz (frz rd) = frz rd
  pl : h_l_plain [frz rd] = .ok (eSq eRow rows)
  fa : h_l_fault [frz rd] = .ok (eOp (eT2 eSt D.int) (faultV rows))
  mo : Rf (h_p_machine_of [frz rd]) (match faultV rows with
    | none => .ok rows
    | some p => .err 2 [D.int p.2, eSt p.1]) (eSq eRow)
noncomputable abbrev endB : SF := sIf (eAnd (eC .isN (eV 4) (eK (.non))) (eIsi .list (eIx (eV 2) (eK (.int 0)))))
    (sSeq (sSub2App 2 (eK (.int 0)) (eK (.int 1)) (eFrz (eLst (aC (eK (.int 0)) (aC (eK (.int 1)) (aN)))))) <|
    sSubPutG 2 (eK (.int 0)) (eK (.int 0)) (eK (.str "in")))
    (sSkip)
noncomputable abbrev bodA : SF := sSeq (sSet 6 (eF h_l_asked (aC (eV 2) (aN)))) <|
    sSeq (sIf (eAnd (eC .notN (eV 4) (eK (.non))) (eC .ne (eV 6) (eLst (aC (eO (eIx (eV 4) (eK (.int 0)))) (aC (eO (eIx (eV 4) (eK (.int 1)))) (aN))))))
      (sRet (eK (.bl false)))
      (sSkip)) <|
    sIf (eAnd (eC .isN (eV 4) (eK (.non))) (eOr (eC .ne (eV 6) (eV 3)) (eC .ne (eF h_p_signs_of (aC (eV 6) (aN))) (eBi .len (aC (eIx (eIx (eV 3) (eK (.int 0))) (eK (.int 1))) (aN))))))
      (sRet (eK (.bl false)))
      (sSkip)
def fouD (rows : Mc) : D := match faultV rows with
  | none => eSq eRow rows
  | some p => .lst true [eSt p.1, .int p.2]
theorem nf_mc (rows : Mc) : noFrz (eSq eRow rows) = true := by
  have := nf_rows rows
  unfold eSq
  rw [noFrz]
  rw [noFrz] at this
  simpa using this
theorem asked_rd {rows : Mc} {rd : D} (rr : Rd rows rd) : h_l_asked [frz rd] = .ok (fouD rows) := by
  have m := rr.mo
  unfold fouD
  cases h : faultV rows with
  | none =>
    rw [h] at m
    exact asked_ok _ _ (by rw [rr.fz]; exact m) (nf_mc rows) rfl
  | some p =>
    rw [h] at m
    exact asked_er _ (eSt p.1) (.int p.2) (by rw [rr.fz]; exact m) rfl rfl rfl rfl
theorem bodA_ok {rows : Mc} {rd : D} (rr : Rd rows rd) (s n : D) (x5 x6 : Option D) : bodA [some s, some n, some rd, some (eSq eRow rows), some (eOp (eT2 eSt D.int) (faultV rows)), x5, x6] = .nx [some s, some n, some rd, some (eSq eRow rows), some (eOp (eT2 eSt D.int) (faultV rows)), x5, some (fouD rows)] := by
  have e1 : eF h_l_asked (aC (eV 2) (aN)) [some s, some n, some rd, some (eSq eRow rows), some (eOp (eT2 eSt D.int) (faultV rows)), x5, x6] = .ok (fouD rows) := fe_1 rfl (asked_rd rr) (by
    unfold fouD
    cases faultV rows with
    | none => exact nf_mc rows
    | some p => rfl)
  show (sSet 6 _ _).andThen _ = _
  rw [u_sSet, e1, rS_ok, then_nx]
  let σ : Sl := [some s, some n, some rd, some (eSq eRow rows), some (eOp (eT2 eSt D.int) (faultV rows)), x5, some (fouD rows)]
  show (sIf _ _ _ σ).andThen _ = _
  rw [u_sIf]
  cases h : faultV rows with
  | none =>
    obtain ⟨r, rs, rfl⟩ := fault_none h
    have hf : fouD (r :: rs) = eSq eRow (r :: rs) := by unfold fouD; rw [h]
    have c1 : (eAnd (eC .notN (eV 4) (eK (.non))) (eC .ne (eV 6) (eLst (aC (eO (eIx (eV 4) (eK (.int 0)))) (aC (eO (eIx (eV 4) (eK (.int 1)))) (aN)))))) σ = .ok (.bl false) := by
      show (eAnd _ _) [some s, some n, some rd, some (eSq eRow (r :: rs)), some (eOp (eT2 eSt D.int) (faultV (r :: rs))), x5, some (fouD (r :: rs))] = _
      rw [h]
      rfl
    rw [c1, rS_ok, cond_bl, if_neg (by decide)]
    show sIf _ _ _ σ = _
    have t := tf_p_signs_of (r :: rs)
    have e0 : f_p_signs_of (r :: rs) = .ok (r.2.1.length : Int) := by
      unfold f_p_signs_of
      rw [show ofR (L2.atI (r :: rs) 0) = R.ok r from at_get (by decide) rfl]
      rfl
    rw [e0] at t
    have c2 : (eAnd (eC .isN (eV 4) (eK (.non))) (eOr (eC .ne (eV 6) (eV 3)) (eC .ne (eF h_p_signs_of (aC (eV 6) (aN))) (eBi .len (aC (eIx (eIx (eV 3) (eK (.int 0))) (eK (.int 1))) (aN)))))) σ = .ok (.bl false) := by
      show (eAnd _ _) [some s, some n, some rd, some (eSq eRow (r :: rs)), some (eOp (eT2 eSt D.int) (faultV (r :: rs))), x5, some (fouD (r :: rs))] = _
      rw [h, hf]
      have q1 : (eC .ne (eV 6) (eV 3)) [some s, some n, some rd, some (eSq eRow (r :: rs)), some (eOp (eT2 eSt D.int) none), x5, some (eSq eRow (r :: rs))] = .ok (.bl false) := by
        show blR (cmpD .ne (eSq eRow (r :: rs)) (eSq eRow (r :: rs))) = _
        rw [cmpD_ne, eq_mc, decide_eq_true rfl]
        rfl
      have q2 : eF h_p_signs_of (aC (eV 6) (aN)) [some s, some n, some rd, some (eSq eRow (r :: rs)), some (eOp (eT2 eSt D.int) none), x5, some (eSq eRow (r :: rs))] = .ok (.int (r.2.1.length : Int)) := fe_1 rfl (by rw [frz_clean _ (cl_sq cl_row _)]; exact t) rfl
      have q3 : eBi .len (aC (eIx (eIx (eV 3) (eK (.int 0))) (eK (.int 1))) (aN)) [some s, some n, some rd, some (eSq eRow (r :: rs)), some (eOp (eT2 eSt D.int) none), x5, some (eSq eRow (r :: rs))] = .ok (.int (r.2.1.length : Int)) := by
        have i0 : (eIx (eV 3) (eK (.int 0))) [some s, some n, some rd, some (eSq eRow (r :: rs)), some (eOp (eT2 eSt D.int) none), x5, some (eSq eRow (r :: rs))] = .ok (eRow r) := by
          show ofR (L2.atI ((r :: rs).map eRow) 0) = _
          exact at_get (by decide) rfl
        rw [u_eBi, u_aC, u_eIx, i0, R.bind_ok, u_eK, R.bind_ok]
        show R.ok (D.int ((r.2.1.map P2).length : Int)) = _
        rw [List.length_map]
      rw [u_eAnd, show eC .isN (eV 4) (eK .non) [some s, some n, some rd, some (eSq eRow (r :: rs)), some (eOp (eT2 eSt D.int) none), x5, some (eSq eRow (r :: rs))] = .ok (.bl true) from rfl, R.bind_ok, boolOf_bl, R.bind_ok, if_pos rfl, u_eOr, q1, R.bind_ok, boolOf_bl, R.bind_ok, if_neg (by decide), u_eC, q2, R.bind_ok, q3, R.bind_ok, cmpD_ne, eqD_int, decide_eq_true rfl]
      rfl
    rw [u_sIf, c2, rS_ok, cond_bl, if_neg (by decide)]
    show RS.nx σ = _
    show RS.nx [some s, some n, some rd, some (eSq eRow (r :: rs)), some (eOp (eT2 eSt D.int) (faultV (r :: rs))), x5, some (fouD (r :: rs))] = _
    rw [h]
  | some p =>
    have hf : fouD rows = .lst true [eSt p.1, .int p.2] := by unfold fouD; rw [h]
    have c1 : (eAnd (eC .notN (eV 4) (eK (.non))) (eC .ne (eV 6) (eLst (aC (eO (eIx (eV 4) (eK (.int 0)))) (aC (eO (eIx (eV 4) (eK (.int 1)))) (aN)))))) σ = .ok (.bl false) := by
      show (eAnd _ _) [some s, some n, some rd, some (eSq eRow rows), some (eOp (eT2 eSt D.int) (faultV rows)), x5, some (fouD rows)] = _
      rw [h, hf]
      have q : eLst (aC (eO (eIx (eV 4) (eK (.int 0)))) (aC (eO (eIx (eV 4) (eK (.int 1)))) (aN))) [some s, some n, some rd, some (eSq eRow rows), some (eOp (eT2 eSt D.int) (some p)), x5, some (.lst true [eSt p.1, .int p.2])] = .ok (.lst true [eSt p.1, .int p.2]) := by
        have i0 : eO (eIx (eV 4) (eK (.int 0))) [some s, some n, some rd, some (eSq eRow rows), some (eOp (eT2 eSt D.int) (some p)), x5, some (.lst true [eSt p.1, .int p.2])] = .ok (eSt p.1) := rfl
        have i1 : eO (eIx (eV 4) (eK (.int 1))) [some s, some n, some rd, some (eSq eRow rows), some (eOp (eT2 eSt D.int) (some p)), x5, some (.lst true [eSt p.1, .int p.2])] = .ok (.int p.2) := rfl
        rw [u_eLst, u_aC, i0, R.bind_ok, u_aC, i1, R.bind_ok]
        simp only [u_aN, R.bind_ok, tupOf_tup]
        exact if_pos (show ([eSt p.1, .int p.2] : List D).length ≤ sizeLine from le_line (show 2 ≤ 1000000 by decide))
      rw [u_eAnd, show eC .notN (eV 4) (eK .non) [some s, some n, some rd, some (eSq eRow rows), some (eOp (eT2 eSt D.int) (some p)), x5, some (.lst true [eSt p.1, .int p.2])] = .ok (.bl true) from rfl, R.bind_ok, boolOf_bl, R.bind_ok, if_pos rfl, u_eC, q]
      show ((blR (cmpD .ne (.lst true [eSt p.1, .int p.2]) (.lst true [eSt p.1, .int p.2]))).bind _) = _
      rw [cmpD_ne, eq_ans]
      rfl
    rw [c1, rS_ok, cond_bl, if_neg (by decide)]
    show sIf _ _ _ σ = _
    have c2 : (eAnd (eC .isN (eV 4) (eK (.non))) (eOr (eC .ne (eV 6) (eV 3)) (eC .ne (eF h_p_signs_of (aC (eV 6) (aN))) (eBi .len (aC (eIx (eIx (eV 3) (eK (.int 0))) (eK (.int 1))) (aN)))))) σ = .ok (.bl false) := by
      show (eAnd _ _) [some s, some n, some rd, some (eSq eRow rows), some (eOp (eT2 eSt D.int) (faultV rows)), x5, some (fouD rows)] = _
      rw [h]
      rfl
    rw [u_sIf, c2, rS_ok, cond_bl, if_neg (by decide)]
    show RS.nx [some s, some n, some rd, some (eSq eRow rows), some (eOp (eT2 eSt D.int) (faultV rows)), x5, some (fouD rows)] = _
    rw [h]
theorem many_ok {z : Int} (h0 : 0 ≤ z) (h1 : z < 12) : ∃ n : Nat, n ≤ 61 ∧ ofR (L2.atI ([.int 1, .int 2, .int 3, .int 4, .int 5, .int 6, .int 0, .int 60, .int 61, .int 59, .int 2, .int 3] : List D) z) = .ok (.int (n : Int)) := by
  rcases (show z = 0 ∨ z = 1 ∨ z = 2 ∨ z = 3 ∨ z = 4 ∨ z = 5 ∨ z = 6 ∨ z = 7 ∨ z = 8 ∨ z = 9 ∨ z = 10 ∨ z = 11 by omega) with rfl | rfl | rfl | rfl | rfl | rfl | rfl | rfl | rfl | rfl | rfl | rfl
  · exact ⟨1, by decide, rfl⟩
  · exact ⟨2, by decide, rfl⟩
  · exact ⟨3, by decide, rfl⟩
  · exact ⟨4, by decide, rfl⟩
  · exact ⟨5, by decide, rfl⟩
  · exact ⟨6, by decide, rfl⟩
  · exact ⟨0, by decide, rfl⟩
  · exact ⟨60, by decide, rfl⟩
  · exact ⟨61, by decide, rfl⟩
  · exact ⟨59, by decide, rfl⟩
  · exact ⟨2, by decide, rfl⟩
  · exact ⟨3, by decide, rfl⟩
theorem end_ok {rows : Mc} {s n : D} {xs : List D} {x5 : Option D} (hl : xs.length ≤ 1000)
    (hE : ∃ ys, ys.length ≤ 1000 ∧ endB [some s, some n, some (.lst true xs), some (eSq eRow rows), some (eOp (eT2 eSt D.int) (faultV rows)), x5, some (fouD rows)] = .nx [some s, some n, some (.lst true ys), some (eSq eRow rows), some (eOp (eT2 eSt D.int) (faultV rows)), x5, some (fouD rows)]) :
    resR ((sSeq endB <| sSeq (sApp 2 (eK (.non))) <| sRet (eO (eOr (eC .notN (eV 4) (eK (.non))) (eC .eq (eV 6) (eV 3))))) [some s, some n, some (.lst true xs), some (eSq eRow rows), some (eOp (eT2 eSt D.int) (faultV rows)), x5, some (fouD rows)]) = .ok (.bl true) := by
  obtain ⟨ys, hy, e⟩ := hE
  rw [u_sSeq, e, then_nx, u_sSeq]
  have e2 : sApp 2 (eK (.non)) [some s, some n, some (.lst true ys), some (eSq eRow rows), some (eOp (eT2 eSt D.int) (faultV rows)), x5, some (fouD rows)] = .nx [some s, some n, some (.lst true (ys ++ [.non])), some (eSq eRow rows), some (eOp (eT2 eSt D.int) (faultV rows)), x5, some (fouD rows)] := by
    show (if _ then _ else _) = _
    rw [if_pos (lt_line (by omega))]
    rfl
  rw [e2, then_nx, u_sRet]
  cases h : faultV rows with
  | none =>
    have hf : fouD rows = eSq eRow rows := by unfold fouD; rw [h]
    rw [hf]
    have q : (eC .eq (eV 6) (eV 3)) [some s, some n, some (.lst true (ys ++ [.non])), some (eSq eRow rows), some (eOp (eT2 eSt D.int) none), x5, some (eSq eRow rows)] = .ok (.bl true) := by
      show blR (cmpD .eq (eSq eRow rows) (eSq eRow rows)) = _
      rw [cmpD_eq, eq_mc, decide_eq_true rfl]
      rfl
    rw [u_eO, u_eOr, show eC .notN (eV 4) (eK .non) [some s, some n, some (.lst true (ys ++ [.non])), some (eSq eRow rows), some (eOp (eT2 eSt D.int) none), x5, some (eSq eRow rows)] = .ok (.bl false) from rfl, R.bind_ok, boolOf_bl, R.bind_ok, if_neg (by decide), q]
    rfl
  | some p => rfl
theorem law_core (ns : List Int) (hl : ns.length ≤ 63) : ∃ (ms : List Int) (n k : Nat), n ≤ 61 ∧ k ≤ 3 ∧ ∀ (rows : Mc) (xs : List D), xs.length ≤ 1000 → h_l_rows [scD ms, .int (n : Int), .int (k : Int)] = .ok (.lst true xs) → Rd rows (.lst true xs) →
    (∀ s n x5, ∃ ys, ys.length ≤ 1000 ∧ endB [some s, some n, some (.lst true xs), some (eSq eRow rows), some (eOp (eT2 eSt D.int) (faultV rows)), x5, some (fouD rows)] = .nx [some s, some n, some (.lst true ys), some (eSq eRow rows), some (eOp (eT2 eSt D.int) (faultV rows)), x5, some (fouD rows)]) →
    h_p_law [.lst false (ns.map D.int)] = .ok (.bl true) := by
  obtain ⟨ms, hm, hm1, hm2⟩ := mixed_ok ns
  have t := tf_l_mixed ns 10
  rw [hm] at t
  let σ0 : Sl := [some (scD ns), none, none, none, none, none, none]
  have e0 : eF h_l_mixed (aC (eV 0) (aC (eK (.int 10)) (aN))) σ0 = .ok (.lst true (ms.map D.int)) := fe_2 rfl rfl (by show h_l_mixed [frz (.lst false (ns.map D.int)), .int 10] = _; rw [frz_ints]; exact t) (by
    rw [noFrz, noFrzL_all]; simp)
  let σ1 : Sl := [some (.lst true (ms.map D.int)), none, none, none, none, none, none]
  obtain ⟨z, e1⟩ := cellD (σ := σ1) (f := eV 0) (k := eK (.int 0)) (o := true) (ms := ms) rfl rfl (by decide)
  obtain ⟨n, hn, e2⟩ := many_ok (Int.emod_nonneg z (show (12 : Int) ≠ 0 by decide)) (Int.emod_lt_of_pos z (show (0 : Int) < 12 by decide))
  let σ2 : Sl := [some (.lst true (ms.map D.int)), some (.int (n : Int)), none, none, none, none, none]
  obtain ⟨z1, e3⟩ := cellD (σ := σ2) (f := eV 0) (k := eK (.int 1)) (o := true) (ms := ms) rfl rfl (by decide)
  have y0 := Int.emod_nonneg z1 (show (3 : Int) ≠ 0 by decide)
  have y1 := Int.emod_lt_of_pos z1 (show (0 : Int) < 3 by decide)
  obtain ⟨k, hk⟩ := Int.eq_ofNat_of_zero_le (show 0 ≤ 1 + z1 % 3 by omega)
  refine ⟨ms, n, k, hn, by omega, fun rows xs hxs hr rr hE => ?_⟩
  have e4 : (eO (eIx (eLst (aC (eK (.int 1)) (aC (eK (.int 2)) (aC (eK (.int 3)) (aC (eK (.int 4)) (aC (eK (.int 5)) (aC (eK (.int 6)) (aC (eK (.int 0)) (aC (eK (.int 60)) (aC (eK (.int 61)) (aC (eK (.int 59)) (aC (eK (.int 2)) (aC (eK (.int 3)) (aN)))))))))))))) (eB .mod (eF h_l_cell (aC (eV 0) (aC (eK (.int 0)) (aN)))) (eK (.int 12))))) σ1 = .ok (.int (n : Int)) := by
    rw [u_eO, u_eIx]
    have : (eLst (aC (eK (.int 1)) (aC (eK (.int 2)) (aC (eK (.int 3)) (aC (eK (.int 4)) (aC (eK (.int 5)) (aC (eK (.int 6)) (aC (eK (.int 0)) (aC (eK (.int 60)) (aC (eK (.int 61)) (aC (eK (.int 59)) (aC (eK (.int 2)) (aC (eK (.int 3)) (aN)))))))))))))) σ1 = .ok (.lst true [.int 1, .int 2, .int 3, .int 4, .int 5, .int 6, .int 0, .int 60, .int 61, .int 59, .int 2, .int 3]) := elst_ok rfl (by decide)
    rw [this, R.bind_ok, u_eB, e1, R.bind_ok, u_eK, R.bind_ok, binD_md (by decide), R.bind_ok, idxD_lst, e2]
    rfl
  have e5 : (eF h_l_rows (aC (eV 0) (aC (eV 1) (aC (eB .add (eK (.int 1)) (eB .mod (eF h_l_cell (aC (eV 0) (aC (eK (.int 1)) (aN)))) (eK (.int 3)))) (aN))))) σ2 = .ok (.lst true xs) := fe_3 (c := .int (k : Int)) rfl rfl (by
    rw [u_eB, u_eK, R.bind_ok, u_eB, e3, R.bind_ok, u_eK, R.bind_ok, binD_md (by decide), R.bind_ok, binD_add, hk]) (by rw [frz_ints]; exact hr) rr.nf
  have e6 : ∀ σ : Sl, getS σ 2 = .ok (.lst true xs) → eF h_l_plain (aC (eV 2) (aN)) σ = .ok (eSq eRow rows) := fun σ h => fe_1 h rr.pl (nf_mc rows)
  have e7 : ∀ σ : Sl, getS σ 2 = .ok (.lst true xs) → eF h_l_fault (aC (eV 2) (aN)) σ = .ok (eOp (eT2 eSt D.int) (faultV rows)) := fun σ h => fe_1 h rr.fa (by cases faultV rows <;> rfl)
  show resR (b_p_law σ0) = _
  show resR ((sSet 0 _ σ0).andThen _) = _
  rw [u_sSet, e0, rS_ok, then_nx]
  show resR ((sSet 1 _ σ1).andThen _) = _
  rw [u_sSet, e4, rS_ok, then_nx]
  show resR ((sSet 2 _ σ2).andThen _) = _
  rw [u_sSet, e5, rS_ok, then_nx]
  rw [u_sSeq, u_sSet, e6 _ rfl, rS_ok, then_nx]
  rw [u_sSeq, u_sSet, e7 _ rfl, rS_ok, then_nx]
  let σ4 : Sl := [some (.lst true (ms.map D.int)), some (.int (n : Int)), some (.lst true xs), some (eSq eRow rows), some (eOp (eT2 eSt D.int) (faultV rows)), none, none]
  have lp : fr (.one 5) bodA (rngL 0 2) σ4 = .nx [some (.lst true (ms.map D.int)), some (.int (n : Int)), some (.lst true xs), some (eSq eRow rows), some (eOp (eT2 eSt D.int) (faultV rows)), some (.int (0 + 1)), some (fouD rows)] := by
    show fr (.one 5) bodA [.int (0 + 0), .int (0 + 1)] σ4 = _
    rw [fr]
    show (match bodA [some (.lst true (ms.map D.int)), some (.int (n : Int)), some (.lst true xs), some (eSq eRow rows), some (eOp (eT2 eSt D.int) (faultV rows)), some (.int (0 + 0)), none] with
      | .nx σ' => fr (.one 5) bodA [.int (0 + 1)] σ'
      | .ct σ' => fr (.one 5) bodA [.int (0 + 1)] σ'
      | .bk σ' => .nx σ'
      | r => r) = _
    rw [bodA_ok rr]
    show fr (.one 5) bodA [.int (0 + 1)] _ = _
    rw [fr]
    show (match bodA [some (.lst true (ms.map D.int)), some (.int (n : Int)), some (.lst true xs), some (eSq eRow rows), some (eOp (eT2 eSt D.int) (faultV rows)), some (.int (0 + 1)), some (fouD rows)] with
      | .nx σ' => fr (.one 5) bodA [] σ'
      | .ct σ' => fr (.one 5) bodA [] σ'
      | .bk σ' => .nx σ'
      | r => r) = _
    rw [bodA_ok rr]
    rfl
  rw [u_sSeq]
  show resR ((rS (iR1 (aC (eK (.int 2)) (aN)) σ4) σ4 fun xs => fr (.one 5) bodA xs σ4).andThen _) = _
  have ir : iR1 (aC (eK (.int 2)) (aN)) σ4 = .ok (rngL 0 2) := by
    show (if small62 2 = true then _ else _) = _
    rw [small62_of (by decide) (by decide), if_pos rfl]
    rfl
  rw [ir, rS_ok, lp, then_nx]
  rw [u_sSeq, u_sIf, u_eC, e6 _ rfl, R.bind_ok]
  show resR ((rS (blR (cmpD .ne (eSq eRow rows) (eSq eRow rows))) _ _).andThen _) = _
  rw [cmpD_ne, eq_mc, decide_eq_true rfl]
  exact end_ok hxs (hE _ _ _)
theorem law_true (ns : List Int) (hl : ns.length ≤ 63) : h_p_law [.lst false (ns.map D.int)] = .ok (.bl true) := by
  obtain ⟨ms, n, k, hn, hk, go⟩ := law_core ns hl
  obtain ⟨rows, hr1, hr2, h⟩ := rowsD ms n k hn hk
  have B : RowsB rows := ⟨by omega, fun r hr => by have := hr2 r hr; omega⟩
  rcases h with h | h
  · refine go rows _ (by simp; omega) h ⟨nf_rows rows, by rw [frz_rows, frz_clean _ (cl_ls cl_row _)], ?_, ?_, ?_⟩ ?_
    · rw [frz_rows]
      have := tf_l_plain rows
      rw [plain1_ok B] at this
      exact this
    · rw [frz_rows]
      have := tf_l_fault rows
      rw [fault1_ok B] at this
      exact this
    · rw [frz_rows]
      have := tf_p_machine_of rows
      rw [machine1_ok B] at this
      exact this
    · intro s n x5
      refine ⟨rows.map eRow, by simp; omega, ?_⟩
      cases h : faultV rows with
      | some p => rfl
      | none =>
        obtain ⟨r, rs, rfl⟩ := fault_none h
        have i0 : (eIx (eV 2) (eK (.int 0))) [some s, some n, some (.lst true ((r :: rs).map eRow)), some (eSq eRow (r :: rs)), some (eOp (eT2 eSt D.int) none), x5, some (fouD (r :: rs))] = .ok (eRow r) := by
          show ofR (L2.atI ((r :: rs).map eRow) 0) = _
          exact at_get (by decide) rfl
        have i1 : (eAnd (eC .isN (eV 4) (eK (.non))) (eIsi .list (eIx (eV 2) (eK (.int 0))))) [some s, some n, some (.lst true ((r :: rs).map eRow)), some (eSq eRow (r :: rs)), some (eOp (eT2 eSt D.int) none), x5, some (fouD (r :: rs))] = .ok (.bl false) := by
          rw [u_eAnd, u_eIsi, i0]
          rfl
        show sIf _ _ _ _ = _
        rw [u_sIf, i1]
        rfl
  · refine go rows _ (by simp; omega) h ⟨nf_rls rows, by rw [frz_rls, frz_clean _ (cl_ls cl_rw _)], ?_, ?_, ?_⟩ ?_
    · rw [frz_rls]
      have := tf_l_plain2 (rows.map rwOf)
      rw [plain2_ok B] at this
      exact this
    · rw [frz_rls]
      have := tf_l_fault2 (rows.map rwOf)
      rw [fault2_ok B] at this
      exact this
    · rw [frz_rls]
      have := tf_p_machine_of2 (rows.map rwOf)
      rw [machine2_ok B] at this
      exact this
    · intro s n x5
      cases h : faultV rows with
      | some p => exact ⟨rows.map eRl, by simp; omega, rfl⟩
      | none =>
        obtain ⟨r, rs, rfl⟩ := fault_none h
        have hc := hr2 r List.mem_cons_self
        refine ⟨(.lst true [.str "in", .lst true (r.2.1.map eCel ++ [.lst false [.int 0, .int 1]]), eTu r.2.2]) :: rs.map eRl, by simp at hr1 ⊢; omega, ?_⟩
        have q : eFrz (eLst (aC (eK (.int 0)) (aC (eK (.int 1)) (aN)))) [some s, some n, some (.lst true ((r :: rs).map eRl)), some (eSq eRow (r :: rs)), some (eOp (eT2 eSt D.int) none), x5, some (fouD (r :: rs))] = .ok (.lst false [.int 0, .int 1]) := by
          unfold eFrz
          rw [elst_ok (xs := [.int 0, .int 1]) rfl (by decide)]
          rfl
        have e1 := sub2_ok (i := 2) (j := 0) (k := 1) (fc := eK (.int 0)) (f2 := eK (.int 1)) (ys := [eTu r.1, .lst true (r.2.1.map eCel), eTu r.2.2]) (zs := r.2.1.map eCel) (xs := (r :: rs).map eRl) (σ := [some s, some n, some (.lst true ((r :: rs).map eRl)), some (eSq eRow (r :: rs)), some (eOp (eT2 eSt D.int) none), x5, some (fouD (r :: rs))]) rfl rfl rfl rfl rfl q (by rw [List.length_map]; omega) rfl
        have e2 := subp_ok (i := 2) (j := 0) (k := 0) (fc := eK (.int 0)) (fk := eK (.int 0)) (fe := eK (.str "in")) (ys := [eTu r.1, .lst true (r.2.1.map eCel ++ [.lst false [.int 0, .int 1]]), eTu r.2.2]) (xs := (.lst true [eTu r.1, .lst true (r.2.1.map eCel ++ [.lst false [.int 0, .int 1]]), eTu r.2.2]) :: rs.map eRl) (σ := [some s, some n, some (.lst true ((.lst true [eTu r.1, .lst true (r.2.1.map eCel ++ [.lst false [.int 0, .int 1]]), eTu r.2.2]) :: rs.map eRl)), some (eSq eRow (r :: rs)), some (eOp (eT2 eSt D.int) none), x5, some (fouD (r :: rs))]) rfl rfl rfl rfl rfl (by simp) rfl
        have i0 : (eIx (eV 2) (eK (.int 0))) [some s, some n, some (.lst true ((r :: rs).map eRl)), some (eSq eRow (r :: rs)), some (eOp (eT2 eSt D.int) none), x5, some (fouD (r :: rs))] = .ok (eRl r) := by
          show ofR (L2.atI ((r :: rs).map eRl) 0) = _
          exact at_get (by decide) rfl
        have i1 : (eAnd (eC .isN (eV 4) (eK (.non))) (eIsi .list (eIx (eV 2) (eK (.int 0))))) [some s, some n, some (.lst true ((r :: rs).map eRl)), some (eSq eRow (r :: rs)), some (eOp (eT2 eSt D.int) none), x5, some (fouD (r :: rs))] = .ok (.bl true) := by
          rw [u_eAnd, u_eIsi, i0]
          rfl
        show sIf _ _ _ _ = _
        rw [u_sIf, i1, rS_ok, cond_bl, if_pos rfl, u_sSeq, e1, then_nx]
        exact e2
end DI
open PySem PySem.W PyProof.Rows
set_option maxHeartbeats 0 in
theorem PySem.Challenge.cw_striproam_k01_machines_made_holds : PySem.Challenge.rw_striproam_k01_machines_made.Holds := by
  w_on; o_law; k_head; (case hw => w_witness2)
  k_fill
  refine L2.walk_of (l := PySem.Challenge.rw_striproam_k01_machines_made) (n := 63) (k := 7) (x := "_law_script") (CX := fun w => L2.CX PySem.Challenge.pw_striproam_k01_machines_made w) (sp := fun w => DI.spLaw _) rfl (by decide) rfl ⟨rfl, by decide, by decide⟩ (fun w h Y => PySem.W.kIn_of Y) ?F (fun _ _ a ns hl hO hS => ⟨a, ns, rfl, hS, hO, hl, fun v H h => h⟩) (fun w H s e s' h => DI.cx_none h)
  case F =>
    intro w mg fa h KX G hmg
    refine' DI.all_mk KX G hmg DI.law_true ?g_WayError ?g_NoMachine ?g_NoText ?g_NoStrip ?g_NoName ?g_NoLine ?g_TooMany ?bs_WayError ?bt_WayError ?br_WayError ?bv_WayError ?xk_NoLine ?xs_NoLine ?xt_NoLine ?xo_NoLine ?xa_NoLine ?xi_NoLine_ ?xf_NoLine ?xl_NoLine ?xc_NoLine ?xq_NoLine ?xn_NoLine_line ?xb_NoLine ?xg_NoLine ?xh_NoLine ?xd_NoLine ?xy_NoLine ?xz_NoLine ?xw_NoLine ?xm_NoLine ?xk_NoMachine ?xs_NoMachine ?xt_NoMachine ?xo_NoMachine ?xa_NoMachine ?xi_NoMachine_ ?xf_NoMachine ?xl_NoMachine ?xc_NoMachine ?xq_NoMachine ?xn_NoMachine_room ?xn_NoMachine_part ?xb_NoMachine ?xg_NoMachine ?xh_NoMachine ?xd_NoMachine ?xy_NoMachine ?xz_NoMachine ?xw_NoMachine ?xm_NoMachine ?xk_NoName ?xs_NoName ?xt_NoName ?xo_NoName ?xa_NoName ?xi_NoName_ ?xf_NoName ?xl_NoName ?xc_NoName ?xq_NoName ?xn_NoName_name ?xb_NoName ?xg_NoName ?xh_NoName ?xd_NoName ?xy_NoName ?xz_NoName ?xw_NoName ?xm_NoName ?xk_NoStrip ?xs_NoStrip ?xt_NoStrip ?xo_NoStrip ?xa_NoStrip ?xi_NoStrip_ ?xf_NoStrip ?xl_NoStrip ?xc_NoStrip ?xq_NoStrip ?xn_NoStrip_at ?xb_NoStrip ?xg_NoStrip ?xh_NoStrip ?xd_NoStrip ?xy_NoStrip ?xz_NoStrip ?xw_NoStrip ?xm_NoStrip ?xk_NoText ?xs_NoText ?xt_NoText ?xo_NoText ?xa_NoText ?xi_NoText_ ?xf_NoText ?xl_NoText ?xc_NoText ?xq_NoText ?xn_NoText_at ?xb_NoText ?xg_NoText ?xh_NoText ?xd_NoText ?xy_NoText ?xz_NoText ?xw_NoText ?xm_NoText ?xk_TooMany ?xs_TooMany ?xt_TooMany ?xe_TooMany ?xg_TooMany ?xh_TooMany ?xd_TooMany ?xy_TooMany ?xz_TooMany ?xw_TooMany ?xm_TooMany ?xk_WayError ?xs_WayError ?xt_WayError ?xe_WayError ?xg_WayError ?xh_WayError ?xd_WayError ?xy_WayError ?xz_WayError ?xw_WayError ?xm_WayError ?em_WayError_NoLine ?em_WayError_NoMachine ?em_WayError_NoName ?em_WayError_NoStrip ?em_WayError_NoText ?em_WayError_TooMany ?em_WayError_WayError ?ei_TooMany_NoLine ?ei_TooMany_NoMachine ?ei_TooMany_NoName ?ei_TooMany_NoStrip ?ei_TooMany_NoText ?ei_TooMany_TooMany ?ei_TooMany_WayError ?ei_NoStrip_NoLine ?ei_NoStrip_NoMachine ?ei_NoStrip_NoName ?ei_NoStrip_NoStrip ?ei_NoStrip_NoText ?ei_NoStrip_TooMany ?ei_NoStrip_WayError ?ei_NoText_NoLine ?ei_NoText_NoMachine ?ei_NoText_NoName ?ei_NoText_NoStrip ?ei_NoText_NoText ?ei_NoText_TooMany ?ei_NoText_WayError ?ei_NoLine_NoLine ?ei_NoLine_NoMachine ?ei_NoLine_NoName ?ei_NoLine_NoStrip ?ei_NoLine_NoText ?ei_NoLine_TooMany ?ei_NoLine_WayError ?ei_NoName_NoLine ?ei_NoName_NoMachine ?ei_NoName_NoName ?ei_NoName_NoStrip ?ei_NoName_NoText ?ei_NoName_TooMany ?ei_NoName_WayError ?ei_NoMachine_NoLine ?ei_NoMachine_NoMachine ?ei_NoMachine_NoName ?ei_NoMachine_NoStrip ?ei_NoMachine_NoText ?ei_NoMachine_TooMany ?ei_NoMachine_WayError ?ev_ValueError_NoLine ?ev_ValueError_NoMachine ?ev_ValueError_NoName ?ev_ValueError_NoStrip ?ev_ValueError_NoText ?ev_ValueError_TooMany ?ev_ValueError_WayError ?z0 ?z1 ?z2 ?z3 ?z4 ?z5 ?z6 ?z7 ?z8 ?z9 ?z10 ?z11 ?v0 ?v1 ?v2 ?vl2 ?a0 ?l0 ?c0 ?k0 ?a1 ?l1 ?c1 ?k1 ?a2 ?l2 ?c2 ?k2 ?a3 ?l3 ?c3 ?k3 ?a4 ?l4 ?c4 ?k4 ?a5 ?l5 ?c5 ?k5 ?a6 ?l6 ?c6 ?k6 ?a7 ?l7 ?c7 ?k7 ?a8 ?l8 ?c8 ?k8 ?a9 ?l9 ?c9 ?k9 ?a10 ?l10 ?c10 ?k10 ?a11 ?l11 ?c11 ?k11 ?a12 ?l12 ?c12 ?k12 ?a13 ?l13 ?c13 ?k13 ?a14 ?l14 ?c14 ?k14 ?a15 ?l15 ?c15 ?k15 ?a16 ?l16 ?c16 ?k16 ?a17 ?l17 ?c17 ?k17 ?a18 ?l18 ?c18 ?k18 ?a19 ?l19 ?c19 ?k19
    (case g_WayError => k_is); (case g_NoMachine => k_is); (case g_NoText => k_is); (case g_NoStrip => k_is); (case g_NoName => k_is); (case g_NoLine => k_is); (case g_TooMany => k_is); (case bs_WayError => k_is); (case bt_WayError => k_is); (case br_WayError => k_is); (case bv_WayError => k_is); (case xk_NoLine => k_is); (case xs_NoLine => k_is); (case xt_NoLine => k_is); (case xo_NoLine => kernel_rfl); (case xa_NoLine => k_is); (case xi_NoLine_ => k_is); (case xf_NoLine => k_is); (case xl_NoLine => k_is); (case xc_NoLine => k_is); (case xq_NoLine => k_is); (case xn_NoLine_line => k_is); (case xb_NoLine => kernel_rfl); (case xg_NoLine => k_is); (case xh_NoLine => k_is); (case xd_NoLine => k_is); (case xy_NoLine => k_is); (case xz_NoLine => k_is); (case xw_NoLine => k_is); (case xm_NoLine => k_is); (case xk_NoMachine => k_is); (case xs_NoMachine => k_is); (case xt_NoMachine => k_is); (case xo_NoMachine => kernel_rfl); (case xa_NoMachine => k_is); (case xi_NoMachine_ => k_is); (case xf_NoMachine => k_is); (case xl_NoMachine => k_is); (case xc_NoMachine => k_is); (case xq_NoMachine => k_is); (case xn_NoMachine_room => k_is); (case xn_NoMachine_part => k_is); (case xb_NoMachine => kernel_rfl); (case xg_NoMachine => k_is); (case xh_NoMachine => k_is); (case xd_NoMachine => k_is); (case xy_NoMachine => k_is); (case xz_NoMachine => k_is); (case xw_NoMachine => k_is); (case xm_NoMachine => k_is); (case xk_NoName => k_is); (case xs_NoName => k_is); (case xt_NoName => k_is); (case xo_NoName => kernel_rfl); (case xa_NoName => k_is); (case xi_NoName_ => k_is); (case xf_NoName => k_is); (case xl_NoName => k_is); (case xc_NoName => k_is); (case xq_NoName => k_is); (case xn_NoName_name => k_is); (case xb_NoName => kernel_rfl); (case xg_NoName => k_is); (case xh_NoName => k_is); (case xd_NoName => k_is); (case xy_NoName => k_is); (case xz_NoName => k_is); (case xw_NoName => k_is); (case xm_NoName => k_is); (case xk_NoStrip => k_is); (case xs_NoStrip => k_is); (case xt_NoStrip => k_is); (case xo_NoStrip => kernel_rfl); (case xa_NoStrip => k_is); (case xi_NoStrip_ => k_is); (case xf_NoStrip => k_is); (case xl_NoStrip => k_is); (case xc_NoStrip => k_is); (case xq_NoStrip => k_is); (case xn_NoStrip_at => k_is); (case xb_NoStrip => kernel_rfl); (case xg_NoStrip => k_is); (case xh_NoStrip => k_is); (case xd_NoStrip => k_is); (case xy_NoStrip => k_is); (case xz_NoStrip => k_is); (case xw_NoStrip => k_is); (case xm_NoStrip => k_is); (case xk_NoText => k_is); (case xs_NoText => k_is); (case xt_NoText => k_is); (case xo_NoText => kernel_rfl); (case xa_NoText => k_is); (case xi_NoText_ => k_is); (case xf_NoText => k_is); (case xl_NoText => k_is); (case xc_NoText => k_is); (case xq_NoText => k_is); (case xn_NoText_at => k_is); (case xb_NoText => kernel_rfl); (case xg_NoText => k_is); (case xh_NoText => k_is); (case xd_NoText => k_is); (case xy_NoText => k_is); (case xz_NoText => k_is); (case xw_NoText => k_is); (case xm_NoText => k_is); (case xk_TooMany => k_is); (case xs_TooMany => k_is); (case xt_TooMany => k_is); (case xe_TooMany => kernel_rfl); (case xg_TooMany => k_is); (case xh_TooMany => k_is); (case xd_TooMany => k_is); (case xy_TooMany => k_is); (case xz_TooMany => k_is); (case xw_TooMany => k_is); (case xm_TooMany => k_is); (case xk_WayError => k_is); (case xs_WayError => k_is); (case xt_WayError => k_is); (case xe_WayError => kernel_rfl); (case xg_WayError => k_is); (case xh_WayError => k_is); (case xd_WayError => k_is); (case xy_WayError => k_is); (case xz_WayError => k_is); (case xw_WayError => k_is); (case xm_WayError => k_is); (case em_WayError_NoLine => kernel_rfl); (case em_WayError_NoMachine => kernel_rfl); (case em_WayError_NoName => kernel_rfl); (case em_WayError_NoStrip => kernel_rfl); (case em_WayError_NoText => kernel_rfl); (case em_WayError_TooMany => kernel_rfl); (case em_WayError_WayError => kernel_rfl); (case ei_TooMany_NoLine => kernel_rfl); (case ei_TooMany_NoMachine => kernel_rfl); (case ei_TooMany_NoName => kernel_rfl); (case ei_TooMany_NoStrip => kernel_rfl); (case ei_TooMany_NoText => kernel_rfl); (case ei_TooMany_TooMany => kernel_rfl); (case ei_TooMany_WayError => kernel_rfl); (case ei_NoStrip_NoLine => kernel_rfl); (case ei_NoStrip_NoMachine => kernel_rfl); (case ei_NoStrip_NoName => kernel_rfl); (case ei_NoStrip_NoStrip => kernel_rfl); (case ei_NoStrip_NoText => kernel_rfl); (case ei_NoStrip_TooMany => kernel_rfl); (case ei_NoStrip_WayError => kernel_rfl); (case ei_NoText_NoLine => kernel_rfl); (case ei_NoText_NoMachine => kernel_rfl); (case ei_NoText_NoName => kernel_rfl); (case ei_NoText_NoStrip => kernel_rfl); (case ei_NoText_NoText => kernel_rfl); (case ei_NoText_TooMany => kernel_rfl); (case ei_NoText_WayError => kernel_rfl); (case ei_NoLine_NoLine => kernel_rfl); (case ei_NoLine_NoMachine => kernel_rfl); (case ei_NoLine_NoName => kernel_rfl); (case ei_NoLine_NoStrip => kernel_rfl); (case ei_NoLine_NoText => kernel_rfl); (case ei_NoLine_TooMany => kernel_rfl); (case ei_NoLine_WayError => kernel_rfl); (case ei_NoName_NoLine => kernel_rfl); (case ei_NoName_NoMachine => kernel_rfl); (case ei_NoName_NoName => kernel_rfl); (case ei_NoName_NoStrip => kernel_rfl); (case ei_NoName_NoText => kernel_rfl); (case ei_NoName_TooMany => kernel_rfl); (case ei_NoName_WayError => kernel_rfl); (case ei_NoMachine_NoLine => kernel_rfl); (case ei_NoMachine_NoMachine => kernel_rfl); (case ei_NoMachine_NoName => kernel_rfl); (case ei_NoMachine_NoStrip => kernel_rfl); (case ei_NoMachine_NoText => kernel_rfl); (case ei_NoMachine_TooMany => kernel_rfl); (case ei_NoMachine_WayError => kernel_rfl); (case ev_ValueError_NoLine => kernel_rfl); (case ev_ValueError_NoMachine => kernel_rfl); (case ev_ValueError_NoName => kernel_rfl); (case ev_ValueError_NoStrip => kernel_rfl); (case ev_ValueError_NoText => kernel_rfl); (case ev_ValueError_TooMany => kernel_rfl); (case ev_ValueError_WayError => kernel_rfl); (case z0 => k_is); (case z1 => k_is); (case z2 => k_is); (case z3 => k_is); (case z4 => k_is); (case z5 => k_is); (case z6 => k_is); (case z7 => k_is); (case z8 => k_is); (case z9 => k_is); (case z10 => k_is); (case z11 => k_is); (case v0 => k_is); (case v1 => k_is); (case v2 => k_is); (case vl2 => k_is); (case a0 => k_is); (case l0 => k_is); (case c0 => k_is); (case k0 => k_is); (case a1 => k_is); (case l1 => k_is); (case c1 => k_is); (case k1 => k_is); (case a2 => k_is); (case l2 => k_is); (case c2 => k_is); (case k2 => k_is); (case a3 => k_is); (case l3 => k_is); (case c3 => k_is); (case k3 => k_is); (case a4 => k_is); (case l4 => k_is); (case c4 => k_is); (case k4 => k_is); (case a5 => k_is); (case l5 => k_is); (case c5 => k_is); (case k5 => k_is); (case a6 => k_is); (case l6 => k_is); (case c6 => k_is); (case k6 => k_is); (case a7 => k_is); (case l7 => k_is); (case c7 => k_is); (case k7 => k_is); (case a8 => k_is); (case l8 => k_is); (case c8 => k_is); (case k8 => k_is); (case a9 => k_is); (case l9 => k_is); (case c9 => k_is); (case k9 => k_is); (case a10 => k_is); (case l10 => k_is); (case c10 => k_is); (case k10 => k_is); (case a11 => k_is); (case l11 => k_is); (case c11 => k_is); (case k11 => k_is); (case a12 => k_is); (case l12 => k_is); (case c12 => k_is); (case k12 => k_is); (case a13 => k_is); (case l13 => k_is); (case c13 => k_is); (case k13 => k_is); (case a14 => k_is); (case l14 => k_is); (case c14 => k_is); (case k14 => k_is); (case a15 => k_is); (case l15 => k_is); (case c15 => k_is); (case k15 => k_is); (case a16 => k_is); (case l16 => k_is); (case c16 => k_is); (case k16 => k_is); (case a17 => k_is); (case l17 => k_is); (case c17 => k_is); (case k17 => k_is); (case a18 => k_is); (case l18 => k_is); (case c18 => k_is); (case k18 => k_is); (case a19 => k_is); (case l19 => k_is); (case c19 => k_is); (case k19 => k_is)
