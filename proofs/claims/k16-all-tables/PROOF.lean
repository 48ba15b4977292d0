import PyProof.Rows.All
import Wide.All
import OpenK.AllK
import Wide.FinOn
import PySem.Challenge.RW_striproam_k16_all_tables
import HandS.NoneIn
import PyProof.StrBlock2
import HandS.TupLe
import HandS.Conv
import HandS.Zip
import HandS.ListItems
import HandS.TryMany
import HandS.Strs
import HandS.Iter
import PyProof.Rows.TupMore
import HandS.EndTab
import HandS.SetFor
import HandS.ForMost
import HandS.ForExc
import HandS.CallSlots
import HandS.ExcInit
import HandS.IsInst
import HandS.Deep
import HandS.TupAny
import HandS.TupMul
import HandS.TupLen
import HandS.Wide
import KE.KDictKeyed
import KE.KeyNested
import HandS.Nested
import KE.GoesEnum
import KE.GoesMore
import HandS.TryOnly
import HandS.ExcField
import HandS.ExcIs
import HandS.SortInts
import HandS.Style
import PyProof.Rows.StrRev
import KE.KDictDisplayH
import HandS.HotCalls
import KE.KExcIs
import PyProof.ListStr
import HandS.More
import HandS.RaiseMore
import PyProof.StrLaws
import PyProof.StrLawsTight
import KE.DataCmp
import KE.SortData
import HandS.SetKeys
import HandS.Defaults
import KE.KAssignIn
import HandS.ExcValue
import PyProof.StrLawsIn
set_option Elab.async false
set_option linter.all false
set_option maxRecDepth 100000
namespace DI
open PySem
inductive D where
  | non | bl (b : Bool) | int (i : Int) | str (x : Str)
  | tup (xs : List D) | lst (o : Bool) (xs : List D) | dct (o : Bool) (kvs : List (NestedKey × D))
  | obj (c : Nat) (fs : List D)
instance : Inhabited D := ⟨.non⟩
inductive R (α : Type) where
  | ok (a : α) | err (c : Nat) (fs : List D) | bad
def R.bind {α β : Type} : R α → (α → R β) → R β
  | .ok a, k => k a
  | .err c fs, _ => .err c fs
  | .bad, _ => .bad
@[simp] theorem R.bind_ok {α β : Type} (a : α) (k : α → R β) : (R.ok a).bind k = k a := rfl
@[simp] theorem R.bind_err {α β : Type} (c : Nat) (fs : List D) (k : α → R β) : (R.err c fs : R α).bind k = .err c fs := rfl
@[simp] theorem R.bind_bad {α β : Type} (k : α → R β) : (R.bad : R α).bind k = .bad := rfl
mutual
def clean : D → Bool
  | .non => true | .bl _ => true | .int _ => true | .str _ => true
  | .tup xs => cleanL xs
  | .lst o xs => !o && cleanL xs
  | .dct o _ => !o
  | .obj _ fs => cleanL fs
def cleanL : List D → Bool
  | [] => true
  | x :: xs => clean x && cleanL xs
end
mutual
def noFrz : D → Bool
  | .non => true | .bl _ => true | .int _ => true | .str _ => true
  | .tup xs => noFrzL xs
  | .lst o xs => o && noFrzL xs
  | .dct o kvs => o && noFrzK kvs
  | .obj _ _ => false
def noFrzL : List D → Bool
  | [] => true
  | x :: xs => noFrz x && noFrzL xs
def noFrzK : List (NestedKey × D) → Bool
  | [] => true
  | (_, x) :: xs => noFrz x && noFrzK xs
end
theorem noFrzK_map : ∀ kvs : List (NestedKey × D), noFrzK kvs = noFrzL (kvs.map (·.2))
  | [] => rfl
  | (_, x) :: xs => by rw [noFrzK, List.map_cons, noFrzL, noFrzK_map xs]
mutual
def frz : D → D
  | .non => .non | .bl b => .bl b | .int i => .int i | .str x => .str x
  | .tup xs => .tup (frzL xs)
  | .lst _ xs => .lst false (frzL xs)
  | .dct _ kvs => .dct false kvs
  | .obj c fs => .obj c (frzL fs)
def frzL : List D → List D
  | [] => []
  | x :: xs => frz x :: frzL xs
end
mutual
theorem frz_clean : ∀ d : D, clean d = true → frz d = d
  | .non, _ => rfl | .bl _, _ => rfl | .int _, _ => rfl | .str _, _ => rfl
  | .tup xs, h => by rw [frz, frzL_clean xs (by simpa [clean] using h)]
  | .lst o xs, h => by
    simp only [clean, Bool.and_eq_true, Bool.not_eq_true'] at h
    rw [frz, frzL_clean xs h.2, h.1]
  | .dct o kvs, h => by
    simp only [clean, Bool.not_eq_true'] at h
    rw [frz, h]
  | .obj c fs, h => by rw [frz, frzL_clean fs (by simpa [clean] using h)]
theorem frzL_clean : ∀ xs : List D, cleanL xs = true → frzL xs = xs
  | [], _ => rfl
  | x :: xs, h => by
    simp only [cleanL, Bool.and_eq_true] at h
    rw [frzL, frz_clean x h.1, frzL_clean xs h.2]
end
theorem cleanL_all (xs : List D) : cleanL xs = xs.all clean := by
  induction xs with
  | nil => rfl
  | cons x xs ih => rw [cleanL, List.all_cons, ih]
theorem frzL_map (xs : List D) : frzL xs = xs.map frz := by
  induction xs with
  | nil => rfl
  | cons x xs ih => rw [frzL, List.map_cons, ih]
theorem noFrzL_all (xs : List D) : noFrzL xs = xs.all noFrz := by
  induction xs with
  | nil => rfl
  | cons x xs ih => rw [noFrzL, List.all_cons, ih]
mutual
def py : D → Option PyData
  | .non => some .none | .bl b => some (.bool b) | .int i => some (.int i) | .str x => some (.str x)
  | .tup xs => (pyL xs).map .tuple
  | .lst _ xs => (pyL xs).map .list
  | .dct _ _ => none
  | .obj _ _ => none
def pyL : List D → Option (List PyData)
  | [] => some []
  | x :: xs => (py x).bind fun d => (pyL xs).map fun ds => d :: ds
end
mutual
/-- a key without truth values -/
def keyS : D → Option NestedKey
  | .non => some .none | .bl _ => none | .int i => some (.num i) | .str x => some (.text x)
  | .tup xs => (keyL xs).map .tup
  | .lst _ _ => none
  | .dct _ _ => none
  | .obj _ _ => none
def keyL : List D → Option (List NestedKey)
  | [] => some []
  | x :: xs => (keyS x).bind fun d => (keyL xs).map fun ds => d :: ds
end
def key : D → Option NestedKey
  | .tup [.bl b, .int r] => some (.tup [.num (if b = true then 1 else 0), .num r])
  | d => keyS d
theorem keyS_key {d : D} {k : NestedKey} (h : keyS d = some k) : key d = some k := by
  unfold key
  split
  · exact absurd h (by simp [keyS, keyL])
  · exact h
def eqD (d e : D) : R Bool :=
  match py d, py e with
  | some a, some b => if SeqAt.shaped a && SeqAt.shaped b then .ok (PyData.eqv a b) else .bad
  | _, _ => .bad
def oneOf (c : Nat) : D := .str ⟨#[c]⟩
def ofR {α : Type} : Option α → R α
  | some a => .ok a
  | none => .bad
inductive Bop where
  | add | sub | mul | fdiv | mod | pow
  deriving DecidableEq
inductive Cop where
  | lt | le | gt | ge | eq | ne | mem | nmem | isN | notN
  deriving DecidableEq
noncomputable def lim62 : Int := Classical.choose (show ∃ n : Int, n = 4611686018427387904 from ⟨_, rfl⟩)
theorem lim62_eq : lim62 = 4611686018427387904 := Classical.choose_spec (show ∃ n : Int, n = 4611686018427387904 from ⟨_, rfl⟩)
noncomputable def lim64 : Int := Classical.choose (show ∃ n : Int, n = 18446744073709551616 from ⟨_, rfl⟩)
theorem lim64_eq : lim64 = 18446744073709551616 := Classical.choose_spec (show ∃ n : Int, n = 18446744073709551616 from ⟨_, rfl⟩)
noncomputable def small64 (i : Int) : Bool := decide (-lim64 < i) && decide (i < lim64)
noncomputable def small62 (i : Int) : Bool := decide (-lim62 ≤ i) && decide (i < lim62)
noncomputable def binD : Bop → D → D → R D
  | .add, .int i, .int j => .ok (.int (i + j))
  | .add, .str x, .str y => if x.length + y.length ≤ sizeLine then .ok (.str (x ++ y)) else .bad
  | .add, .lst true xs, .lst true ys => if (cleanL xs && cleanL ys) = true ∧ xs.length + ys.length ≤ sizeLine then .ok (.lst true (xs ++ ys)) else .bad
  | .add, .tup xs, .tup ys => if (cleanL xs && cleanL ys) = true ∧ xs.length + ys.length ≤ sizeLine then .ok (.tup (xs ++ ys)) else .bad
  | .sub, .int i, .int j => .ok (.int (i - j))
  | .mul, .int i, .int j => if (small64 i || small64 j) = true then .ok (.int (i * j)) else .bad
  | .mul, .lst true xs, .int k => if cleanL xs = true ∧ small62 k = true ∧ xs.length * k.toNat ≤ sizeLine then .ok (.lst true (List.replicate k.toNat xs).flatten) else .bad
  | .fdiv, .int i, .int j => if 0 < j ∧ j.natAbs.log2 < 9000 then .ok (.int (i / j)) else .bad
  | .mod, .int i, .int j => if 0 < j then .ok (.int (i % j)) else .bad
  | .pow, .int i, .int j => if 0 ≤ j ∧ j ≤ 1000000 ∧ i.natAbs < 2 ^ 64 then .ok (.int (i ^ j.toNat)) else .bad
  | _, _, _ => .bad
def memS (x : D) (ys : List D) : R Bool :=
  match py x, pyL ys with
  | some d, some ds => if (SeqAt.shaped d && SeqAt.shaped (.list ds)) = true then .ok (ds.any fun z => PyData.eqv z d) else .bad
  | _, _ => .bad
def isLeafKey : NestedKey → Bool
  | .num _ => true | .text _ => true | .none => false | .tup _ => false
def isTupKey : NestedKey → Bool
  | .tup _ => true | .num _ => false | .text _ => false | .none => false
def keysWith (k : NestedKey) (kvs : List (NestedKey × D)) : Bool :=
  (isLeafKey k && kvs.all fun p => isLeafKey p.1) || (isTupKey k && decide (k.depth ≤ 8) && kvs.all fun p => isTupKey p.1)
def dget (kvs : List (NestedKey × D)) (k : NestedKey) : Option D := (kvs.find? fun p => decide (p.1 = k)).map (·.2)
def dput (kvs : List (NestedKey × D)) (k : NestedKey) (v : D) : List (NestedKey × D) :=
  if (kvs.any fun p => decide (p.1 = k)) = true then kvs.map (fun p => if p.1 = k then (p.1, v) else p) else kvs ++ [(k, v)]
def leafD : D → Bool
  | .int _ => true | .str _ => true | _ => false
def keyIn (d : D) (kvs : List (NestedKey × D)) : R NestedKey :=
  match key d with
  | some k => if (keysWith k kvs && (isTupKey k || leafD d)) = true then .ok k else .bad
  | none => .bad
def memD (x : D) : D → R Bool
  | .lst _ ys => memS x ys
  | .tup ys => memS x ys
  | .dct _ kvs => (keyIn x kvs).bind fun k => .ok (dget kvs k).isSome
  | .str z => match x with
    | .str y => .ok (!(Builtin.Str.occurrences z y 0 z.length 1).isEmpty)
    | _ => .bad
  | _ => .bad
def isNon : D → Bool
  | .non => true
  | _ => false
def cmpD : Cop → D → D → R Bool
  | .lt, .int i, .int j => .ok (decide (i < j))
  | .le, .int i, .int j => .ok (decide (i ≤ j))
  | .gt, .int i, .int j => .ok (decide (j < i))
  | .ge, .int i, .int j => .ok (decide (j ≤ i))
  | .eq, x, y => eqD x y
  | .ne, x, y => (eqD x y).bind fun b => .ok (!b)
  | .mem, x, y => memD x y
  | .nmem, x, y => (memD x y).bind fun b => .ok (!b)
  | .isN, x, .non => .ok (isNon x)
  | .notN, x, .non => .ok (!isNon x)
  | _, _, _ => .bad
def idxD : D → D → R D
  | .lst _ xs, .int i => ofR (L2.atI xs i)
  | .tup xs, .int i => ofR (L2.atI xs i)
  | .str z, .int i => if z.length ≤ sizeLine then ofR ((L2.atI z.cps.toList i).map oneOf) else .bad
  | .dct _ kvs, k => (keyIn k kvs).bind fun k => ofR (dget kvs k)
  | _, _ => .bad
def cutL {α : Type} (xs : List α) (lo hi : Option Int) : List α := (xs.drop (HT.sIx xs.length 0 lo)).take (HT.sIx xs.length xs.length hi - HT.sIx xs.length 0 lo)
def partD : Option D → R (Option Int)
  | none => .ok none
  | some (.int i) => .ok (some i)
  | some _ => .bad
def slD (x : D) (lo hi : Option Int) : R D :=
  match x with
  | .lst _ xs => if cleanL xs = true then .ok (.lst true (cutL xs lo hi)) else .bad
  | .tup xs => if cleanL xs = true then .ok (.tup (cutL xs lo hi)) else .bad
  | .str z => if z.length ≤ sizeLine then .ok (.str (L2.cutS z lo hi)) else .bad
  | _ => .bad
def itemsD : D → R (List D)
  | .lst _ xs => if cleanL xs = true then .ok xs else .bad
  | .tup xs => if cleanL xs = true then .ok xs else .bad
  | .str z => .ok (z.cps.toList.map oneOf)
  | _ => .bad
inductive Ty where
  | str | int | bool | tuple | list
  deriving DecidableEq
def isTy : Ty → D → R Bool
  | _, .obj _ _ => .bad
  | _, .dct _ _ => .bad
  | .str, .str _ => .ok true
  | .int, .int _ => .ok true
  | .int, .bl _ => .ok true
  | .bool, .bl _ => .ok true
  | .tuple, .tup _ => .ok true
  | .list, .lst _ _ => .ok true
  | _, _ => .ok false
inductive Bi where
  | len | tuple | list | int | str | min | max | abs | sum | all | isi (t : Ty)
  deriving DecidableEq
def intsD : List D → Option (List Int)
  | [] => some []
  | .int i :: r => (intsD r).map (i :: ·)
  | _ => none
def blsD : List D → Option (List Bool)
  | [] => some []
  | .bl i :: r => (blsD r).map (i :: ·)
  | _ => none
def strsD : List D → Option (List Str)
  | [] => some []
  | .str i :: r => (strsD r).map (i :: ·)
  | _ => none
def biD : Bi → List D → R D
  | .len, [.lst _ xs] => .ok (.int xs.length)
  | .len, [.tup xs] => .ok (.int xs.length)
  | .len, [.str z] => if z.length ≤ sizeLine then .ok (.int z.length) else .bad
  | .len, [.dct _ kvs] => .ok (.int kvs.length)
  | .tuple, [.lst _ xs] => if cleanL xs = true then .ok (.tup xs) else .bad
  | .tuple, [.tup xs] => if cleanL xs = true then .ok (.tup xs) else .bad
  | .list, [.lst _ xs] => if cleanL xs = true then .ok (.lst true xs) else .bad
  | .list, [.tup xs] => if cleanL xs = true then .ok (.lst true xs) else .bad
  | .int, [.int i] => .ok (.int i)
  | .int, [.bl b] => .ok (.int (if b = true then 1 else 0))
  | .int, [.str x] => match PySem.intText? x with
    | some n => if x.length ≤ 640 then .ok (.int n) else .bad
    | none => .bad
  | .str, [.int i] => if i.natAbs.log2 < 1920 then .ok (.str (Str.ofString (toString i))) else .bad
  | .min, [.int i, .int j] => .ok (.int (if j < i then j else i))
  | .max, [.int i, .int j] => .ok (.int (if j > i then j else i))
  | .abs, [.int i] => .ok (.int (if i < 0 then -i else i))
  | .sum, [.lst _ xs] => match intsD xs with
    | some ns => .ok (.int ns.sum)
    | none => .bad
  | .all, [.lst _ xs] => match blsD xs with
    | some bs => .ok (.bl (bs.all id))
    | none => .bad
  | .isi t, [x] => (isTy t x).bind fun b => .ok (.bl b)
  | _, _ => .bad
inductive Mt where
  | join | split | find | strIndex | lstIndex | get1 | get2
  deriving DecidableEq
def idxL (x : D) (ys : List D) : R Nat :=
  match py x, pyL ys with
  | some d, some ds => if (SeqAt.shaped d && SeqAt.shaped (.list ds)) = true then ofR (ds.findIdx? fun z => PyData.eqv z d) else .bad
  | _, _ => .bad
def mtD : Mt → D → List D → R D
  | .join, .str s, [.lst _ xs] => match strsD xs with
    | some ys => if (ys.map (·.length)).sum + ys.length * s.length ≤ 16777216 then .ok (.str (Txt.join s ys)) else .bad
    | none => .bad
  | .split, .str s, [.str t] => if (t.length == 0) = false ∧ s.length + 2 ≤ sizeLine then .ok (.lst true ((Txt.split s t).map D.str)) else .bad
  | .find, .str s, [.str t] => .ok (.int (Txt.find s t))
  | .strIndex, .str s, [.str t] => match Builtin.Str.occurrences s t 0 s.length 1 with
    | [] => .bad
    | k :: _ => .ok (.int (k : Nat))
  | .lstIndex, .lst _ xs, [x] => (idxL x xs).bind fun n => .ok (.int n)
  | .get1, .dct _ kvs, [k] => (keyIn k kvs).bind fun k => .ok ((dget kvs k).getD .non)
  | .get2, .dct _ kvs, [k, x] => (keyIn k kvs).bind fun k => if clean x = true then .ok ((dget kvs k).getD x) else .bad
  | _, _, _ => .bad
def recvOk : Mt → D → Bool
  | .join, .str _ => true | .split, .str _ => true | .find, .str _ => true | .strIndex, .str _ => true
  | .lstIndex, .lst _ _ => true
  | .get1, .dct _ _ => true | .get2, .dct _ _ => true
  | _, _ => false
def Mt.name : Mt → String
  | .join => "join" | .split => "split" | .find => "find" | .strIndex => "index" | .lstIndex => "index" | .get1 => "get" | .get2 => "get"
abbrev Sl := List (Option D)
inductive Pat where
  | one (i : Nat) | many (is : List Nat) | two (i : Nat) (js : List Nat)
  deriving DecidableEq
def ownIf (r : Bool) (d : D) : R D := if (!r || clean d) = true then .ok d else .bad
def getS (σ : Sl) (i : Nat) : R D :=
  match σ[i]? with
  | some (some d) => .ok d
  | _ => .bad
def boolOf : D → R Bool
  | .bl b => .ok b
  | _ => .bad
def intOf : D → R Int
  | .int i => .ok i
  | _ => .bad
def tupOf : D → R (List D)
  | .tup xs => .ok xs
  | _ => .bad
def wipeL (σ : Sl) : List Nat → Sl
  | [] => σ
  | v :: vs => (wipeL σ vs).set v none
def putAll (σ : Sl) : List Nat → List D → R Sl
  | [], [] => .ok σ
  | i :: is, d :: ds => putAll (σ.set i (some d)) is ds
  | _, _ => .bad
def bindP (σ : Sl) (p : Pat) (d : D) : R Sl :=
  match p with
  | .one i => .ok (σ.set i (some d))
  | .many is => match d with
    | .tup xs => putAll σ is xs
    | _ => .bad
  | .two i js => match d with
    | .tup [x, .tup ys] => putAll (σ.set i (some x)) js ys
    | _ => .bad
def compR (body : D → R (Option D)) : List D → R (List D)
  | [] => .ok []
  | x :: xs => (body x).bind fun o => (compR body xs).bind fun ys => .ok (match o with | some y => y :: ys | none => ys)
def rngL (lo : Int) (n : Nat) : List D := (List.range n).map fun (k : Nat) => D.int (lo + (k : Int))
def enumL : Nat → List D → List D
  | _, [] => []
  | k, x :: xs => .tup [.int (k : Int), x] :: enumL (k + 1) xs
def zipL : List D → List D → List D
  | x :: xs, y :: ys => .tup [x, y] :: zipL xs ys
  | _, _ => []
end DI
namespace DI
open PySem PySem.Spec PyProof.Rows L2
def nk : Key → NestedKey
  | .inl i => .num i
  | .inr x => .text x
def rawN (P : Program) (w : World) (a : Addr) (od : Obj) (xs : List (NestedKey × Addr × V)) : HO := .ext fun h =>
  xs.length ≤ sizeLine ∧ (a == sysModules) = false ∧ (xs.map (·.1)).Nodup ∧ ∃ ys : List (NestedKey × Addr × Value),
    Paired (fun (p : NestedKey × Addr × V) (q : NestedKey × Addr × Value) => p.1 = q.1 ∧ p.2.1 = q.2.1 ∧ RelV p.2.2 q.2.2) xs ys ∧
    ∃ es ep, h.get? a = some od ∧ od.ExactDict ∧ od.data = .dict es ep ∧ es.toList = ys.map (entryOfKey (nestedKind P w))
def SqF (K : PySem.W.Frag) (H : Hp) (a : Addr) (vs : List V) : Prop := (∃ ob, H a = some (.frz ob (.lst vs))) ∨
  ∃ (o : Obj) (its : Array Value) (n : Nat), K.lookup a = some o ∧ o.cls = .type "list" ∧ o.dict = none ∧ o.data = .seq its n ∧ its.size ≤ sizeLine ∧ Vals vs its.toList
theorem SqF.sqL {K : PySem.W.Frag} {H : Hp} {a : Addr} {vs : List V} (h : SqF K H a vs) : SqL K H a vs := h.elim (fun ⟨ob, e⟩ => .inl (.inr ⟨ob, e⟩)) .inr
mutual
inductive KRepS (K : PySem.W.Frag) (H : Hp) : NestedKey → V → Prop
  | none : KRepS K H .none .non
  | num (i : Int) : KRepS K H (.num i) (.int i)
  | text (x : Str) : KRepS K H (.text x) (.str x)
  | tup {a : Addr} {vs : List V} {ks : List NestedKey} : SqT K H a vs → KReps K H ks vs → KRepS K H (.tup ks) (.ref a)
inductive KReps (K : PySem.W.Frag) (H : Hp) : List NestedKey → List V → Prop
  | nil : KReps K H [] []
  | cons {k : NestedKey} {v : V} {ks : List NestedKey} {vs : List V} : KRepS K H k v → KReps K H ks vs → KReps K H (k :: ks) (v :: vs)
end
def KRep (K : PySem.W.Frag) (H : Hp) (q : NestedKey) (v : V) : Prop := KRepS K H q v ∨ ∃ (a : Addr) (b : Bool) (r : Int), q = .tup [.num (if b = true then 1 else 0), .num r] ∧ v = .ref a ∧ SqT K H a [.bl b, .int r]
def OwnP (Z : Addr → Prop) (o : Bool) (a : Addr) (fs fp : List Addr) : Prop := (o = true ∧ fp = a :: fs) ∨ (o = false ∧ fs = [] ∧ fp = [] ∧ Z a)
def Fix (o : HO) : Prop := (∀ ps, o ≠ .tbl ps) ∧ ∀ od kv, o ≠ .frz od (.dK kv)
structure Opq where
  P : (Addr → Prop) → Hp → D → V → Prop
  keep : ∀ {Z Z' : Addr → Prop} {H H' : Hp} {d : D} {v : V}, (∀ a o, Z a → H a = some o → Fix o → Z' a ∧ H' a = some o) → (∀ a vs, Rd H a (.tup vs) → Rd H' a (.tup vs)) → P Z H d v → P Z' H' d v
abbrev boxC : Nat := 1000
structure Gv where
  P : Program
  w : World
  K : PySem.W.Frag
  /-- a class's address, the names of its exceptions' values -/
  cls : Nat → Option (Addr × List Str)
  /-- an instance's class, the names of its fields -/
  ins : Nat → Option (Addr × List Str)
  /-- the exception in hand: its address, its class, its dict -/
  cur : Option (Addr × Nat × Option Addr)
  /-- of a def that changes what it is handed first: the address that slot 0 holds -/
  pin : Option Addr
  /-- a table of code objects that may grow -/
  tab : Option (Addr × (Nat → Nat → Str))
  /-- what is only handed on -/
  opq : Nat → Option Opq
def NT (o : HO) : Prop := ∀ ps, o ≠ .tbl ps
theorem nt_lst {vs : List V} : NT (.lst vs) := fun _ h => nomatch h
theorem nt_dK {vs : List (Key × V)} : NT (.dK vs) := fun _ h => nomatch h
theorem nt_raw {P : Program} {w : World} {a : Addr} {od : Obj} {xs : List (NestedKey × Addr × V)} : NT (rawN P w a od xs) := fun _ h => by unfold rawN at h; cases h
theorem nt_frz {o : Obj} {u : HO} : NT (.frz o u) := fun _ h => nomatch h
theorem nt_ins {C dx : Addr} {fs : List (Str × V)} : NT (.ins C dx fs) := fun _ h => nomatch h
mutual
inductive Rep (g : Gv) (Z : Addr → Prop) (H : Hp) : D → V → List Addr → Prop
  | non : Rep g Z H .non .non []
  | bl (b : Bool) : Rep g Z H (.bl b) (.bl b) []
  | int (i : Int) : Rep g Z H (.int i) (.int i) []
  | str (x : Str) : Rep g Z H (.str x) (.str x) []
  | tup {a : Addr} {vs : List V} {xs : List D} {fp : List Addr} : SqT g.K H a vs → Reps g Z H xs vs fp → Rep g Z H (.tup xs) (.ref a) fp
  | lst {a : Addr} {vs : List V} {xs : List D} {o : Bool} {fs fp : List Addr} : H a = some (.lst vs) → Reps g Z H xs vs fs → OwnP Z o a fs fp → Rep g Z H (.lst o xs) (.ref a) fp
  | lstR {a : Addr} {vs : List V} {xs : List D} : SqF g.K H a vs → Reps g Z H xs vs [] → Rep g Z H (.lst false xs) (.ref a) []
  | dK {a : Addr} {kv : List (Key × V)} {kvs : List (NestedKey × D)} {o : Bool} {fp : List Addr} : H a = some (.dK kv) → (kv.map fun p => nk p.1) = kvs.map (·.1) → Reps g Z H (kvs.map (·.2)) (kv.map (·.2)) [] →
      OwnP Z o a [] fp → Rep g Z H (.dct o kvs) (.ref a) fp
  | dN {a : Addr} {od : Obj} {xs : List (NestedKey × Addr × V)} {kvs : List (NestedKey × D)} {o : Bool} {fp : List Addr} : H a = some (rawN g.P g.w a od xs) → xs.map (·.1) = kvs.map (·.1) → xs ≠ [] →
      (∀ p ∈ xs, KRep g.K H p.1 (.ref p.2.1) ∧ p.1.depth ≤ 8) → Reps g Z H (kvs.map (·.2)) (xs.map (·.2.2)) [] → OwnP Z o a [] fp → Rep g Z H (.dct o kvs) (.ref a) fp
  | exc0 {a : Addr} {c : Nat} : g.cur = some (a, c, none) → Rep g Z H (.obj c []) (.ref a) []
  | excD {a d C : Addr} {c : Nat} {ns : List Str} {vs : List V} {fs : List D} : g.cur = some (a, c, some d) → g.cls c = some (C, ns) → H d = some (.xd (ns.zip vs)) → vs.length = ns.length → Reps g Z H fs vs [] → Rep g Z H (.obj c fs) (.ref a) []
  | ins {a C dx : Addr} {c : Nat} {ns : List Str} {vs : List V} {fs : List D} : g.ins c = some (C, ns) → H a = some (.ins C dx (ns.zip vs)) → Z a → vs.length = ns.length → Reps g Z H fs vs [] → Rep g Z H (.obj c fs) (.ref a) []
  | box {a : Addr} {nb : List Str} {od : Obj} {kv : List (Key × V)} {kvs : List (NestedKey × D)} : g.ins boxC = some (a, nb) → H a = some (.frz od (.dK kv)) → (kv.map fun p => nk p.1) = kvs.map (·.1) → Reps g Z H (kvs.map (·.2)) (kv.map (·.2)) [] → Z a → Rep g Z H (.obj boxC [.dct false kvs]) (.ref a) []
  | opq {c : Nat} {q : Opq} {C a : Addr} {d : D} : g.opq c = some q → g.ins c = some (C, []) → c ≠ boxC → clean d = true → q.P Z H d (.ref a) → Rep g Z H (.obj c [d]) (.ref a) []
inductive Reps (g : Gv) (Z : Addr → Prop) (H : Hp) : List D → List V → List Addr → Prop
  | nil : Reps g Z H [] [] []
  | cons {x : D} {v : V} {xs : List D} {vs : List V} {f fs : List Addr} : Rep g Z H x v f → Reps g Z H xs vs fs → Reps g Z H (x :: xs) (v :: vs) (f ++ fs)
end
section
variable {g : Gv} {Z Z' : Addr → Prop} {H H' : Hp}
structure Kp (Z : Addr → Prop) (fp : List Addr) (H H' : Hp) : Prop where
  tup : ∀ a vs, Rd H a (.tup vs) → Rd H' a (.tup vs)
  frz : ∀ a ob vs, H a = some (.frz ob (.lst vs)) → H' a = some (.frz ob (.lst vs))
  z : ∀ a o, Z a → H a = some o → NT o → H' a = some o
  own : ∀ a o, a ∈ fp → H a = some o → NT o → H' a = some o
  xd : ∀ a fs, H a = some (.xd fs) → H' a = some (.xd fs)
theorem Same.rd {a : Addr} {u : HO} (s : Same H H') (h : Rd H a u) : Rd H' a u := by
  rcases h with h | ⟨o, h⟩
  · exact .inl (s _ _ h)
  · exact .inr ⟨o, s _ _ h⟩
theorem Kp.of_same {fp : List Addr} (s : Same H H') : Kp Z fp H H' := ⟨fun _ _ h => Same.rd s h, fun _ _ _ h => s _ _ h, fun _ _ _ h _ => s _ _ h, fun _ _ _ h _ => s _ _ h, fun _ _ h => s _ _ h⟩
theorem Kp.sub {fp fp' : List Addr} (k : Kp Z fp H H') (h : ∀ a ∈ fp', a ∈ fp) : Kp Z fp' H H' := ⟨k.tup, k.frz, k.z, fun a o m => k.own a o (h a m), k.xd⟩
theorem Kp.out {fp : List Addr} (k : Kp Z fp H H') : Kp Z [] H H' := ⟨k.tup, k.frz, k.z, (fun _ _ m => nomatch m), k.xd⟩
theorem sqT_keep {a : Addr} {vs : List V} (k : ∀ a vs, Rd H a (.tup vs) → Rd H' a (.tup vs)) (h : SqT g.K H a vs) : SqT g.K H' a vs := by
  rcases h with h | h
  · exact .inl (k _ _ h)
  · exact .inr h
theorem sqF_keep {a : Addr} {vs : List V} (k : ∀ a ob vs, H a = some (.frz ob (.lst vs)) → H' a = some (.frz ob (.lst vs))) (h : SqF g.K H a vs) : SqF g.K H' a vs := by
  rcases h with ⟨ob, h⟩ | h
  · exact .inl ⟨ob, k _ _ _ h⟩
  · exact .inr h
mutual
theorem KRepS.keep (k : ∀ a vs, Rd H a (.tup vs) → Rd H' a (.tup vs)) : ∀ {q : NestedKey} {v : V}, KRepS g.K H q v → KRepS g.K H' q v
  | _, _, .none => .none
  | _, _, .num i => .num i
  | _, _, .text x => .text x
  | _, _, .tup h hs => .tup (sqT_keep k h) (KReps.keep k hs)
theorem KReps.keep (k : ∀ a vs, Rd H a (.tup vs) → Rd H' a (.tup vs)) : ∀ {qs : List NestedKey} {vs : List V}, KReps g.K H qs vs → KReps g.K H' qs vs
  | _, _, .nil => .nil
  | _, _, .cons h hs => .cons (KRepS.keep k h) (KReps.keep k hs)
end
theorem KRep.keep (k : ∀ a vs, Rd H a (.tup vs) → Rd H' a (.tup vs)) {q : NestedKey} {v : V} (h : KRep g.K H q v) : KRep g.K H' q v := by
  rcases h with h | ⟨a, b, r, h1, h2, h3⟩
  · exact .inl (h.keep k)
  · exact .inr ⟨a, b, r, h1, h2, sqT_keep k h3⟩
theorem OwnP.mono {o : Bool} {a : Addr} {fs fp : List Addr} (hz : ∀ a, Z a → Z' a) (h : OwnP Z o a fs fp) : OwnP Z' o a fs fp := by
  rcases h with h | ⟨h1, h2, h3, h4⟩
  · exact .inl h
  · exact .inr ⟨h1, h2, h3, hz _ h4⟩
theorem OwnP.at {o : Bool} {a : Addr} {fs fp : List Addr} {u : HO} (k : Kp Z fp H H') (w : OwnP Z o a fs fp) (h : H a = some u) (n : NT u) : H' a = some u := by
  rcases w with ⟨_, e⟩ | ⟨_, _, _, hz⟩
  · exact k.own _ _ (by rw [e]; exact List.mem_cons_self) h n
  · exact k.z _ _ hz h n
theorem OwnP.sub {o : Bool} {a : Addr} {fs fp : List Addr} (w : OwnP Z o a fs fp) : ∀ b ∈ fs, b ∈ fp := fun b hb => by
  rcases w with ⟨_, e⟩ | ⟨_, e, _, _⟩
  · rw [e]; exact List.mem_cons_of_mem _ hb
  · rw [e] at hb; cases hb
mutual
theorem Rep.keep (hz : ∀ a, Z a → Z' a) : ∀ {d : D} {v : V} {fp : List Addr}, Rep g Z H d v fp → Kp Z fp H H' → Rep g Z' H' d v fp
  | _, _, _, .non, _ => .non
  | _, _, _, .bl b, _ => .bl b
  | _, _, _, .int i, _ => .int i
  | _, _, _, .str x, _ => .str x
  | _, _, _, .tup h hs, k => .tup (sqT_keep k.tup h) (Reps.keep hz hs k)
  | _, _, _, .lst h hs w, k => .lst (w.at k h nt_lst) (Reps.keep hz hs (k.sub w.sub)) (w.mono hz)
  | _, _, _, .lstR h hs, k => .lstR (sqF_keep k.frz h) (Reps.keep hz hs k)
  | _, _, _, .dK h e hs w, k => .dK (w.at k h nt_dK) e (Reps.keep hz hs k.out) (w.mono hz)
  | _, _, _, .dN h e ne hk hs w, k => .dN (w.at k h nt_raw) e ne (fun p hp => ⟨KRep.keep k.tup (hk p hp).1, (hk p hp).2⟩) (Reps.keep hz hs k.out) (w.mono hz)
  | _, _, _, .exc0 e, k => .exc0 e
  | _, _, _, .excD e c h l hs, k => .excD e c (k.xd _ _ h) l (Reps.keep hz hs k.out)
  | _, _, _, .ins c h z l hs, k => .ins c (k.z _ _ z h nt_ins) (hz _ z) l (Reps.keep hz hs k.out)
  | _, _, _, .box b h e hs z, k => .box b (k.z _ _ z h nt_frz) e (Reps.keep hz hs k.out) (hz _ z)
  | _, _, _, @Rep.opq _ _ _ _ q _ _ _ e i n c p, k => .opq e i n c (q.keep (fun a o z h f => ⟨hz a z, k.z a o z h f.1⟩) k.tup p)
theorem Reps.keep (hz : ∀ a, Z a → Z' a) : ∀ {ds : List D} {vs : List V} {fp : List Addr}, Reps g Z H ds vs fp → Kp Z fp H H' → Reps g Z' H' ds vs fp
  | _, _, _, .nil, _ => .nil
  | _, _, _, .cons h hs, k => .cons (Rep.keep hz h (k.sub fun _ hb => List.mem_append_left _ hb)) (Reps.keep hz hs (k.sub fun _ hb => List.mem_append_right _ hb))
end
theorem Rep.same {d : D} {v : V} {fp : List Addr} (r : Rep g Z H d v fp) (hz : ∀ a, Z a → Z' a) (s : Same H H') : Rep g Z' H' d v fp := r.keep hz (.of_same s)
theorem Reps.same {d : List D} {v : List V} {fp : List Addr} (r : Reps g Z H d v fp) (hz : ∀ a, Z a → Z' a) (s : Same H H') : Reps g Z' H' d v fp := r.keep hz (.of_same s)
mutual
theorem Rep.clean : ∀ {d : D} {v : V} {fp : List Addr}, Rep g Z H d v fp → clean d = true → fp = []
  | _, _, _, .non, _ => rfl
  | _, _, _, .bl b, _ => rfl
  | _, _, _, .int i, _ => rfl
  | _, _, _, .str x, _ => rfl
  | _, _, _, .tup h hs, c => Reps.clean hs (by simpa [DI.clean] using c)
  | _, _, _, .lst h hs w, c => by
    simp only [DI.clean, Bool.and_eq_true, Bool.not_eq_true'] at c
    rcases w with ⟨e, _⟩ | ⟨_, _, e, _⟩
    · rw [c.1] at e; cases e
    · exact e
  | _, _, _, .lstR h hs, _ => rfl
  | _, _, _, .dK h e hs w, c => by
    simp only [DI.clean, Bool.not_eq_true'] at c
    rcases w with ⟨e, _⟩ | ⟨_, _, e, _⟩
    · rw [c] at e; cases e
    · exact e
  | _, _, _, .dN h e ne hk hs w, c => by
    simp only [DI.clean, Bool.not_eq_true'] at c
    rcases w with ⟨e, _⟩ | ⟨_, _, e, _⟩
    · rw [c] at e; cases e
    · exact e
  | _, _, _, .exc0 e, _ => rfl
  | _, _, _, .excD e c h l hs, _ => rfl
  | _, _, _, .ins c h z l hs, _ => rfl
  | _, _, _, .box b h e hs z, _ => rfl
  | _, _, _, .opq _ _ _ _ _, _ => rfl
theorem Reps.clean : ∀ {ds : List D} {vs : List V} {fp : List Addr}, Reps g Z H ds vs fp → cleanL ds = true → fp = []
  | _, _, _, .nil, _ => rfl
  | _, _, _, .cons h hs, c => by
    simp only [cleanL, Bool.and_eq_true] at c
    rw [Rep.clean h c.1, Reps.clean hs c.2]
    rfl
end
mutual
/-- frozen: its addresses are in the zone from now on -/
theorem Rep.frz (hz : ∀ a, Z a → Z' a) : ∀ {d : D} {v : V} {fp : List Addr}, Rep g Z H d v fp → (∀ a ∈ fp, Z' a) → Rep g Z' H (frz d) v []
  | _, _, _, .non, _ => .non
  | _, _, _, .bl b, _ => .bl b
  | _, _, _, .int i, _ => .int i
  | _, _, _, .str x, _ => .str x
  | _, _, _, .tup h hs, k => .tup h (Reps.frz hz hs k)
  | _, _, _, .lst h hs w, k => by
    refine .lst h (Reps.frz hz hs fun a ha => k a (w.sub a ha)) (.inr ⟨rfl, rfl, rfl, ?_⟩)
    rcases w with ⟨_, e⟩ | ⟨_, _, _, z⟩
    · exact k _ (by rw [e]; exact List.mem_cons_self)
    · exact hz _ z
  | _, _, _, .lstR h hs, k => .lstR h (Reps.frz hz hs k)
  | _, _, _, .dK h e hs w, k => by
    refine .dK h e (hs.same hz fun _ _ e => e) (.inr ⟨rfl, rfl, rfl, ?_⟩)
    rcases w with ⟨_, e⟩ | ⟨_, _, _, z⟩
    · exact k _ (by rw [e]; exact List.mem_cons_self)
    · exact hz _ z
  | _, _, _, .dN h e ne hk hs w, k => by
    refine .dN h e ne hk (hs.same hz fun _ _ e => e) (.inr ⟨rfl, rfl, rfl, ?_⟩)
    rcases w with ⟨_, e⟩ | ⟨_, _, _, z⟩
    · exact k _ (by rw [e]; exact List.mem_cons_self)
    · exact hz _ z
  | _, _, _, .exc0 e, k => by rw [DI.frz, DI.frzL]; exact .exc0 e
  | _, _, _, .excD e c h l hs, k => by rw [DI.frz]; exact .excD e c h l (Reps.frz hz hs fun a ha => nomatch ha)
  | _, _, _, .ins c h z l hs, k => by rw [DI.frz]; exact .ins c h (hz _ z) l (Reps.frz hz hs fun a ha => nomatch ha)
  | _, _, _, .box b h e hs z, k => by rw [DI.frz, frzL, DI.frz, frzL]; exact .box b h e (hs.same hz fun _ _ e => e) (hz _ z)
  | _, _, _, @Rep.opq _ _ _ _ q _ _ _ e i n c p, k => by rw [DI.frz, frzL, frz_clean _ c, frzL]; exact .opq e i n c (q.keep (fun a o z h f => ⟨hz a z, h⟩) (fun _ _ h => h) p)
theorem Reps.frz (hz : ∀ a, Z a → Z' a) : ∀ {ds : List D} {vs : List V} {fp : List Addr}, Reps g Z H ds vs fp → (∀ a ∈ fp, Z' a) → Reps g Z' H (frzL ds) vs []
  | _, _, _, .nil, _ => .nil
  | _, _, _, .cons h hs, k => .cons (f := []) (fs := []) (Rep.frz hz h fun a ha => k a (List.mem_append_left _ ha)) (Reps.frz hz hs fun a ha => k a (List.mem_append_right _ ha))
end
mutual
/-- no frozen thing within: the zone doesn't matter -/
theorem Rep.unzone : ∀ {d : D} {v : V} {fp : List Addr}, Rep g Z H d v fp → noFrz d = true → Rep g Z' H d v fp
  | _, _, _, .non, _ => .non
  | _, _, _, .bl b, _ => .bl b
  | _, _, _, .int i, _ => .int i
  | _, _, _, .str x, _ => .str x
  | _, _, _, .tup h hs, c => .tup h (Reps.unzone hs (by simpa [noFrz] using c))
  | _, _, _, .lst h hs w, c => by
    simp only [noFrz, Bool.and_eq_true] at c
    refine .lst h (Reps.unzone hs c.2) ?_
    rcases w with w | ⟨e, _⟩
    · exact .inl w
    · rw [c.1] at e; cases e
  | _, _, _, .lstR h hs, c => by simp [noFrz] at c
  | _, _, _, .dK h e hs w, c => by
    simp only [noFrz, noFrzK_map, Bool.and_eq_true] at c
    refine .dK h e (Reps.unzone hs c.2) ?_
    rcases w with w | ⟨e, _⟩
    · exact .inl w
    · rw [c.1] at e; cases e
  | _, _, _, .dN h e ne hk hs w, c => by
    simp only [noFrz, noFrzK_map, Bool.and_eq_true] at c
    refine .dN h e ne hk (Reps.unzone hs c.2) ?_
    rcases w with w | ⟨e, _⟩
    · exact .inl w
    · rw [c.1] at e; cases e
  | _, _, _, .exc0 e, c => by simp [noFrz] at c
  | _, _, _, .excD e c' h l hs, c => by simp [noFrz] at c
  | _, _, _, .ins c' h z l hs, c => by simp [noFrz] at c
  | _, _, _, .box b h e hs z, c => by simp [noFrz] at c
  | _, _, _, .opq _ _ _ _ _, c => by simp [noFrz] at c
theorem Reps.unzone : ∀ {ds : List D} {vs : List V} {fp : List Addr}, Reps g Z H ds vs fp → noFrzL ds = true → Reps g Z' H ds vs fp
  | _, _, _, .nil, _ => .nil
  | _, _, _, .cons h hs, c => by
    simp only [noFrzL, Bool.and_eq_true] at c
    exact .cons (Rep.unzone h c.1) (Reps.unzone hs c.2)
end
end
end DI
namespace DI
open PySem PySem.Spec PyProof.Rows L2
def ExR (g : Gv) (c : Nat) (fs : List D) (cls : Value) (d : Option Addr) (H : Hp) : Prop :=
  ∃ C ns, g.cls c = some (C, ns) ∧ cls = .ref C ∧ ((ns = [] ∧ fs = [] ∧ d = none) ∨
    (ns ≠ [] ∧ ∃ dd vs, d = some dd ∧ H dd = some (.xd (ns.zip vs)) ∧ vs.length = ns.length ∧ Reps g (fun _ => False) H fs vs []))
structure Zx (Z Z' : Addr → Prop) (H H' : Hp) : Prop where
  le : ∀ a, Z a → Z' a
  new : ∀ a, Z' a → Z a ∨ H a = none
  inn : ∀ a, Z' a → H' a ≠ none
theorem same_refl (H : Hp) : Same H H := fun _ _ e => e
theorem same_trans {H H1 H2 : Hp} (a : Same H H1) (b : Same H1 H2) : Same H H2 := fun x o e => b x o (a x o e)
theorem same_none {H H' : Hp} (s : Same H H') {a : Addr} (h : H' a = none) : H a = none := by
  cases e : H a with
  | none => rfl
  | some o => rw [s a o e] at h; cases h
theorem same_upd {H : Hp} {p : Addr} {o : HO} (h : H p = none) : Same H (upd H p o) := fun b x e => by
  rw [upd_ne (ne_of_none e h)]
  exact e
theorem Zx.refl {Z : Addr → Prop} {H : Hp} (h : ∀ a, Z a → H a ≠ none) : Zx Z Z H H := ⟨fun _ z => z, fun _ z => .inl z, h⟩
theorem Zx.trans {Z Z1 Z2 : Addr → Prop} {H H1 H2 : Hp} (s : Same H H1) (a : Zx Z Z1 H H1) (b : Zx Z1 Z2 H1 H2) : Zx Z Z2 H H2 :=
  ⟨fun x z => b.le x (a.le x z), fun x z => by
    rcases b.new x z with h | h
    · exact a.new x h
    · exact .inr (same_none s h), b.inn⟩
theorem Zx.stay {Z : Addr → Prop} {H H' : Hp} (h : ∀ a, Z a → H a ≠ none) (s : Same H H') : Zx Z Z H H' := ⟨fun _ z => z, fun _ z => .inl z, fun a z e => h a z (same_none s e)⟩
structure PostE (g : Gv) (b : Bool) (Z Z' : Addr → Prop) (H H' : Hp) (d : D) (v : V) (fp : List Addr) : Prop where
  same : Same H H'
  zx : Zx Z Z' H H'
  rep : Rep g Z' H' d v fp
  own : b = true → fp.Nodup ∧ ∀ a ∈ fp, H a = none ∧ ¬ Z' a
structure SR (g : Gv) (H0 : Hp) (Z : Addr → Prop) (fps : List (List Addr)) (σl : Sl) (σ : L2.St) (H : Hp) : Prop where
  len : σl.length = σ.length
  lenf : fps.length = σ.length
  slot : ∀ (i : Nat) (d : D), σl[i]? = some (some d) → ∃ v fp, σ[i]? = some (some v) ∧ fps[i]? = some fp ∧ Rep g Z H d v fp
  gone : ∀ (i : Nat), σl[i]? = some none → fps[i]? = some []
  nd : fps.flatten.Nodup
  own : ∀ a ∈ fps.flatten, ¬ Z a ∧ H0 a = none ∧ H a ≠ none
  z : ∀ a, Z a → H a ≠ none
  same : Same H0 H
section
variable {g : Gv} {W : L2.WX} {Z Z1 Z' : Addr → Prop} {H0 H H1 H' : Hp} {fps : List (List Addr)} {σl : Sl} {σ : L2.St}
theorem SR.step (r : SR g H0 Z fps σl σ H) (s : Same H H1) (z : Zx Z Z1 H H1) : SR g H0 Z1 fps σl σ H1 where
  len := r.len
  lenf := r.lenf
  slot := fun i d e => by
    obtain ⟨v, fp, e1, e2, rp⟩ := r.slot i d e
    exact ⟨v, fp, e1, e2, rp.same z.le s⟩
  gone := r.gone
  nd := r.nd
  own := fun a ha => by
    obtain ⟨h1, h2, h3⟩ := r.own a ha
    refine ⟨fun q => ?_, h2, fun e => h3 (same_none s e)⟩
    rcases z.new a q with q | q
    · exact h1 q
    · exact h3 q
  z := z.inn
  same := same_trans r.same s
theorem PostE.pre {b : Bool} {d : D} {v : V} {fp : List Addr} (s : Same H H1) (z : Zx Z Z1 H H1) (p : PostE g b Z1 Z' H1 H' d v fp) : PostE g b Z Z' H H' d v fp :=
  ⟨same_trans s p.same, z.trans s p.zx, p.rep, fun e => ⟨(p.own e).1, fun a ha => ⟨same_none s ((p.own e).2 a ha).1, ((p.own e).2 a ha).2⟩⟩⟩
theorem PostE.borrow {b : Bool} {d : D} {v : V} {fp : List Addr} (p : PostE g b Z Z' H H' d v fp) : PostE g false Z Z' H H' d v fp := ⟨p.same, p.zx, p.rep, fun e => by cases e⟩
def Out {α : Type} (g : Gv) (W : L2.WX) (Z : Addr → Prop) (σ : L2.St) (H : Hp) (r : R α) (P : α → Prop) : Prop :=
  match r with
  | .ok a => P a
  | .err c fs => ∀ H' Z' cls d, Same H H' → Zx Z Z' H H' → ExR g c fs cls d H' → W cls d σ H'
  | .bad => False
theorem Out.bind {α β : Type} {r : R α} {k : α → R β} {P : β → Prop} (h : Out g W Z σ H (r.bind k) P) : Out g W Z σ H r fun a => Out g W Z σ H (k a) P := by
  cases r with
  | ok a => exact h
  | err c fs => exact h
  | bad => exact h
theorem Out.imp {α : Type} {r : R α} {P P' : α → Prop} (h : Out g W Z σ H r P) (hp : ∀ a, P a → P' a) : Out g W Z σ H r P' := by
  cases r with
  | ok a => exact hp a h
  | err c fs => exact h
  | bad => exact h
theorem Out.step {α : Type} {r : R α} {P P' : α → Prop} (h : Out g W Z σ H r P) (s : Same H H1) (z : Zx Z Z1 H H1) (hp : ∀ a, P a → P' a) : Out g W Z1 σ H1 r P' := by
  cases r with
  | ok a => exact hp a h
  | err c fs => exact fun H' Z' cls d s' z' e => h H' Z' cls d (same_trans s s') (z.trans s z') e
  | bad => exact h
theorem Out.guard {α : Type} {c : Prop} [Decidable c] {r : R α} {P : α → Prop} (h : Out g W Z σ H (if c then r else .bad) P) : c ∧ Out g W Z σ H r P := by
  by_cases hc : c
  · rw [if_pos hc] at h; exact ⟨hc, h⟩
  · rw [if_neg hc] at h; exact h.elim
theorem Out.okOf {α : Type} {r : R α} {P : α → Prop} (h : Out g W Z σ H r P) (hn : ∀ c fs, r ≠ .err c fs) : ∃ a, r = .ok a ∧ P a := by
  cases r with
  | ok a => exact ⟨a, rfl, h⟩
  | err c fs => exact absurd rfl (hn c fs)
  | bad => exact h.elim
def tI (g : Gv) (W : L2.WX) (b : Bool) (f : Sl → R D) : TE := fun σ H Q => ∃ H0 Z fps σl, SR g H0 Z fps σl σ H ∧ Out g W Z σ H (f σl) fun d => ∀ v H' Z' fp, PostE g b Z Z' H H' d v fp → Q v H'
structure PostA (g : Gv) (b : Bool) (Z Z' : Addr → Prop) (H H' : Hp) (ds : List D) (vs : List V) (fp : List Addr) : Prop where
  same : Same H H'
  zx : Zx Z Z' H H'
  rep : Reps g Z' H' ds vs fp
  own : b = true → fp.Nodup ∧ ∀ a ∈ fp, H a = none ∧ ¬ Z' a
def tIA (g : Gv) (W : L2.WX) (b : Bool) (f : Sl → R D) : TA := fun σ H Q => ∃ H0 Z fps σl, SR g H0 Z fps σl σ H ∧ Out g W Z σ H (f σl) fun d => ∃ ds, d = .tup ds ∧ ∀ vs H' Z' fp, PostA g b Z Z' H H' ds vs fp → Q vs H'
def tIT (g : Gv) (W : L2.WX) (f : Sl → R D) : TT := fun σ H Q => ∃ H0 Z fps σl, SR g H0 Z fps σl σ H ∧ Out g W Z σ H (f σl) fun d => ∃ b, d = .bl b ∧ ∀ H' Z', Same H H' → Zx Z Z' H H' → Q b H'
end
theorem _root_.L2.PE.imp {X : Cx} {e : Expr} {t t' : TE} (h : PE X e t) (hi : ∀ σ H Q, t' σ H Q → t σ H Q) : PE X e t' := ⟨fun pins s σ H Q I q => h.run pins s σ H Q I (hi _ _ _ q)⟩
theorem _root_.L2.PT.imp {X : Cx} {e : Expr} {t t' : TT} (h : PT X e t) (hi : ∀ σ H Q, t' σ H Q → t σ H Q) : PT X e t' := ⟨fun pins s σ H Q I q => h.run pins s σ H Q I (hi _ _ _ q)⟩
theorem _root_.L2.PW.imp {X : Cx} {e : Expr} {t t' : TT} (h : PW X e t) (hi : ∀ σ H Q, t' σ H Q → t σ H Q) : PW X e t' := ⟨fun wh pins s σ H Q I q => h.run wh pins s σ H Q I (hi _ _ _ q)⟩
theorem _root_.L2.PA.imp {X : Cx} {e : List Expr} {t t' : TA} (h : PA X e t) (hi : ∀ σ H Q, t' σ H Q → t σ H Q) : PA X e t' := ⟨fun pos pins s σ H Q I q => h.run pos pins s σ H Q I (hi _ _ _ q)⟩
theorem _root_.L2.PS.imp {X : Cx} {e : Stmt} {t t' : TS} (h : PS X e t) (hi : ∀ D σ H, t' D σ H → t D σ H) : PS X e t' := ⟨fun pins s σ H Q I q => h.run pins s σ H Q I (hi _ _ _ q)⟩
theorem _root_.L2.PSs.imp {X : Cx} {e : List Stmt} {t t' : TS} (h : PSs X e t) (hi : ∀ D σ H, t' D σ H → t D σ H) : PSs X e t' := ⟨fun pins s σ H Q I q => h.run pins s σ H Q I (hi _ _ _ q)⟩
theorem _root_.L2.PI.imp {X : Cx} {tg e : Expr} {t t' : TI} (h : PI X tg e t) (hi : ∀ σ H Q, t' σ H Q → t σ H Q) : PI X tg e t' := ⟨fun pins s σ H Q I q => h.run pins s σ H Q I (hi _ _ _ q)⟩
structure Gof (g : Gv) (X : Cx) : Prop where
  P : X.prog = g.P
  w : X.w = g.w
  K : X.K = g.K
section
variable {X : Cx} {g : Gv} {W : L2.WX} {a b c : Expr} {fa fb fc : Sl → R D} {ba bb bc : Bool} {pos : Pos}
def OpD (g : Gv) (W : L2.WX) (bo : Bool) (r : R2) (h : D → D → R D) : Prop := ∀ (Z : Addr → Prop) (σ : L2.St) (H : Hp) (x y : D) (v u : V) (fx fy : List Addr) (Q : VK), (∀ a, Z a → H a ≠ none) → Rep g Z H x v fx → Rep g Z H y u fy →
  Out g W Z σ H (h x y) (fun d => ∀ v H' Z' fp, PostE g bo Z Z' H H' d v fp → Q v H') → r v u H Q
theorem tOp_of {r : R2} {h : D → D → R D} {bo : Bool} (hr : OpD g W bo r h) {σ : L2.St} {H : Hp} {Q : VK} (q : tI g W bo (fun σ => (fa σ).bind fun x => (fb σ).bind fun y => h x y) σ H Q) :
    tOp r (tI g W ba fa) (tI g W bb fb) σ H Q := by
  obtain ⟨H0, Z, fps, σl, sr, o⟩ := q
  refine ⟨H0, Z, fps, σl, sr, o.bind.imp fun x h v1 H1 Z1 fp1 p1 => ?_⟩
  refine ⟨H0, Z1, fps, σl, sr.step p1.same p1.zx, h.bind.step p1.same p1.zx fun y h2 v2 H2 Z2 fp2 p2 => ?_⟩
  have s2 := same_trans p1.same p2.same
  have z2 := p1.zx.trans p1.same p2.zx
  exact hr Z2 σ H2 x y v1 v2 fp1 fp2 Q p2.zx.inn (p1.rep.same p2.zx.le p2.same) p2.rep (h2.step s2 z2 fun d q v H' Z' fp p => q v H' Z' fp (p.pre s2 z2))
theorem se_bin {op : Operator} {r : R2} {h : D → D → R D} {bo : Bool} (ho : OpR X (binaryOp op) r) (hr : OpD g W bo r h) (ha : PE X a (tI g W ba fa)) (hb : PE X b (tI g W bb fb)) :
    PE X (.BinOp a op b pos) (tI g W bo fun σ => (fa σ).bind fun x => (fb σ).bind fun y => h x y) := (pe_op ho ha hb).imp fun _ _ _ q => tOp_of hr q
theorem se_cmp {op : CmpOp} {r : R2} {h : D → D → R D} {bo : Bool} (ho : OpR X (compareOp op) r) (hr : OpD g W bo r h) (ha : PE X a (tI g W ba fa)) (hb : PE X b (tI g W bb fb)) (hm : behindInMarks op b = false) :
    PE X (.Compare a [op] [b] pos) (tI g W bo fun σ => (fa σ).bind fun x => (fb σ).bind fun y => h x y) := (pe_cmpR ho ha hb hm).imp fun _ _ _ q => tOp_of hr q
theorem st_cmp {op : CmpOp} {r : R2} {h : D → D → R D} (ho : OpR X (compareOp op) r) (hr : OpD g W true r h) (ha : PE X a (tI g W ba fa)) (hb : PE X b (tI g W bb fb)) (hm : behindInMarks op b = false) :
    PT X (.Compare a [op] [b] pos) (tIT g W fun σ => (fa σ).bind fun x => (fb σ).bind fun y => h x y) := (pt_cmpR ho ha hb hm).imp fun σ H Q q => by
  refine tOp_of (bo := true) hr (Q := fun x H' => ∃ k, x = .bl k ∧ Q k H') ?_
  obtain ⟨H0, Z, fps, σl, sr, o⟩ := q
  refine ⟨H0, Z, fps, σl, sr, o.imp fun d ⟨k, e, q⟩ v H' Z' fp p => ?_⟩
  subst e
  have rp := p.rep
  cases rp
  exact ⟨k, rfl, q H' Z' p.same p.zx⟩
theorem se_ix {r : R2} {h : D → D → R D} {bo : Bool} (ho : IxR X r) (hr : OpD g W bo r h) (ha : PE X a (tI g W ba fa)) (hb : PE X b (tI g W bb fb)) (hs : PlainIx b) :
    PE X (.Subscript a b pos) (tI g W bo fun σ => (fa σ).bind fun x => (fb σ).bind fun y => h x y) := (pe_ix ho ha hb hs).imp fun _ _ _ q => tOp_of hr q
theorem post_sc {Z : Addr → Prop} {H : Hp} {d : D} {v : V} {bo : Bool} (hz : ∀ a, Z a → H a ≠ none) (r : Rep g Z H d v []) : PostE g bo Z Z H H d v [] :=
  ⟨same_refl H, .refl hz, r, fun _ => ⟨List.nodup_nil, fun _ h => nomatch h⟩⟩
theorem post_new {Z : Addr → Prop} {H : Hp} {d : D} {p : Addr} {o : HO} {fp : List Addr} {bo : Bool} (hz : ∀ a, Z a → H a ≠ none) (hp : H p = none) (r : Rep g Z (upd H p o) d (.ref p) fp) (hf : fp = [] ∨ fp = [p]) : PostE g bo Z Z H (upd H p o) d (.ref p) fp :=
  ⟨same_upd hp, .stay hz (same_upd hp), r, fun _ => by
    rcases hf with rfl | rfl
    · exact ⟨List.nodup_nil, fun _ h => nomatch h⟩
    · refine ⟨by simp, fun a ha => ?_⟩
      have e : a = p := by simpa using ha
      subst e
      exact ⟨hp, fun z => hz _ z hp⟩⟩
variable {Z : Addr → Prop} {H : Hp} {v u : V} {fp : List Addr}
theorem rep_int {i : Int} (r : Rep g Z H (.int i) v fp) : v = .int i ∧ fp = [] := by cases r; exact ⟨rfl, rfl⟩
theorem rep_bl {i : Bool} (r : Rep g Z H (.bl i) v fp) : v = .bl i ∧ fp = [] := by cases r; exact ⟨rfl, rfl⟩
theorem rep_str {i : Str} (r : Rep g Z H (.str i) v fp) : v = .str i ∧ fp = [] := by cases r; exact ⟨rfl, rfl⟩
theorem rep_non (r : Rep g Z H .non v fp) : v = .non ∧ fp = [] := by cases r; exact ⟨rfl, rfl⟩
theorem rep_tup {xs : List D} (r : Rep g Z H (.tup xs) v fp) : ∃ a vs, v = .ref a ∧ SqT g.K H a vs ∧ Reps g Z H xs vs fp := by
  cases r with
  | tup h hs => exact ⟨_, _, rfl, h, hs⟩
theorem Reps.get {xs : List D} {vs : List V} : ∀ {fp : List Addr}, Reps g Z H xs vs fp → ∀ (i : Nat) (x : D), xs[i]? = some x → ∃ v f, vs[i]? = some v ∧ Rep g Z H x v f ∧ (∀ a ∈ f, a ∈ fp) ∧ (fp.Nodup → f.Nodup) := by
  induction xs generalizing vs with
  | nil => intro fp _ i x e; simp at e
  | cons y ys ih =>
    intro fp r i x e
    cases r with
    | cons h hs =>
      cases i with
      | zero =>
        simp at e; subst e
        exact ⟨_, _, rfl, h, fun a ha => List.mem_append_left _ ha, fun n => (List.nodup_append.mp n).1⟩
      | succ i =>
        obtain ⟨v, f, e1, r1, s1, n1⟩ := ih hs i x (by simpa using e)
        exact ⟨v, f, by simpa using e1, r1, fun a ha => List.mem_append_right _ (s1 a ha), fun n => n1 (List.nodup_append.mp n).2.1⟩
theorem Reps.length : ∀ {xs : List D} {vs : List V} {fp : List Addr}, Reps g Z H xs vs fp → xs.length = vs.length
  | _, _, _, .nil => rfl
  | _, _, _, .cons _ t => by rw [List.length_cons, List.length_cons, Reps.length t]
theorem Reps.append : ∀ {xs ys : List D} {vs us : List V} {f1 f2 : List Addr}, Reps g Z H xs vs f1 → Reps g Z H ys us f2 → Reps g Z H (xs ++ ys) (vs ++ us) (f1 ++ f2)
  | _, _, _, _, _, _, .nil, s => s
  | _, _, _, _, _, _, .cons r t, s => by
    rw [List.append_assoc]
    exact .cons r (Reps.append t s)
theorem Reps.drop0 : ∀ {xs : List D} {vs : List V} (n : Nat), Reps g Z H xs vs [] → Reps g Z H (xs.drop n) (vs.drop n) []
  | xs, vs, 0, r => r
  | [], _, _ + 1, r => by cases r; exact .nil
  | x :: xs, _, n + 1, r => by
    generalize hf : ([] : List Addr) = f at r
    cases r with
    | cons h hs =>
      obtain ⟨e1, e2⟩ := List.append_eq_nil_iff.mp hf.symm
      subst e1 e2
      exact Reps.drop0 n hs
theorem Reps.take0 : ∀ {xs : List D} {vs : List V} (n : Nat), Reps g Z H xs vs [] → Reps g Z H (xs.take n) (vs.take n) []
  | xs, vs, 0, r => .nil
  | [], _, _ + 1, r => by cases r; exact .nil
  | x :: xs, _, n + 1, r => by
    generalize hf : ([] : List Addr) = f at r
    cases r with
    | cons h hs =>
      obtain ⟨e1, e2⟩ := List.append_eq_nil_iff.mp hf.symm
      subst e1 e2
      exact .cons (f := []) (fs := []) h (Reps.take0 n hs)
theorem Reps.to0 {xs : List D} {vs : List V} {fp : List Addr} (r : Reps g Z H xs vs fp) (c : cleanL xs = true) : Reps g Z H xs vs [] := by
  have e := r.clean c
  subst e
  exact r
theorem Rep.to0 {x : D} {v : V} {fp : List Addr} (r : Rep g Z H x v fp) (c : DI.clean x = true) : Rep g Z H x v [] := by
  have e := Rep.clean r c
  subst e
  exact r
mutual
theorem Rep.there : ∀ {d : D} {v : V} {fp : List Addr}, Rep g Z H d v fp → ∀ a ∈ fp, H a ≠ none
  | _, _, _, .non, _, h => nomatch h
  | _, _, _, .bl b, _, h => nomatch h
  | _, _, _, .int i, _, h => nomatch h
  | _, _, _, .str x, _, h => nomatch h
  | _, _, _, .tup _ hs, a, h => Reps.there hs a h
  | _, _, _, .lst e hs w, a, h => by
    rcases w with ⟨_, q⟩ | ⟨_, _, q, _⟩
    · rw [q] at h
      rcases List.mem_cons.mp h with rfl | h
      · rw [e]; exact Option.some_ne_none _
      · exact Reps.there hs a h
    · rw [q] at h; cases h
  | _, _, _, .lstR h hs, _, h' => nomatch h'
  | _, _, _, .dK e _ hs w, a, h => by
    rcases w with ⟨_, q⟩ | ⟨_, _, q, _⟩
    · rw [q] at h
      rw [List.mem_singleton.mp h, e]; exact Option.some_ne_none _
    · rw [q] at h; cases h
  | _, _, _, .dN e _ _ _ hs w, a, h => by
    rcases w with ⟨_, q⟩ | ⟨_, _, q, _⟩
    · rw [q] at h
      rw [List.mem_singleton.mp h, e]; exact Option.some_ne_none _
    · rw [q] at h; cases h
  | _, _, _, .exc0 _, _, h' => nomatch h'
  | _, _, _, .excD _ _ _ _ _, _, h' => nomatch h'
  | _, _, _, .ins _ _ _ _ _, _, h' => nomatch h'
  | _, _, _, .box _ _ _ _ _, _, h' => nomatch h'
  | _, _, _, .opq _ _ _ _ _, _, h' => nomatch h'
theorem Reps.there : ∀ {d : List D} {v : List V} {fp : List Addr}, Reps g Z H d v fp → ∀ a ∈ fp, H a ≠ none
  | _, _, _, .nil, _, h => nomatch h
  | _, _, _, .cons r hs, a, h => by
    rcases List.mem_append.mp h with h | h
    · exact Rep.there r a h
    · exact Reps.there hs a h
end
end
end DI
namespace DI
open PySem PySem.Spec PyProof.Rows L2
section
variable {g : Gv} {Z : Addr → Prop} {H : Hp}
mutual
theorem Rep.dp : ∀ {d : D} {v : V} {fp : List Addr} {p : PyData}, Rep g Z H d v fp → py d = some p → Dp g.K H v p
  | _, _, _, _, .non, e => by cases e; exact .non
  | _, _, _, _, .bl b, e => by cases e; exact .bl b
  | _, _, _, _, .int i, e => by cases e; exact .int i
  | _, _, _, _, .str x, e => by cases e; exact .str x
  | _, _, _, _, .tup h hs, e => by
    obtain ⟨ds, e1, rfl⟩ := Option.map_eq_some_iff.mp (show (pyL _).map PyData.tuple = some _ from e)
    exact .tup h (Reps.dp hs e1)
  | _, _, _, _, .lst h hs w, e => by
    obtain ⟨ds, e1, rfl⟩ := Option.map_eq_some_iff.mp (show (pyL _).map PyData.list = some _ from e)
    exact .lst (.of h) (Reps.dp hs e1)
  | _, _, _, _, .lstR h hs, e => by
    obtain ⟨ds, e1, rfl⟩ := Option.map_eq_some_iff.mp (show (pyL _).map PyData.list = some _ from e)
    exact .lst h.sqL (Reps.dp hs e1)
  | _, _, _, _, .dK h e hs w, q => by simp [py] at q
  | _, _, _, _, .dN h e ne hk hs w, q => by simp [py] at q
  | _, _, _, _, .exc0 _, q => by simp [py] at q
  | _, _, _, _, .excD _ _ _ _ _, q => by simp [py] at q
  | _, _, _, _, .ins _ _ _ _ _, q => by simp [py] at q
  | _, _, _, _, .box _ _ _ _ _, q => by simp [py] at q
  | _, _, _, _, .opq _ _ _ _ _, q => by simp [py] at q
theorem Reps.dp : ∀ {d : List D} {v : List V} {fp : List Addr} {p : List PyData}, Reps g Z H d v fp → pyL d = some p → DpAll g.K H v p
  | _, _, _, _, .nil, e => by cases e; exact .nil
  | _, _, _, _, .cons (x := x) (xs := xs) h hs, e => by
    have e : ((py x).bind fun d => (pyL xs).map fun ds => d :: ds) = some _ := e
    obtain ⟨d, e1, e2⟩ := Option.bind_eq_some_iff.mp e
    obtain ⟨ds, e3, rfl⟩ := Option.map_eq_some_iff.mp e2
    exact .cons (Rep.dp h e1) (Reps.dp hs e3)
end
theorem rep_own {xs : List D} {v : V} {fp : List Addr} (r : Rep g Z H (.lst true xs) v fp) : ∃ l vs fs, v = .ref l ∧ H l = some (.lst vs) ∧ Reps g Z H xs vs fs ∧ fp = l :: fs := by
  cases r with
  | lst h hs w =>
    rcases w with ⟨_, e⟩ | ⟨e, _⟩
    · exact ⟨_, _, _, rfl, h, hs, e⟩
    · cases e
theorem rep_lst' {o : Bool} {xs : List D} {v : V} {fp : List Addr} (r : Rep g Z H (.lst o xs) v fp) : ∃ a vs fs, v = .ref a ∧ SqL g.K H a vs ∧ Reps g Z H xs vs fs ∧ (∀ b ∈ fs, b ∈ fp) := by
  cases r with
  | lst h hs w => exact ⟨_, _, _, rfl, .of h, hs, w.sub⟩
  | lstR h hs => exact ⟨_, _, _, rfl, h.sqL, hs, fun _ h => nomatch h⟩
end
section
variable {X : Cx}
def rCatR : R2 := fun x y H Q => ∃ l b xs zs, x = .ref l ∧ y = .ref b ∧ Rd H l (.lst xs) ∧ Rd H b (.lst zs) ∧ xs.length + zs.length ≤ sizeLine ∧ ∀ p, H p = none → Q (.ref p) (upd H p (.lst (xs ++ zs)))
theorem op_catR : OpR X (binaryOp .Add) rCatR := by
  intro pins s σ H x y v u Q I rx ry h
  obtain ⟨l, b, xs, zs, rfl, rfl, hH, hB, hz, q⟩ := h
  cases rx
  cases ry
  obtain ⟨z, its, n, r, e⟩ := hH.ok I.hok
  obtain ⟨z2, its2, n2, r2, e2⟩ := hB.ok I.hok
  have hl := r.length
  have hl2 := r2.length
  refine PySem.P.add_list e e2 ?_ (by rw [List.size_toArray, List.size_toArray]; omega)
  have ea : its.toArray ++ its2.toArray = (its ++ its2).toArray := by simp
  rw [ea]
  exact ⟨.ref _, _, I.lnew (t' := s.toks) (r.append r2) (by rw [List.length_append]; omega), rfl, q _ I.fresh⟩
def rRepR : R2 := fun x y H Q => ∃ l k xs, x = .ref l ∧ y = .int k ∧ Rd H l (.lst xs) ∧ -(2 ^ 63) ≤ k ∧ k < 2 ^ 63 ∧ xs.length * k.toNat ≤ sizeLine ∧
  ∀ p, H p = none → Q (.ref p) (upd H p (.lst (List.replicate k.toNat xs).flatten))
theorem op_repR : OpR X (binaryOp .Mult) rRepR := by
  intro pins s σ H x y v u Q I rx ry h
  obtain ⟨l, k, xs, rfl, rfl, hH, h1, h2, hz, q⟩ := h
  cases rx
  obtain ⟨t, rfl⟩ := ry
  obtain ⟨z, its, n, r, e⟩ := hH.ok I.hok
  have hl := r.length
  have hlen : its.toArray.size * k.toNat ≤ sizeLine := by rw [List.size_toArray, ← hl]; exact hz
  have hcap : ¬ its.toArray.size * k.toNat > (2 ^ 63 - 1) / 8 := by
    have : (sizeLine : Nat) ≤ (2 ^ 63 - 1) / 8 := by decide
    omega
  have hfit : ¬ (!Builtin.List.listFitsIndex k) = true := by
    rw [fitsIndex_both h1 h2]
    exact Bool.false_ne_true
  have hlong : ¬ Builtin.List.listTooLong (its.toArray.size * k.toNat) = true := by
    rw [notLongL hlen]
    exact Bool.false_ne_true
  have hnew : List.foldl (fun x1 x2 => x1 ++ x2) #[] (List.replicate (if its.toArray.isEmpty = true then 0 else k.toNat) its.toArray) = (List.replicate k.toNat its).flatten.toArray := by
    have f0 : ∀ m : Nat, List.foldl (fun x1 x2 => x1 ++ x2) #[] (List.replicate m its.toArray) = (List.replicate m its).flatten.toArray := fun m => by
      have := foldl_rep its m []
      rw [List.nil_append] at this
      exact this
    rw [f0]
    cases its with
    | nil => simp
    | cons a r' => rw [if_neg (by simp)]
  refine wpAny_binaryOp_repeat_ref (T := "list") (U := "int") (by decide) ⟨_, e, rfl⟩ (fun s' => typeIs_int s' k t) noFill_list_mul F.fills_int_mul F.slot_int_rmul repeat_list F.slot_int_index.lookup
    (call_meets F.slot_int_rmul (typeIs_int s k t) F.entry_int_rmul (F.args_int_rmul_2 _ _) (int___rmul___int_list k t l its.toArray n)
      ⟨e, rfl, ⟨_, e, rfl⟩, call_meets F.slot_list_mul ⟨_, e, rfl⟩ F.entry_list_mul (F.args_list_mul_2 _ _) (AutoListH.list___mul___list_int_3 l its.toArray n k t hfit hcap hlong) ⟨e, ?_⟩⟩)
  rw [hnew]
  exact ⟨.ref _, _, I.lnew (t' := s.toks) (r.rep k.toNat) (by rw [PyProof.Rows.lm_len_rep_flat, Nat.mul_comm]; exact hz), rfl, q _ I.fresh⟩
def rInT (K : PySem.W.Frag) (neg : Bool) : R2 := fun x y H Q => ∃ d ds, Dp K H x d ∧ Dp K H y (.tuple ds) ∧ SeqAt.shaped d = true ∧ SeqAt.shaped (.list ds) = true ∧ Q (.bl (if neg = true then !ds.any fun z => PyData.eqv z d else ds.any fun z => PyData.eqv z d)) H
theorem in_tup_raw (hu : X.A.units + 65 < cLine) {pins : List (Addr × Obj)} {s : Shared} {σ : L2.St} {H : Hp} {x y : V} {v u : Value} {d : PyData} {ds : List PyData} (I : Inv X pins σ H s) (rx : RelV x v) (ry : RelV y u) (hd : Dp X.K H x d) (he : Dp X.K H y (.tuple ds))
    (sd : SeqAt.shaped d = true) (se : SeqAt.shaped (.list ds) = true) : ∃ (a : Addr) (its : List Value), u = .ref a ∧ IsTup s.heap a its.toArray ∧ (∀ w ∈ its.toArray, SeqAt.EqAt X.A.in1 s w v (PyData.eqv (SeqAt.readOf s.heap w) d)) ∧ (its.toArray.any fun w => PyData.eqv (SeqAt.readOf s.heap w) d) = ds.any fun z => PyData.eqv z d := by
  cases he with
  | tup hs ha =>
    cases ry
    obtain ⟨its, rv, ht, hlen⟩ := I.tuple hs
    obtain ⟨bs, r1⟩ := Dp.reads I d x v hd rx
    obtain ⟨as, h4⟩ := Dp.readsAll I ds _ its ha rv
    have hxs : PyData.canLayAll0 ds = true := SeqAt.canLay_of_shaped se
    have hroom : X.A.units + 1 + min (PyData.depthAll ds) d.depth < cLine := room_in_shaped sd hu
    have hmap : its.map (SeqAt.readOf s.heap) = ds := SeqAt.readsAll_map ds its as hxs h4
    refine ⟨_, its, rfl, ht, SeqAt.items_eqAt (vs := its.toArray) (show ReadsAll s.heap its.toArray.toList ds as from h4) r1 hxs (SeqAt.canLay_of_shaped sd) hroom, ?_⟩
    rw [← hmap, List.any_map]
    simp [Function.comp_def]
theorem op_inT (hu : X.A.units + 65 < cLine) : OpR X (compareOp .In) (rInT X.K false) := by
  intro pins s σ H x y v u Q I rx ry h
  obtain ⟨d, ds, hd, he, sd, se, q⟩ := h
  obtain ⟨a, its, rfl, ht, hq, e⟩ := in_tup_raw hu I rx ry hd he sd se
  refine SeqAt.in_tupleAt _ ht hq ⟨.bl _, H, I, rfl, ?_⟩
  rw [e]
  exact q
theorem op_notInT (hu : X.A.units + 65 < cLine) : OpR X (compareOp .NotIn) (rInT X.K true) := by
  intro pins s σ H x y v u Q I rx ry h
  obtain ⟨d, ds, hd, he, sd, se, q⟩ := h
  obtain ⟨a, its, rfl, ht, hq, e⟩ := in_tup_raw hu I rx ry hd he sd se
  refine SeqAt.notIn_tupleAt _ ht hq ⟨.bl _, H, I, rfl, ?_⟩
  rw [e]
  exact q
end
section
variable {X : Cx} {g : Gv} {W : L2.WX}
theorem cleanL_append {xs ys : List D} (a : cleanL xs = true) (b : cleanL ys = true) : cleanL (xs ++ ys) = true := by
  rw [cleanL_all] at a b ⊢
  rw [List.all_append, a, b]
  rfl
theorem reps_rep {Z : Addr → Prop} {H : Hp} {xs : List D} {vs : List V} (r : Reps g Z H xs vs []) : ∀ k : Nat, Reps g Z H (List.replicate k xs).flatten (List.replicate k vs).flatten []
  | 0 => .nil
  | k + 1 => by
    rw [List.replicate_succ, List.replicate_succ, List.flatten_cons, List.flatten_cons]
    exact r.append (reps_rep r k)
theorem own_new {Z : Addr → Prop} {p : Addr} : OwnP Z true p [] [p] := .inl ⟨rfl, rfl⟩
def rAddD (K : PySem.W.Frag) : R2 := fun x y H Q => (rI0 fun i j => .int (i + j)) x y H Q ∨ ((∃ i j, x = .str i ∧ y = .str j ∧ i.length + j.length ≤ sizeLine ∧ Q (.str (i ++ j)) H) ∨ (rCatR x y H Q ∨ rCatA K x y H Q))
theorem opr_add : OpR X (binaryOp .Add) (rAddD X.K) := op_add.or (op_add_str.or (op_catR.or op_catA))
theorem opd_add : OpD g W true (rAddD g.K) (binD .add) := by
  intro Z σ H x y v u fx fy Q hz rx ry o
  cases x with
  | int i =>
    cases y with
    | int j =>
      obtain ⟨rfl, _⟩ := rep_int rx
      obtain ⟨rfl, _⟩ := rep_int ry
      exact .inl ⟨i, j, rfl, rfl, o _ H Z [] (post_sc hz (.int _))⟩
    | _ => exact o.elim
  | str i =>
    cases y with
    | str j =>
      obtain ⟨rfl, _⟩ := rep_str rx
      obtain ⟨rfl, _⟩ := rep_str ry
      obtain ⟨hl, o⟩ := Out.guard o
      exact .inr (.inl ⟨i, j, rfl, rfl, hl, o _ H Z [] (post_sc hz (.str _))⟩)
    | _ => exact o.elim
  | lst o1 xs =>
    cases y with
    | lst o2 ys =>
      cases o1 with
      | false => exact o.elim
      | true =>
      cases o2 with
      | false => exact o.elim
      | true =>
      obtain ⟨hl, o⟩ := Out.guard o
      obtain ⟨a, vs, f1, rfl, h1, r1, _⟩ := rep_own rx
      obtain ⟨b, us, f2, rfl, h2, r2, _⟩ := rep_own ry
      obtain ⟨hc, hn⟩ := hl
      rw [Bool.and_eq_true] at hc
      have c1 := r1.to0 hc.1
      have c2 := r2.to0 hc.2
      refine .inr (.inr (.inl ⟨a, b, vs, us, rfl, rfl, .inl h1, .inl h2, by rw [← r1.length, ← r2.length]; exact hn, fun p hp => o _ _ Z [p] (post_new hz hp ?_ (.inr rfl))⟩))
      exact .lst upd_same ((c1.append c2).same (fun _ z => z) (same_upd hp)) own_new
    | _ => cases o1 <;> exact o.elim
  | tup xs =>
    cases y with
    | tup ys =>
      obtain ⟨hl, o⟩ := Out.guard o
      obtain ⟨a, vs, rfl, h1, r1⟩ := rep_tup rx
      obtain ⟨b, us, rfl, h2, r2⟩ := rep_tup ry
      obtain ⟨hc, hn⟩ := hl
      rw [Bool.and_eq_true] at hc
      have c1 := r1.to0 hc.1
      have c2 := r2.to0 hc.2
      have c3 := c1.append c2
      refine .inr (.inr (.inr ⟨a, b, vs, us, rfl, rfl, h1, h2, by rw [← r1.length, ← r2.length]; exact hn, fun e => ?_, fun _ e => ?_, fun _ _ p hp => ?_⟩))
      · subst e
        refine o _ H Z [] (post_sc hz (.tup h2 ?_))
        cases c1
        exact c2
      · subst e
        refine o _ H Z [] (post_sc hz (.tup h1 ?_))
        cases c2
        rw [List.append_nil]
        exact c1
      · exact o _ _ Z [] (post_new hz hp (.tup (.of upd_same) (c3.same (fun _ z => z) (same_upd hp))) (.inl rfl))
    | _ => exact o.elim
  | _ => exact o.elim
theorem opd_sub : OpD g W true (rI0 fun i j => .int (i - j)) (binD .sub) := by
  intro Z σ H x y v u fx fy Q hz rx ry o
  cases x with
  | int i =>
    cases y with
    | int j =>
      obtain ⟨rfl, _⟩ := rep_int rx
      obtain ⟨rfl, _⟩ := rep_int ry
      exact ⟨i, j, rfl, rfl, o _ H Z [] (post_sc hz (.int _))⟩
    | _ => exact o.elim
  | _ => exact o.elim
def rMulD : R2 := fun x y H Q => rI CMul (fun i j => .int (i * j)) x y H Q ∨ rRepR x y H Q
theorem opr_mul : OpR X (binaryOp .Mult) rMulD := op_mul.or op_repR
theorem cmul_of {i j : Int} (h : (small64 i || small64 j) = true) : CMul i j := by
  unfold small64 at h
  simp only [Bool.or_eq_true, Bool.and_eq_true, decide_eq_true_eq, lim64_eq] at h
  exact h
theorem opd_mul : OpD g W true rMulD (binD .mul) := by
  intro Z σ H x y v u fx fy Q hz rx ry o
  cases x with
  | int i =>
    cases y with
    | int j =>
      obtain ⟨rfl, _⟩ := rep_int rx
      obtain ⟨rfl, _⟩ := rep_int ry
      obtain ⟨hl, o⟩ := Out.guard o
      exact .inl ⟨i, j, rfl, rfl, cmul_of hl, o _ H Z [] (post_sc hz (.int _))⟩
    | _ => exact o.elim
  | lst o1 xs =>
    cases y with
    | int k =>
      cases o1 with
      | false => exact o.elim
      | true =>
      obtain ⟨hl, o⟩ := Out.guard o
      obtain ⟨hc, h12, h3⟩ := hl
      unfold small62 at h12
      simp only [Bool.and_eq_true, decide_eq_true_eq, lim62_eq] at h12
      obtain ⟨h1, h2⟩ := h12
      obtain ⟨a, vs, f1, rfl, hr, r1, _⟩ := rep_own rx
      obtain ⟨rfl, _⟩ := rep_int ry
      refine .inr ⟨a, k, vs, rfl, rfl, .inl hr, by omega, by omega, by rw [← r1.length]; exact h3, fun p hp => o _ _ Z [p] (post_new hz hp ?_ (.inr rfl))⟩
      exact .lst upd_same ((reps_rep (r1.to0 hc) k.toNat).same (fun _ z => z) (same_upd hp)) own_new
    | _ => cases o1 <;> exact o.elim
  | _ => exact o.elim
theorem opd_fdiv : OpD g W true (rI CDivW fun i j => .int (i / j)) (binD .fdiv) := by
  intro Z σ H x y v u fx fy Q hz rx ry o
  cases x with
  | int i =>
    cases y with
    | int j =>
      obtain ⟨rfl, _⟩ := rep_int rx
      obtain ⟨rfl, _⟩ := rep_int ry
      obtain ⟨hl, o⟩ := Out.guard o
      exact ⟨i, j, rfl, rfl, hl, o _ H Z [] (post_sc hz (.int _))⟩
    | _ => exact o.elim
  | _ => exact o.elim
theorem opd_mod : OpD g W true (rI (fun _ j => 0 < j) fun i j => .int (i % j)) (binD .mod) := by
  intro Z σ H x y v u fx fy Q hz rx ry o
  cases x with
  | int i =>
    cases y with
    | int j =>
      obtain ⟨rfl, _⟩ := rep_int rx
      obtain ⟨rfl, _⟩ := rep_int ry
      obtain ⟨hl, o⟩ := Out.guard o
      exact ⟨i, j, rfl, rfl, hl, o _ H Z [] (post_sc hz (.int _))⟩
    | _ => exact o.elim
  | _ => exact o.elim
end
end DI
namespace DI
open PySem PySem.Spec PyProof.Rows L2
section
variable {g : Gv} {Z : Addr → Prop} {H : Hp}
def atN (xs : List (NestedKey × Addr × V)) (k : NestedKey) : Option V := (xs.find? fun p => decide (p.1 = k)).map (·.2.2)
def putN (xs : List (NestedKey × Addr × V)) (k : NestedKey) (b : Addr) (v : V) : List (NestedKey × Addr × V) :=
  if (xs.any fun p => decide (p.1 = k)) = true then xs.map (fun p => if p.1 = k then (p.1, p.2.1, v) else p) else xs ++ [(k, b, v)]
abbrev PN : List (NestedKey × Addr × V) → List (NestedKey × Addr × Value) → Prop := Paired fun p q => p.1 = q.1 ∧ p.2.1 = q.2.1 ∧ RelV p.2.2 q.2.2
theorem PN.val {xs : List (NestedKey × Addr × V)} {ys : List (NestedKey × Addr × Value)} (r : PN xs ys) (k : NestedKey) : RelO (atN xs k) ((atKey ys k).map (·.2)) := by
  induction r with
  | nil => exact True.intro
  | @cons p q ps qs h t ih =>
    obtain ⟨h1, _, h2⟩ := h
    by_cases e : p.1 = k
    · have e' : q.1 = k := h1.symm.trans e
      have b : atKey (q :: qs) k = some q.2 := by simp [atKey, List.find?_cons, e']
      have c : atN (p :: ps) k = some p.2.2 := by simp [atN, List.find?_cons, e]
      rw [b, c]; exact h2
    · have e' : ¬ q.1 = k := fun z => e (h1.trans z)
      have b : atKey (q :: qs) k = atKey qs k := by simp [atKey, List.find?_cons, e']
      have c : atN (p :: ps) k = atN ps k := by simp [atN, List.find?_cons, e]
      rw [b, c]; exact ih
theorem PN.any {xs : List (NestedKey × Addr × V)} {ys : List (NestedKey × Addr × Value)} (r : PN xs ys) (k : NestedKey) : (xs.any fun p => decide (p.1 = k)) = (atKey ys k).isSome := by
  have h := (r.val k).isSome_eq
  rw [Option.isSome_map] at h
  rw [← h]
  unfold atN
  rw [Option.isSome_map, Bool.eq_iff_iff, List.any_eq_true, List.find?_isSome]
theorem PN.keys {xs : List (NestedKey × Addr × V)} {ys : List (NestedKey × Addr × Value)} (r : PN xs ys) : ys.map (·.1) = xs.map (·.1) := by
  induction r with
  | nil => rfl
  | cons hq t ih => rw [List.map_cons, List.map_cons, ih, hq.1]
theorem PN.length {xs : List (NestedKey × Addr × V)} {ys : List (NestedKey × Addr × Value)} (r : PN xs ys) : xs.length = ys.length := Paired.length r
theorem PN.repl {xs : List (NestedKey × Addr × V)} {ys : List (NestedKey × Addr × Value)} (r : PN xs ys) (k : NestedKey) {y : V} {u : Value} (ry : RelV y u) :
    PN (xs.map fun p => if p.1 = k then (p.1, p.2.1, y) else p) (ys.map (putAt k u)) := by
  induction r with
  | nil => exact .nil
  | @cons p q ps qs h t ih =>
    rw [List.map_cons, List.map_cons]
    refine .cons ?_ ih
    obtain ⟨h1, h2, h3⟩ := h
    unfold putAt
    by_cases e : p.1 = k
    · rw [if_pos e, if_pos (h1.symm.trans e)]; exact ⟨h1, h2, ry⟩
    · rw [if_neg e, if_neg (fun z => e (h1.trans z))]; exact ⟨h1, h2, h3⟩
theorem PN.put {xs : List (NestedKey × Addr × V)} {ys : List (NestedKey × Addr × Value)} (r : PN xs ys) (k : NestedKey) {b : Addr} {y : V} {u : Value} (ry : RelV y u) : PN (putN xs k b y) (storedH ys k b u) := by
  unfold putN storedH
  rw [r.any k]
  by_cases q : (atKey ys k).isSome = true
  · rw [if_pos q, if_pos q]; exact r.repl k ry
  · rw [if_neg q, if_neg q]; exact Paired.snoc r ⟨rfl, rfl, ry⟩
theorem reps_find {kvs : List (NestedKey × D)} {ws : List V} (r : Reps g Z H (kvs.map (·.2)) ws []) : ∀ {ks : List NestedKey}, ks = kvs.map (·.1) → ∀ (k : NestedKey),
    (match dget kvs k with | some d => ∃ v, ((ks.zip ws).find? fun p => decide (p.1 = k)).map (·.2) = some v ∧ Rep g Z H d v [] | none => ((ks.zip ws).find? fun p => decide (p.1 = k)) = none) := by
  induction kvs generalizing ws with
  | nil =>
    intro ks e k
    subst e
    simp [dget]
  | cons p r' ih =>
    intro ks e k
    subst e
    rw [List.map_cons] at r
    generalize hf : ([] : List Addr) = fp at r
    cases r with
    | cons h hs =>
      obtain ⟨e1, e2⟩ := List.append_eq_nil_iff.mp hf.symm
      subst e1 e2
      by_cases e : p.1 = k
      · have c : dget (p :: r') k = some p.2 := by simp [dget, List.find?_cons, e]
        rw [c]
        refine ⟨_, ?_, h⟩
        simp [List.find?_cons, e]
      · have c : dget (p :: r') k = dget r' k := by simp [dget, List.find?_cons, e]
        rw [c]
        have := ih hs rfl k
        simpa [List.find?_cons, e] using this
theorem zip_find_K {kv : List (Key × V)} : ∀ (q : Key), (((kv.map fun p => nk p.1).zip (kv.map (·.2))).find? fun p => decide (p.1 = nk q)).map (·.2) = valV kv q := by
  induction kv with
  | nil => intro q; rfl
  | cons p r ih =>
    intro q
    rw [List.map_cons, List.map_cons, List.zip_cons_cons]
    by_cases e : p.1 = q
    · rw [valV_pos e]; simp [List.find?_cons, e]
    · have e' : ¬ nk p.1 = nk q := fun z => e (by
        cases h1 : p.1 <;> cases h2 : q <;> rw [h1, h2] at z <;> simp [nk] at z <;> rw [z])
      rw [valV_neg e, List.find?_cons]
      simp only [decide_eq_false e']
      exact ih q
theorem zip_find_N {xs : List (NestedKey × Addr × V)} : ∀ (k : NestedKey), (((xs.map (·.1)).zip (xs.map (·.2.2))).find? fun p => decide (p.1 = k)).map (·.2) = atN xs k := by
  induction xs with
  | nil => intro q; rfl
  | cons p r ih =>
    intro k
    rw [List.map_cons, List.map_cons, List.zip_cons_cons]
    by_cases e : p.1 = k
    · simp [atN, List.find?_cons, e]
    · have := ih k
      simp only [atN] at this ⊢
      simpa [List.find?_cons, e] using this
theorem dget_K {kv : List (Key × V)} {kvs : List (NestedKey × D)} (e : (kv.map fun p => nk p.1) = kvs.map (·.1)) (r : Reps g Z H (kvs.map (·.2)) (kv.map (·.2)) []) (q : Key) :
    match dget kvs (nk q) with | some d => ∃ v, valV kv q = some v ∧ Rep g Z H d v [] | none => valV kv q = none := by
  have h := reps_find r e (nk q)
  cases hd : dget kvs (nk q) with
  | some d =>
    rw [hd] at h
    obtain ⟨v, h1, h2⟩ := h
    exact ⟨v, by rw [← zip_find_K]; exact h1, h2⟩
  | none =>
    rw [hd] at h
    show valV kv q = none
    rw [← zip_find_K, show (((kv.map fun p => nk p.1).zip (kv.map (·.2))).find? fun p => decide (p.1 = nk q)) = none from h]
    rfl
theorem dget_N {xs : List (NestedKey × Addr × V)} {kvs : List (NestedKey × D)} (e : xs.map (·.1) = kvs.map (·.1)) (r : Reps g Z H (kvs.map (·.2)) (xs.map (·.2.2)) []) (k : NestedKey) :
    match dget kvs k with | some d => ∃ v, atN xs k = some v ∧ Rep g Z H d v [] | none => atN xs k = none := by
  have h := reps_find r e k
  cases hd : dget kvs k with
  | some d =>
    rw [hd] at h
    obtain ⟨v, h1, h2⟩ := h
    exact ⟨v, by rw [← zip_find_N]; exact h1, h2⟩
  | none =>
    rw [hd] at h
    show atN xs k = none
    rw [← zip_find_N, show (((xs.map (·.1)).zip (xs.map (·.2.2))).find? fun p => decide (p.1 = k)) = none from h]
    rfl
end
section
variable {g : Gv} {Z : Addr → Prop} {H : Hp}
mutual
theorem Rep.krepS : ∀ {d : D} {v : V} {fp : List Addr} {k : NestedKey}, Rep g Z H d v fp → keyS d = some k → KRepS g.K H k v
  | _, _, _, _, .non, e => by cases e; exact .none
  | _, _, _, _, .bl b, e => by cases e
  | _, _, _, _, .int i, e => by cases e; exact .num i
  | _, _, _, _, .str x, e => by cases e; exact .text x
  | _, _, _, _, .tup h hs, e => by
    obtain ⟨ds, e1, rfl⟩ := Option.map_eq_some_iff.mp (show (keyL _).map NestedKey.tup = some _ from e)
    exact .tup h (Reps.krep hs e1)
  | _, _, _, _, .lst h hs w, e => by simp [keyS] at e
  | _, _, _, _, .lstR h hs, e => by simp [keyS] at e
  | _, _, _, _, .dK h e hs w, q => by simp [keyS] at q
  | _, _, _, _, .dN h e ne hk hs w, q => by simp [keyS] at q
  | _, _, _, _, .exc0 _, q => by simp [keyS] at q
  | _, _, _, _, .excD _ _ _ _ _, q => by simp [keyS] at q
  | _, _, _, _, .ins _ _ _ _ _, q => by simp [keyS] at q
  | _, _, _, _, .box _ _ _ _ _, q => by simp [keyS] at q
  | _, _, _, _, .opq _ _ _ _ _, q => by simp [keyS] at q
theorem Reps.krep : ∀ {d : List D} {v : List V} {fp : List Addr} {k : List NestedKey}, Reps g Z H d v fp → keyL d = some k → KReps g.K H k v
  | _, _, _, _, .nil, e => by cases e; exact .nil
  | _, _, _, _, .cons (x := x) (xs := xs) h hs, e => by
    have e : ((keyS x).bind fun d => (keyL xs).map fun ds => d :: ds) = some _ := e
    obtain ⟨d, e1, e2⟩ := Option.bind_eq_some_iff.mp e
    obtain ⟨ds, e3, rfl⟩ := Option.map_eq_some_iff.mp e2
    exact .cons (Rep.krepS h e1) (Reps.krep hs e3)
end
theorem Rep.krep {d : D} {v : V} {fp : List Addr} {k : NestedKey} (h : Rep g Z H d v fp) (e : key d = some k) : KRep g.K H k v := by
  unfold key at e
  split at e
  · rename_i b r
    cases e
    cases h with
    | tup h hs =>
      cases hs with
      | cons h1 hs =>
        cases hs with
        | cons h2 hs =>
          cases hs
          cases h1
          cases h2
          exact .inr ⟨_, b, r, rfl, rfl, h⟩
  · exact .inl (h.krepS e)
mutual
theorem KRepS.is {X : Cx} {pins : List (Addr × Obj)} {σ : L2.St} {s : Shared} (I : Inv X pins σ H s) : ∀ {k : NestedKey} {v : V} {u : Value}, KRepS X.K H k v → RelV v u → NestedIs s.heap k u
  | _, _, _, .none, r => by cases r; exact .none
  | _, _, _, .num i, r => by obtain ⟨t, rfl⟩ := r; exact .int i t
  | _, _, _, .text x, r => by obtain ⟨t, rfl⟩ := r; exact .text x t
  | _, _, _, .tup h hs, r => by
    cases r
    obtain ⟨its, rv, ⟨o, ho, hc, n, hd⟩, _⟩ := I.tuple h
    exact .tup ho hc hd (KReps.is I hs rv)
theorem KReps.is {X : Cx} {pins : List (Addr × Obj)} {σ : L2.St} {s : Shared} (I : Inv X pins σ H s) : ∀ {k : List NestedKey} {v : List V} {u : List Value}, KReps X.K H k v → Vals v u → NestedAll s.heap k u
  | _, _, _, .nil, r => by cases r; exact .nil
  | _, _, _, .cons h hs, r => by
    cases r with
    | cons r1 r2 => exact .cons (KRepS.is I h r1) (KReps.is I hs r2)
end
theorem KRep.is {X : Cx} {pins : List (Addr × Obj)} {σ : L2.St} {s : Shared} (I : Inv X pins σ H s) {k : NestedKey} {v : V} {u : Value} (h : KRep X.K H k v) (r : RelV v u) : NestedIs s.heap k u := by
  rcases h with h | ⟨a, b, i, rfl, rfl, h⟩
  · exact KRepS.is I h r
  · cases r
    obtain ⟨its, rv, ⟨o, ho, hc, n, hd⟩, _⟩ := I.tuple h
    refine .tup ho hc hd ?_
    cases rv with
    | cons r1 r2 =>
      cases r2 with
      | cons r2 r3 =>
        cases r3
        cases r1
        obtain ⟨t, rfl⟩ := r2
        exact .cons (.bool rfl) (.cons (.int i t) .nil)
theorem keyIn_ok {x : D} {kvs : List (NestedKey × D)} {k : NestedKey} (h : keyIn x kvs = .ok k) : key x = some k ∧
    ((isLeafKey k = true ∧ leafD x = true ∧ ∀ p ∈ kvs, isLeafKey p.1 = true) ∨ (isTupKey k = true ∧ k.depth ≤ 8 ∧ ∀ p ∈ kvs, isTupKey p.1 = true)) := by
  unfold keyIn at h
  cases e : key x with
  | none => rw [e] at h; cases h
  | some k' =>
    rw [e] at h
    simp only at h
    split at h
    · rename_i hc
      cases h
      refine ⟨rfl, ?_⟩
      unfold keysWith at hc
      simp only [Bool.and_eq_true, Bool.or_eq_true, List.all_eq_true, decide_eq_true_eq] at hc
      obtain ⟨h1, h2⟩ := hc
      rcases h1 with ⟨a, b⟩ | ⟨⟨a, b⟩, c⟩
      · rcases h2 with h2 | h2
        · cases k <;> simp [isLeafKey, isTupKey] at a h2
        · exact .inl ⟨a, h2, b⟩
      · exact .inr ⟨a, b, c⟩
    · cases h
theorem keyIn_err {x : D} {kvs : List (NestedKey × D)} : ∀ c fs, keyIn x kvs ≠ .err c fs := fun c fs h => by
  unfold keyIn at h
  split at h
  · split at h <;> cases h
  · cases h
theorem leaf_rep {x : D} {v : V} {fp : List Addr} {k : NestedKey} (r : Rep g Z H x v fp) (hk : key x = some k) (hl : leafD x = true) : ∃ q, k = nk q ∧ v = kV q := by
  cases r with
  | int i => cases hk; exact ⟨.inl i, rfl, rfl⟩
  | str i => cases hk; exact ⟨.inr i, rfl, rfl⟩
  | _ => simp [leafD] at hl
theorem tup_rep {x : D} {v : V} {fp : List Addr} {k : NestedKey} (r : Rep g Z H x v fp) (hk : key x = some k) (hl : isTupKey k = true) : ∃ b, v = .ref b := by
  cases r with
  | tup h hs => exact ⟨_, rfl⟩
  | non => cases hk; simp [isTupKey] at hl
  | bl b => cases hk
  | int b => cases hk; simp [isTupKey] at hl
  | str b => cases hk; simp [isTupKey] at hl
  | _ => simp [key, keyS] at hk
end
structure NV (g : Gv) (Z : Addr → Prop) (H : Hp) (h : Heap) (a : Addr) (kvs : List (NestedKey × D)) (xs : List (NestedKey × Addr × V)) (ys : List (NestedKey × Addr × Value)) : Prop where
  keys : xs.map (·.1) = kvs.map (·.1)
  krep : ∀ p ∈ xs, KRep g.K H p.1 (.ref p.2.1) ∧ p.1.depth ≤ 8
  vals : Reps g Z H (kvs.map (·.2)) (xs.map (·.2.2)) []
  pair : PN xs ys
  dict : h.DictOfH (nestedKind g.P g.w) a ys
  len : xs.length ≤ sizeLine
  nosys : (a == sysModules) = false
section
variable {X : Cx} {g : Gv} {Z : Addr → Prop} {H : Hp} {pins : List (Addr × Obj)} {σ : L2.St} {s : Shared}
theorem nv_of (G : Gof g X) (I : Inv X pins σ H s) {o : Bool} {kvs : List (NestedKey × D)} {v : V} {fp : List Addr} (r : Rep g Z H (.dct o kvs) v fp) (ht : ∀ p ∈ kvs, isTupKey p.1 = true) :
    ∃ a xs ys, v = .ref a ∧ NV g Z H s.heap a kvs xs ys ∧ Mut (H a) := by
  cases r with
  | @dK a kv _ _ _ h e hs w =>
    have ek : kvs = [] := by
      cases kvs with
      | nil => rfl
      | cons p r =>
        cases kv with
        | nil => simp at e
        | cons q r' =>
          rw [List.map_cons, List.map_cons] at e
          have e1 : nk q.1 = p.1 := (List.cons.inj e).1
          have := ht p List.mem_cons_self
          rw [← e1] at this
          cases hq : q.1 <;> rw [hq] at this <;> simp [nk, isTupKey] at this
    subst ek
    have ev : kv = [] := by simpa using e
    subst ev
    obtain ⟨z, hd, vs, rel, ob, es, ep, h1, h2, h3, h4⟩ := dk_of I.hok h
    cases rel
    have hes : es.toList = [] := by
      obtain ⟨_, hp, _⟩ := h4
      generalize es.toList = l at hp ⊢
      cases hp
      rfl
    exact ⟨a, [], [], rfl, ⟨rfl, (fun p hp => nomatch hp), .nil, .nil, ⟨ob, es, ep, h1, h2, h3, hes, (fun x hx => nomatch hx), List.nodup_nil⟩, Nat.zero_le _, hd⟩, by rw [h]; exact True.intro⟩
  | @dN a ob xs _ _ _ h e ne hk hs w =>
    obtain ⟨⟨hl, hd, hn, ys, hp, es, ep, h1, h2, h3, h4⟩, _⟩ := I.hok a _ h
    rw [G.P.symm, G.w.symm] at h4
    refine ⟨a, xs, ys, rfl, ⟨e, hk, hs, hp, ⟨ob, es, ep, h1, h2, h3, by rw [← G.P, ← G.w]; exact h4, fun x hx => ?_, ?_⟩, hl, hd⟩, by rw [h]; exact True.intro⟩
    · have all : ∀ {l : List (NestedKey × Addr × V)} {m : List (NestedKey × Addr × Value)}, PN l m → (∀ p ∈ l, KRep g.K H p.1 (.ref p.2.1) ∧ p.1.depth ≤ 8) → ∀ x ∈ m, (nestedKind g.P g.w).is s.heap x.1 x.2.1 := by
        intro l m q
        induction q with
        | nil => intro _ x hx; exact nomatch hx
        | @cons p q ps qs hq t ih =>
          intro hk x hx
          rcases List.mem_cons.mp hx with e | hx
          · subst e
            obtain ⟨k1, k2⟩ := hk p List.mem_cons_self
            refine ⟨?_, by rw [← hq.1]; exact k2⟩
            rw [← hq.1, ← hq.2.1]
            exact KRep.is (v := .ref p.2.1) (u := .ref p.2.1) I (by rw [G.K]; exact k1) rfl
          · exact ih (fun p hp => hk p (List.mem_cons_of_mem _ hp)) x hx
      exact all hp hk x hx
    · have em : ys.map (·.1) = xs.map (·.1) := PN.keys hp
      rw [em]
      exact hn
theorem NV.look {h : Heap} {a : Addr} {kvs : List (NestedKey × D)} {xs : List (NestedKey × Addr × V)} {ys : List (NestedKey × Addr × Value)} (n : NV g Z H h a kvs xs ys) (k : NestedKey) :
    match dget kvs k with | some d => ∃ v p, atKey ys k = some p ∧ RelV v p.2 ∧ Rep g Z H d v [] | none => atKey ys k = none := by
  have h1 := dget_N n.keys n.vals k
  have h2 := n.pair.val k
  cases hd : dget kvs k with
  | some d =>
    rw [hd] at h1
    obtain ⟨v, e, r⟩ := h1
    rw [e] at h2
    cases hk : atKey ys k with
    | none => rw [hk] at h2; exact h2.elim
    | some p => rw [hk] at h2; exact ⟨v, p, rfl, h2, r⟩
  | none =>
    rw [hd] at h1
    have h1 : atN xs k = none := h1
    rw [h1] at h2
    cases hk : atKey ys k with
    | none => rfl
    | some p => rw [hk] at h2; exact h2.elim
theorem NV.isSome {h : Heap} {a : Addr} {kvs : List (NestedKey × D)} {xs : List (NestedKey × Addr × V)} {ys : List (NestedKey × Addr × Value)} (n : NV g Z H h a kvs xs ys) (k : NestedKey) : (atKey ys k).isSome = (dget kvs k).isSome := by
  have h1 := n.look k
  cases hd : dget kvs k with
  | some d =>
    rw [hd] at h1
    obtain ⟨v, p, e, _⟩ := h1
    rw [e]; rfl
  | none =>
    rw [hd] at h1
    rw [show atKey ys k = none from h1]; rfl
end
section
variable {X : Cx} {g : Gv} {Z : Addr → Prop} {H : Hp} {pins : List (Addr × Obj)} {σ : L2.St} {s : Shared} {A : Around} {E : Value → Shared → Prop}
structure DV (g : Gv) (Z : Addr → Prop) (H : Hp) (x : D) (kvs : List (NestedKey × D)) (k : NestedKey) (y d : V) : Prop where
  key : ∃ fp, Rep g Z H x y fp
  dict : ∃ o fp, Rep g Z H (.dct o kvs) d fp
  ok : keyIn x kvs = .ok k
theorem dv_leaf {x : D} {kvs : List (NestedKey × D)} {k : NestedKey} {y d : V} (I : Inv X pins σ H s) (v : DV g Z H x kvs k y d) (hl : isLeafKey k = true) (hx : leafD x = true) (ha : ∀ p ∈ kvs, isLeafKey p.1 = true) :
    ∃ a kv q o fp, d = .ref a ∧ H a = some (.dK kv) ∧ k = nk q ∧ y = kV q ∧ (kv.map fun p => nk p.1) = kvs.map (·.1) ∧ Reps g Z H (kvs.map (·.2)) (kv.map (·.2)) [] ∧ OwnP Z o a [] fp := by
  obtain ⟨⟨fp, ry⟩, ⟨o, fq, rd⟩, ok⟩ := v
  obtain ⟨hk, _⟩ := keyIn_ok ok
  obtain ⟨q, e1, e2⟩ := leaf_rep ry hk hx
  cases rd with
  | dK h e hs w => exact ⟨_, _, q, _, _, rfl, h, e1, e2, e, hs, w⟩
  | @dN a _ xs _ _ _ h e ne hk' hs w =>
    exfalso
    cases xs with
    | nil => exact ne rfl
    | cons p r =>
      have e3 : p.1 ∈ kvs.map (·.1) := by rw [← e]; exact List.mem_map.mpr ⟨p, List.mem_cons_self, rfl⟩
      obtain ⟨q', hq, e4⟩ := List.mem_map.mp e3
      have l1 := ha q' hq
      rw [e4] at l1
      have l2 := (hk' p List.mem_cons_self).1
      generalize hv : V.ref p.2.1 = vv at l2
      generalize hp1 : p.1 = kk at l1 l2
      rcases l2 with l2 | ⟨_, _, _, l2, _, _⟩
      · cases l2 <;> simp [isLeafKey] at l1 <;> cases hv
      · rw [l2] at l1; simp [isLeafKey] at l1
theorem dct_in (hu : A.units + 70 < cLine) (G : Gof g X) (I : Inv X pins σ H s) {x : D} {kvs : List (NestedKey × D)} {k : NestedKey} {y d : V} {u r : Value} {Q : Value → Shared → Prop} (v : DV g Z H x kvs k y d) (ry : RelV y u) (rd : RelV d r)
    (h : ∀ s', Inv X pins σ H s' → Q (.bool (dget kvs k).isSome) s') : wpAny (model X.prog X.w) A (compareOp .In u r) Q E s := by
  rcases (keyIn_ok v.ok).2 with ⟨hl, hx, ha⟩ | ⟨ht, hd8, ha⟩
  · obtain ⟨a, kv, q, o, fp, rfl, ha', e1, rfl, ek, rv, _⟩ := dv_leaf I v hl hx ha
    cases rd
    refine d_in (by omega) I (DGet.k (k := q) ha') ry fun s' I' => ?_
    have hq := dget_K ek rv q
    rw [e1] at h
    have e2 : (valV kv q).isSome = (dget kvs (nk q)).isSome := by
      cases hdg : dget kvs (nk q) with
      | some d => rw [hdg] at hq; obtain ⟨v', e3, _⟩ := hq; rw [e3]; rfl
      | none => rw [hdg] at hq; rw [show valV kv q = none from hq]; rfl
    rw [e2]
    exact h s' I'
  · obtain ⟨fq, rk⟩ := v.key
    obtain ⟨o, fp, rdd⟩ := v.dict
    have hk := (keyIn_ok v.ok).1
    obtain ⟨b, rfl⟩ := tup_rep rk hk ht
    obtain ⟨a, xs, ys, rfl, nv, _⟩ := nv_of G I rdd ha
    cases rd
    cases ry
    rw [← nv.isSome k] at h
    have hkey : (nestedKind X.prog X.w).is s.heap k b := ⟨KRep.is (v := .ref b) (u := .ref b) I (by rw [G.K]; exact rk.krep hk) rfl, hd8⟩
    refine wpAny_in_heap (knd := nestedKind X.prog X.w) (show A.units + 1 + 8 < cLine by omega) hkey nv.nosys (by rw [G.P, G.w]; exact nv.dict) (h _ (I.tok _))
theorem dct_notIn (hu : A.units + 70 < cLine) (G : Gof g X) (I : Inv X pins σ H s) {x : D} {kvs : List (NestedKey × D)} {k : NestedKey} {y d : V} {u r : Value} {Q : Value → Shared → Prop} (v : DV g Z H x kvs k y d) (ry : RelV y u) (rd : RelV d r)
    (h : ∀ s', Inv X pins σ H s' → Q (.bool (!(dget kvs k).isSome)) s') : wpAny (model X.prog X.w) A (compareOp .NotIn u r) Q E s := by
  rcases (keyIn_ok v.ok).2 with ⟨hl, hx, ha⟩ | ⟨ht, hd8, ha⟩
  · obtain ⟨a, kv, q, o, fp, rfl, ha', e1, rfl, ek, rv, _⟩ := dv_leaf I v hl hx ha
    cases rd
    refine d_notIn (by omega) I (DGet.k (k := q) ha') ry fun s' I' => ?_
    have hq := dget_K ek rv q
    rw [e1] at h
    have e2 : (valV kv q).isSome = (dget kvs (nk q)).isSome := by
      cases hdg : dget kvs (nk q) with
      | some d => rw [hdg] at hq; obtain ⟨v', e3, _⟩ := hq; rw [e3]; rfl
      | none => rw [hdg] at hq; rw [show valV kv q = none from hq]; rfl
    rw [e2]
    exact h s' I'
  · obtain ⟨fq, rk⟩ := v.key
    obtain ⟨o, fp, rdd⟩ := v.dict
    have hk := (keyIn_ok v.ok).1
    obtain ⟨b, rfl⟩ := tup_rep rk hk ht
    obtain ⟨a, xs, ys, rfl, nv, _⟩ := nv_of G I rdd ha
    cases rd
    cases ry
    rw [← nv.isSome k] at h
    have hkey : (nestedKind X.prog X.w).is s.heap k b := ⟨KRep.is (v := .ref b) (u := .ref b) I (by rw [G.K]; exact rk.krep hk) rfl, hd8⟩
    refine wpAny_notIn_heap (knd := nestedKind X.prog X.w) (show A.units + 1 + 8 < cLine by omega) hkey nv.nosys (by rw [G.P, G.w]; exact nv.dict) (h _ (I.tok _))
theorem dct_get (hu : A.units + 70 < cLine) (G : Gof g X) (I : Inv X pins σ H s) {x z : D} {kvs : List (NestedKey × D)} {k : NestedKey} {y d : V} {u r : Value} {Q : Value → Shared → Prop} (v : DV g Z H x kvs k y d) (ry : RelV y u) (rd : RelV d r)
    (hz : dget kvs k = some z) (h : ∀ s' v' u', Inv X pins σ H s' → Rep g Z H z v' [] → RelV v' u' → Q u' s') : wpAny (model X.prog X.w) A (getItem r u) Q E s := by
  rcases (keyIn_ok v.ok).2 with ⟨hl, hx, ha⟩ | ⟨ht, hd8, ha⟩
  · obtain ⟨a, kv, q, o, fp, rfl, ha', e1, rfl, ek, rv, _⟩ := dv_leaf I v hl hx ha
    cases rd
    have hq := dget_K ek rv q
    rw [← e1, hz] at hq
    obtain ⟨v', e3, r3⟩ := hq
    refine d_getItem (by omega) I (y := kV q) (v := v') (by rw [← e3]; exact DGet.k (k := q) ha') ry fun u' s' I' r' => ?_
    exact h s' v' u' I' r3 r'
  · obtain ⟨fq, rk⟩ := v.key
    obtain ⟨o, fp, rdd⟩ := v.dict
    have hk := (keyIn_ok v.ok).1
    obtain ⟨b, rfl⟩ := tup_rep rk hk ht
    obtain ⟨a, xs, ys, rfl, nv, _⟩ := nv_of G I rdd ha
    cases rd
    cases ry
    have hl := nv.look k
    rw [hz] at hl
    obtain ⟨v', p, e3, r3, r4⟩ := hl
    have hkey : (nestedKind X.prog X.w).is s.heap k b := ⟨KRep.is (v := .ref b) (u := .ref b) I (by rw [G.K]; exact rk.krep hk) rfl, hd8⟩
    refine wpAny_getItem_heap (knd := nestedKind X.prog X.w) (show A.units + 1 + 8 < cLine by omega) hkey (by rw [G.P, G.w]; exact nv.dict) e3 (h _ v' p.2 (I.tok _) r4 r3)
end
end DI
namespace DI
open PySem PySem.Spec PyProof.Rows L2
section
variable {X : Cx} {g : Gv} {W : L2.WX}
def blR (r : R Bool) : R D := r.bind fun b => .ok (.bl b)
theorem Out.bl {Z : Addr → Prop} {σ : L2.St} {H : Hp} {r : R Bool} {Q : VK} {bo : Bool} (hz : ∀ a, Z a → H a ≠ none) (hn : ∀ c fs, r ≠ .err c fs) (o : Out g W Z σ H (blR r) (fun d => ∀ v H' Z' fp, PostE g bo Z Z' H H' d v fp → Q v H')) : ∃ b, r = .ok b ∧ Q (.bl b) H := by
  cases r with
  | ok b => exact ⟨b, rfl, o _ H Z [] (post_sc hz (.bl b))⟩
  | err c fs => exact absurd rfl (hn c fs)
  | bad => exact o.elim
theorem eqD_err {x y : D} : ∀ c fs, eqD x y ≠ .err c fs := fun c fs h => by
  unfold eqD at h
  split at h
  · split at h <;> cases h
  · cases h
theorem eqD_ok {x y : D} {b : Bool} (h : eqD x y = .ok b) : ∃ d e, py x = some d ∧ py y = some e ∧ SeqAt.shaped d = true ∧ SeqAt.shaped e = true ∧ PyData.eqv d e = b := by
  unfold eqD at h
  split at h
  · rename_i d e h1 h2
    split at h
    · rename_i hc
      rw [Bool.and_eq_true] at hc
      cases h
      exact ⟨d, e, h1, h2, hc.1, hc.2, rfl⟩
    · cases h
  · cases h
theorem memS_err {x : D} {ys : List D} : ∀ c fs, memS x ys ≠ .err c fs := fun c fs h => by
  unfold memS at h
  split at h
  · split at h <;> cases h
  · cases h
theorem memS_ok {x : D} {ys : List D} {b : Bool} (h : memS x ys = .ok b) : ∃ d ds, py x = some d ∧ pyL ys = some ds ∧ SeqAt.shaped d = true ∧ SeqAt.shaped (.list ds) = true ∧ (ds.any fun z => PyData.eqv z d) = b := by
  unfold memS at h
  split at h
  · rename_i d ds h1 h2
    split at h
    · rename_i hc
      rw [Bool.and_eq_true] at hc
      cases h
      exact ⟨d, ds, h1, h2, hc.1, hc.2, rfl⟩
    · cases h
  · cases h
theorem opd_eq (G : Gof g X) : OpD g W true (rEqD X.K) (fun x y => blR (cmpD .eq x y)) := by
  intro Z σ H x y v u fx fy Q hz rx ry o
  obtain ⟨b, h, q⟩ := Out.bl hz (fun c fs => eqD_err c fs) o
  obtain ⟨d, e, h1, h2, s1, s2, rfl⟩ := eqD_ok h
  rw [G.K]
  exact ⟨d, e, rx.dp h1, ry.dp h2, s1, s2, q⟩
theorem neD_err {r : R Bool} (hn : ∀ c fs, r ≠ .err c fs) : ∀ c fs, (r.bind fun b => .ok (!b)) ≠ (R.err c fs : R Bool) := fun c fs h => by
  cases r with
  | ok b => cases h
  | err c fs => exact hn c fs rfl
  | bad => cases h
theorem notR_ok {r : R Bool} {b : Bool} (h : (r.bind fun b => .ok (!b)) = (R.ok b : R Bool)) : r = .ok (!b) := by
  cases r with
  | ok c =>
    have h : (R.ok (!c) : R Bool) = .ok b := h
    injection h with h
    rw [← h, Bool.not_not]
  | err c fs => cases h
  | bad => cases h
theorem opd_ne (G : Gof g X) : OpD g W true (rNeD X.K) (fun x y => blR (cmpD .ne x y)) := by
  intro Z σ H x y v u fx fy Q hz rx ry o
  obtain ⟨b, h, q⟩ := Out.bl hz (neD_err fun c fs => eqD_err c fs) o
  obtain ⟨d, e, h1, h2, s1, s2, e3⟩ := eqD_ok (notR_ok h)
  rw [G.K]
  refine ⟨d, e, rx.dp h1, ry.dp h2, s1, s2, ?_⟩
  rw [e3, Bool.not_not]
  exact q
theorem opd_ord {op : Cop} {p : Int → Int → Bool} (hp : ∀ i j, cmpD op (.int i) (.int j) = .ok (p i j)) (hb : ∀ x y, (∀ i j, x = D.int i → y = D.int j → False) → cmpD op x y = .bad) : OpD g W true (rI0 fun i j => .bl (p i j)) (fun x y => blR (cmpD op x y)) := by
  intro Z σ H x y v u fx fy Q hz rx ry o
  have bad : (∀ i j, x = D.int i → y = D.int j → False) → (rI0 fun i j => .bl (p i j)) v u H Q := fun h => by
    have o : Out g W Z σ H (blR (cmpD op x y)) _ := o
    rw [hb x y h] at o
    exact o.elim
  cases x with
  | int i =>
    cases y with
    | int j =>
      obtain ⟨rfl, _⟩ := rep_int rx
      obtain ⟨rfl, _⟩ := rep_int ry
      have o : Out g W Z σ H (blR (cmpD op (.int i) (.int j))) _ := o
      rw [hp] at o
      exact ⟨i, j, rfl, rfl, o _ H Z [] (post_sc hz (.bl _))⟩
    | _ => exact bad fun _ _ _ e => by cases e
  | _ => exact bad fun _ _ e => by cases e
theorem opd_lt : OpD g W true (rI0 fun i j => .bl (decide (i < j))) (fun x y => blR (cmpD .lt x y)) := opd_ord (fun _ _ => rfl) fun x y h => by
  cases x <;> cases y <;> first | rfl | exact (h _ _ rfl rfl).elim
theorem opd_le : OpD g W true (rI0 fun i j => .bl (decide (i ≤ j))) (fun x y => blR (cmpD .le x y)) := opd_ord (fun _ _ => rfl) fun x y h => by
  cases x <;> cases y <;> first | rfl | exact (h _ _ rfl rfl).elim
theorem opd_gt : OpD g W true (rI0 fun i j => .bl (decide (j < i))) (fun x y => blR (cmpD .gt x y)) := opd_ord (p := fun i j => decide (j < i)) (fun _ _ => rfl) fun x y h => by
  cases x <;> cases y <;> first | rfl | exact (h _ _ rfl rfl).elim
theorem opd_ge : OpD g W true (rI0 fun i j => .bl (decide (j ≤ i))) (fun x y => blR (cmpD .ge x y)) := opd_ord (p := fun i j => decide (j ≤ i)) (fun _ _ => rfl) fun x y h => by
  cases x <;> cases y <;> first | rfl | exact (h _ _ rfl rfl).elim
theorem non_iff {Z : Addr → Prop} {H : Hp} {x : D} {v : V} {f : List Addr} (r : Rep g Z H x v f) : decide (v = .non) = isNon x := by
  cases r <;> first | rfl | exact decide_eq_false (fun e => nomatch e)
theorem opd_isN : OpD g W true (fun x y H Q => y = .non ∧ Q (.bl (decide (x = .non))) H) (fun x y => blR (cmpD .isN x y)) := by
  intro Z σ H x y v u fx fy Q hz rx ry o
  cases y with
  | non =>
    obtain ⟨rfl, _⟩ := rep_non ry
    refine ⟨rfl, ?_⟩
    rw [non_iff rx]
    exact o _ H Z [] (post_sc hz (.bl _))
  | _ => exact o.elim
theorem opd_notN : OpD g W true (fun x y H Q => y = .non ∧ Q (.bl (!decide (x = .non))) H) (fun x y => blR (cmpD .notN x y)) := by
  intro Z σ H x y v u fx fy Q hz rx ry o
  cases y with
  | non =>
    obtain ⟨rfl, _⟩ := rep_non ry
    refine ⟨rfl, ?_⟩
    rw [non_iff rx]
    exact o _ H Z [] (post_sc hz (.bl _))
  | _ => exact o.elim
def rInDct (g : Gv) (neg : Bool) : R2 := fun x y H Q => ∃ Z dx kvs k, DV g Z H dx kvs k x y ∧ Q (.bl (if neg = true then !(dget kvs k).isSome else (dget kvs k).isSome)) H
theorem op_inDct (hu : X.A.units + 70 < cLine) (G : Gof g X) : OpR X (compareOp .In) (rInDct g false) := by
  intro pins s σ H x y v u Q I rx ry h
  obtain ⟨Z, dx, kvs, k, dv, q⟩ := h
  exact dct_in hu G I dv rx ry fun s' I' => ⟨.bl _, H, I', rfl, q⟩
theorem op_notInDct (hu : X.A.units + 70 < cLine) (G : Gof g X) : OpR X (compareOp .NotIn) (rInDct g true) := by
  intro pins s σ H x y v u Q I rx ry h
  obtain ⟨Z, dx, kvs, k, dv, q⟩ := h
  exact dct_notIn hu G I dv rx ry fun s' I' => ⟨.bl _, H, I', rfl, q⟩
def rMem (X : Cx) (g : Gv) : R2 := fun x y H Q => rInD X.K x y H Q ∨ (rInT X.K false x y H Q ∨ (rInDct g false x y H Q ∨ ∃ i j, x = .str i ∧ y = .str j ∧ Q (.bl (!(Builtin.Str.occurrences j i 0 j.length 1).isEmpty)) H))
def rNMem (X : Cx) (g : Gv) : R2 := fun x y H Q => rNotInD X.K x y H Q ∨ (rInT X.K true x y H Q ∨ (rInDct g true x y H Q ∨ ∃ i j, x = .str i ∧ y = .str j ∧ Q (.bl (!(!(Builtin.Str.occurrences j i 0 j.length 1).isEmpty))) H))
theorem opr_mem (hu : X.A.units + 70 < cLine) (G : Gof g X) : OpR X (compareOp .In) (rMem X g) := (op_inD (by omega)).or ((op_inT (by omega)).or ((op_inDct hu G).or op_in_str))
theorem opr_nmem (hu : X.A.units + 70 < cLine) (G : Gof g X) : OpR X (compareOp .NotIn) (rNMem X g) := (op_notInD (by omega)).or ((op_notInT (by omega)).or ((op_notInDct hu G).or op_notin_str))
theorem memD_err {x y : D} : ∀ c fs, memD x y ≠ .err c fs := fun c fs h => by
  unfold memD at h
  split at h
  · exact memS_err c fs h
  · exact memS_err c fs h
  · rename_i kvs
    cases e : keyIn x kvs with
    | ok k => rw [e] at h; cases h
    | err c fs => exact keyIn_err c fs e
    | bad => rw [e] at h; cases h
  · split at h <;> cases h
  · cases h
theorem opd_mem (G : Gof g X) : OpD g W true (rMem X g) (fun x y => blR (cmpD .mem x y)) := by
  intro Z σ H x y v u fx fy Q hz rx ry o
  obtain ⟨b, h, q⟩ := Out.bl hz (fun c fs => memD_err c fs) o
  have h : memD x y = .ok b := h
  cases y with
  | lst o' ys =>
    obtain ⟨d, ds, h1, h2, s1, s2, rfl⟩ := memS_ok (show memS x ys = .ok b from h)
    refine .inl ⟨d, ds, by rw [G.K]; exact rx.dp h1, by rw [G.K]; exact ry.dp (by simp [py, h2]), s1, s2, q⟩
  | tup ys =>
    obtain ⟨d, ds, h1, h2, s1, s2, rfl⟩ := memS_ok (show memS x ys = .ok b from h)
    refine .inr (.inl ⟨d, ds, by rw [G.K]; exact rx.dp h1, by rw [G.K]; exact ry.dp (by simp [py, h2]), s1, s2, q⟩)
  | dct o' kvs =>
    have h : ((keyIn x kvs).bind fun k => R.ok (dget kvs k).isSome) = .ok b := h
    cases e : keyIn x kvs with
    | ok k =>
      rw [e] at h
      cases h
      exact .inr (.inr (.inl ⟨Z, x, kvs, k, ⟨⟨_, rx⟩, ⟨_, _, ry⟩, e⟩, q⟩))
    | err c fs => exact absurd e (keyIn_err c fs)
    | bad => rw [e] at h; cases h
  | str z =>
    cases x with
    | str i =>
      obtain ⟨rfl, _⟩ := rep_str rx
      obtain ⟨rfl, _⟩ := rep_str ry
      cases h
      exact .inr (.inr (.inr ⟨i, z, rfl, rfl, q⟩))
    | _ => cases h
  | _ => cases h
theorem opd_nmem (G : Gof g X) : OpD g W true (rNMem X g) (fun x y => blR (cmpD .nmem x y)) := by
  intro Z σ H x y v u fx fy Q hz rx ry o
  obtain ⟨b, h, q⟩ := Out.bl hz (neD_err fun c fs => memD_err c fs) o
  have h : memD x y = .ok (!b) := notR_ok h
  obtain ⟨b', rfl⟩ : ∃ b', b = !b' := ⟨!b, (Bool.not_not b).symm⟩
  rw [Bool.not_not] at h
  cases y with
  | lst o' ys =>
    obtain ⟨d, ds, h1, h2, s1, s2, rfl⟩ := memS_ok (show memS x ys = .ok b' from h)
    refine .inl ⟨d, ds, by rw [G.K]; exact rx.dp h1, by rw [G.K]; exact ry.dp (by simp [py, h2]), s1, s2, q⟩
  | tup ys =>
    obtain ⟨d, ds, h1, h2, s1, s2, rfl⟩ := memS_ok (show memS x ys = .ok b' from h)
    refine .inr (.inl ⟨d, ds, by rw [G.K]; exact rx.dp h1, by rw [G.K]; exact ry.dp (by simp [py, h2]), s1, s2, q⟩)
  | dct o' kvs =>
    have h : ((keyIn x kvs).bind fun k => R.ok (dget kvs k).isSome) = .ok b' := h
    cases e : keyIn x kvs with
    | ok k =>
      rw [e] at h
      cases h
      exact .inr (.inr (.inl ⟨Z, x, kvs, k, ⟨⟨_, rx⟩, ⟨_, _, ry⟩, e⟩, q⟩))
    | err c fs => exact absurd e (keyIn_err c fs)
    | bad => rw [e] at h; cases h
  | str z =>
    cases x with
    | str i =>
      obtain ⟨rfl, _⟩ := rep_str rx
      obtain ⟨rfl, _⟩ := rep_str ry
      cases h
      exact .inr (.inr (.inr ⟨i, z, rfl, rfl, q⟩))
    | _ => cases h
  | _ => cases h
def rIxDct (g : Gv) : R2 := fun x y H Q => ∃ Z dx kvs k z, DV g Z H dx kvs k y x ∧ dget kvs k = some z ∧ ∀ v', Rep g Z H z v' [] → Q v' H
theorem dct_typeIs {Z : Addr → Prop} {H : Hp} {pins : List (Addr × Obj)} {σ : L2.St} {s : Shared} (I : Inv X pins σ H s) {o : Bool} {kvs : List (NestedKey × D)} {v : V} {u : Value} {fp : List Addr} (r : Rep g Z H (.dct o kvs) v fp) (ru : RelV v u) :
    s.TypeIs u "dict" ∧ ∀ b, u = .ref b → ∃ ob, s.heap.get? b = some ob ∧ ob.dict = none := by
  cases r with
  | dK h e hs w =>
    cases ru
    obtain ⟨_, _, vs, _, dd⟩ := dk_rd I.hok (.inl h)
    refine ⟨dd.typeIs, fun b q => ?_⟩
    cases q
    obtain ⟨ob, _, _, h1, h2, _⟩ := dd
    exact ⟨ob, h1, h2.2.1⟩
  | dN h e ne hk hs w =>
    cases ru
    obtain ⟨⟨_, _, _, ys, _, es, ep, h1, h2, _⟩, _⟩ := I.hok _ _ h
    refine ⟨⟨_, h1, h2.1⟩, fun b q => ?_⟩
    cases q
    exact ⟨_, h1, h2.2.1⟩
theorem ix_dct (hu : X.A.units + 70 < cLine) (G : Gof g X) : IxR X (rIxDct g) := by
  intro value slice pins s σ H x y v u Q I rx ry h hs
  obtain ⟨Z, dx, kvs, k, z, dv, hz, q⟩ := h
  obtain ⟨o, fp, rd⟩ := dv.dict
  have ht := (dct_typeIs I rd rx).1
  unfold subscriptTail
  refine wpAny_bind ?_
  rw [getitemInPython_of_ne ht.not_modules]
  refine wpAny_bind (wpAny_specialOf ht PySem.F.slot_dict_getitem.lookup ?_)
  have fin : wpAny (model X.prog X.w) X.A (subscripted slice false v u) (fun r s₃ => wpAny (model X.prog X.w) X.A (letTemporaryGo value v r >>= fun _ => pure r) (EP X pins σ Q) X.xe s₃) X.xe s := by
    rw [hs]
    refine wpAny_operating (dct_get hu G I dv ry rx hz fun s' v' u' I' r' ru => wpAny_bind (wpAny_letTemporaryGo (wpAny_pure ⟨v', H, I', ru, q v' r'⟩)))
  first
    | exact wpAny_pure (wpAny_bind fin)
    | exact wpAny_bind (wpAny_pure (wpAny_bind fin))
    | exact wpAny_bind fin
def rIdx (X : Cx) (g : Gv) : R2 := fun x y H Q => rIx X.K x y H Q ∨ rIxDct g x y H Q
theorem ixr_all (hu : X.A.units + 70 < cLine) (G : Gof g X) : IxR X (rIdx X g) := ix_seq.or (ix_dct hu G)
theorem atI_map {α β : Type} {f : α → β} {xs : List α} {i : Int} : L2.atI (xs.map f) i = (L2.atI xs i).map f := by
  unfold L2.atI
  rw [List.length_map]
  cases ixN xs.length i with
  | none => rfl
  | some j => simp
theorem reps_at {Z : Addr → Prop} {H : Hp} {xs : List D} {vs : List V} {fp : List Addr} (r : Reps g Z H xs vs fp) {i : Int} {x : D} (h : L2.atI xs i = some x) : ∃ v f, L2.atI vs i = some v ∧ Rep g Z H x v f ∧ (∀ a ∈ f, a ∈ fp) ∧ (fp.Nodup → f.Nodup) := by
  unfold L2.atI at h ⊢
  rw [← r.length]
  obtain ⟨j, e1, e2⟩ := Option.bind_eq_some_iff.mp h
  obtain ⟨v, f, e3, r3, s3, n3⟩ := r.get j x e2
  exact ⟨v, f, by rw [e1]; exact e3, r3, s3, n3⟩
theorem ofR_out {α : Type} {Z : Addr → Prop} {σ : L2.St} {H : Hp} {o : Option α} {P : α → Prop} (h : Out g W Z σ H (ofR o) P) : ∃ a, o = some a ∧ P a := by
  cases o with
  | some a => exact ⟨a, rfl, h⟩
  | none => exact h.elim
theorem opd_idx (G : Gof g X) : OpD g W false (rIdx X g) idxD := by
  intro Z σ H x y v u fx fy Q hz rx ry o
  cases x with
  | lst o' xs =>
    cases y with
    | int i =>
      obtain ⟨z, e, q⟩ := ofR_out (show Out g W Z σ H (ofR (L2.atI xs i)) _ from o)
      obtain ⟨a, vs, fs, rfl, hq, rs, sub⟩ := rep_lst' rx
      obtain ⟨rfl, _⟩ := rep_int ry
      obtain ⟨w, f, e2, r2, _⟩ := reps_at rs e
      exact .inl (.inl ⟨a, vs, i, w, rfl, rfl, by rw [G.K]; exact hq, e2, q w H Z f ⟨same_refl H, .refl hz, r2, fun e => by cases e⟩⟩)
    | _ => exact o.elim
  | tup xs =>
    cases y with
    | int i =>
      obtain ⟨z, e, q⟩ := ofR_out (show Out g W Z σ H (ofR (L2.atI xs i)) _ from o)
      obtain ⟨a, vs, rfl, hq, rs⟩ := rep_tup rx
      obtain ⟨rfl, _⟩ := rep_int ry
      obtain ⟨w, f, e2, r2, _⟩ := reps_at rs e
      exact .inl (.inr (.inl ⟨a, vs, i, w, rfl, rfl, by rw [G.K]; exact hq, e2, q w H Z f ⟨same_refl H, .refl hz, r2, fun e => by cases e⟩⟩))
    | _ => exact o.elim
  | str z =>
    cases y with
    | int i =>
      obtain ⟨hl, o⟩ := Out.guard (show Out g W Z σ H (if z.length ≤ sizeLine then ofR ((L2.atI z.cps.toList i).map oneOf) else .bad) _ from o)
      obtain ⟨d, e, q⟩ := ofR_out o
      obtain ⟨c, e1, rfl⟩ := Option.map_eq_some_iff.mp e
      obtain ⟨rfl, _⟩ := rep_str rx
      obtain ⟨rfl, _⟩ := rep_int ry
      exact .inl (.inr (.inr ⟨z, i, c, rfl, rfl, hl, e1, q _ H Z [] (post_sc hz (.str _))⟩))
    | _ => exact o.elim
  | dct o' kvs =>
    have o : Out g W Z σ H ((keyIn y kvs).bind fun k => ofR (dget kvs k)) _ := o
    cases e : keyIn y kvs with
    | ok k =>
      rw [e] at o
      obtain ⟨z, e2, q⟩ := ofR_out (show Out g W Z σ H (ofR (dget kvs k)) _ from o)
      exact .inr ⟨Z, y, kvs, k, z, ⟨⟨_, ry⟩, ⟨_, _, rx⟩, e⟩, e2, fun v' r' => q v' H Z [] (post_sc hz r')⟩
    | err c fs => exact absurd e (keyIn_err c fs)
    | bad => rw [e] at o; exact o.elim
  | _ => exact o.elim
end
end DI
namespace DI
open PySem PySem.Spec PyProof.Rows L2
section
variable {X : Cx} {g : Gv} {W : L2.WX} {a b c : Expr} {fa fb fc : Sl → R D} {ba bb bc : Bool} {pos : Pos}
theorem tIT_tB {f : Sl → R D} {bo : Bool} {σ : L2.St} {H : Hp} {Q : Bool → Hp → Prop} (q : tIT g W f σ H Q) : tB (tI g W bo f) σ H Q := by
  obtain ⟨H0, Z, fps, σl, sr, o⟩ := q
  refine ⟨H0, Z, fps, σl, sr, o.imp fun d ⟨k, e, q⟩ v H' Z' fp p => ?_⟩
  subst e
  have rp := p.rep
  cases rp
  exact ⟨k, rfl, q H' Z' p.same p.zx⟩
theorem se_var {i : Nat} {x : Str} (hN : X.N[i]? = some x) (hv : Vis X.env.scope x) (hd : (x == ("__debug__" : Str)) = false) (hcd : (x == ("__classdict__" : Str)) = false) : PE X (.Name x pos) (tI g W false fun σ => getS σ i) := (pe_var hN hv hd hcd).imp fun σ H Q q => by
  obtain ⟨H0, Z, fps, σl, sr, o⟩ := q
  have o : Out g W Z σ H (getS σl i) _ := o
  unfold getS at o
  cases e : σl[i]? with
  | none => rw [e] at o; exact o.elim
  | some w =>
    cases w with
    | none => rw [e] at o; exact o.elim
    | some d =>
      rw [e] at o
      obtain ⟨v, fp, e1, e2, r⟩ := sr.slot i d e
      exact ⟨v, e1, o v H Z fp ⟨same_refl H, .refl sr.z, r, fun e => by cases e⟩⟩
theorem se_con {e : Expr} {v : V} {d : D} {bo : Bool} (h : PE X e (tC v)) (hr : ∀ (Z : Addr → Prop) (H : Hp), Rep g Z H d v []) : PE X e (tI g W bo fun _ => .ok d) := h.imp fun σ H Q q => by
  obtain ⟨H0, Z, fps, σl, sr, o⟩ := q
  exact o v H Z [] (post_sc sr.z (hr Z H))
theorem se_neg (ha : PE X a (tI g W ba fa)) {bo : Bool} : PE X (.UnaryOp .USub a pos) (tI g W bo fun σ => (fa σ).bind fun x => (intOf x).bind fun i => .ok (.int (-i))) := (pe_un un_neg ha).imp fun σ H Q q => by
  obtain ⟨H0, Z, fps, σl, sr, o⟩ := q
  refine ⟨H0, Z, fps, σl, sr, o.bind.imp fun x h v1 H1 Z1 fp1 p1 => ?_⟩
  cases x with
  | int i =>
    obtain ⟨rfl, _⟩ := rep_int p1.rep
    exact ⟨i, rfl, h _ H1 Z1 [] ((post_sc p1.zx.inn (.int _)).pre p1.same p1.zx)⟩
  | _ => exact h.elim
theorem se_not (ha : PE X a (tI g W ba fa)) {bo : Bool} : PE X (.UnaryOp .Not a pos) (tI g W bo fun σ => (fa σ).bind fun x => (boolOf x).bind fun i => .ok (.bl (!i))) := (pe_not ha).imp fun σ H Q q => by
  obtain ⟨H0, Z, fps, σl, sr, o⟩ := q
  refine ⟨H0, Z, fps, σl, sr, o.bind.imp fun x h v1 H1 Z1 fp1 p1 => ?_⟩
  cases x with
  | bl i =>
    obtain ⟨rfl, _⟩ := rep_bl p1.rep
    exact ⟨i, rfl, h _ H1 Z1 [] ((post_sc p1.zx.inn (.bl _)).pre p1.same p1.zx)⟩
  | _ => exact h.elim
theorem st_not (ha : PT X a (tIT g W fa)) : PT X (.UnaryOp .Not a pos) (tIT g W fun σ => (fa σ).bind fun x => (boolOf x).bind fun i => .ok (.bl (!i))) := (pt_not ha).imp fun σ H Q q => by
  obtain ⟨H0, Z, fps, σl, sr, o⟩ := q
  refine ⟨H0, Z, fps, σl, sr, o.bind.imp fun x h => ?_⟩
  cases x with
  | bl i =>
    obtain ⟨k, e, q⟩ := h
    cases e
    exact ⟨i, rfl, fun H' Z' s z => q H' Z' s z⟩
  | _ => exact h.elim
theorem se_and {rest : List Expr} (ha : PE X a (tI g W ba fa)) (hb : PE X (.BoolOp .And (b :: rest) pos) (tI g W bb fb)) : PE X (.BoolOp .And (a :: b :: rest) pos) (tI g W false fun σ => (fa σ).bind fun x => (boolOf x).bind fun r => if r = true then (fb σ).bind fun y => (boolOf y).bind fun r => .ok (.bl r) else .ok (.bl false)) := (pe_and ha hb).imp fun σ H Q q => by
  obtain ⟨H0, Z, fps, σl, sr, o⟩ := q
  refine ⟨H0, Z, fps, σl, sr, o.bind.imp fun x h v1 H1 Z1 fp1 p1 => ?_⟩
  cases x with
  | bl i =>
    obtain ⟨rfl, _⟩ := rep_bl p1.rep
    refine ⟨i, rfl, ?_⟩
    cases i with
    | true =>
      have h : Out g W Z σ H ((fb σl).bind fun y => (boolOf y).bind fun r => R.ok (D.bl r)) _ := h
      refine ⟨H0, Z1, fps, σl, sr.step p1.same p1.zx, h.bind.step p1.same p1.zx fun y h2 v2 H2 Z2 fp2 p2 => ?_⟩
      cases y with
      | bl j => exact h2 v2 H2 Z2 fp2 ((p2.borrow).pre p1.same p1.zx)
      | _ => exact h2.elim
    | false => exact h _ H1 Z1 [] ((post_sc p1.zx.inn (.bl _)).pre p1.same p1.zx)
  | _ => exact h.elim
theorem sw_and {rest : List Expr} (ha : PT X a (tIT g W fa)) (hb : PW X (.BoolOp .And (b :: rest) pos) (tIT g W fb)) : PW X (.BoolOp .And (a :: b :: rest) pos) (tIT g W fun σ => (fa σ).bind fun x => (boolOf x).bind fun r => if r = true then (fb σ).bind fun y => (boolOf y).bind fun r => .ok (.bl r) else .ok (.bl false)) := (pw_and ha hb).imp fun σ H Q q => by
  obtain ⟨H0, Z, fps, σl, sr, o⟩ := q
  refine ⟨H0, Z, fps, σl, sr, o.bind.imp fun x h => ?_⟩
  cases x with
  | bl i =>
    refine ⟨i, rfl, fun H1 Z1 s1 z1 => ?_⟩
    cases i with
    | true =>
      have h : Out g W Z σ H ((fb σl).bind fun y => (boolOf y).bind fun r => R.ok (D.bl r)) _ := h
      refine ⟨H0, Z1, fps, σl, sr.step s1 z1, h.bind.step s1 z1 fun y h2 => ?_⟩
      cases y with
      | bl j =>
        obtain ⟨k, e, q⟩ := h2
        cases e
        exact ⟨j, rfl, fun H' Z' s z => q H' Z' (same_trans s1 s) (z1.trans s1 z)⟩
      | _ => exact h2.elim
    | false =>
      obtain ⟨k, e, q⟩ := h
      cases e
      exact q H1 Z1 s1 z1
  | _ => exact h.elim
theorem sw_or {rest : List Expr} (ha : PT X a (tIT g W fa)) (hb : PW X (.BoolOp .Or (b :: rest) pos) (tIT g W fb)) : PW X (.BoolOp .Or (a :: b :: rest) pos) (tIT g W fun σ => (fa σ).bind fun x => (boolOf x).bind fun r => if r = true then .ok (.bl true) else (fb σ).bind fun y => (boolOf y).bind fun r => .ok (.bl r)) := (pw_or ha hb).imp fun σ H Q q => by
  obtain ⟨H0, Z, fps, σl, sr, o⟩ := q
  refine ⟨H0, Z, fps, σl, sr, o.bind.imp fun x h => ?_⟩
  cases x with
  | bl i =>
    refine ⟨i, rfl, fun H1 Z1 s1 z1 => ?_⟩
    cases i with
    | false =>
      have h : Out g W Z σ H ((fb σl).bind fun y => (boolOf y).bind fun r => R.ok (D.bl r)) _ := h
      refine ⟨H0, Z1, fps, σl, sr.step s1 z1, h.bind.step s1 z1 fun y h2 => ?_⟩
      cases y with
      | bl j =>
        obtain ⟨k, e, q⟩ := h2
        cases e
        exact ⟨j, rfl, fun H' Z' s z => q H' Z' (same_trans s1 s) (z1.trans s1 z)⟩
      | _ => exact h2.elim
    | true =>
      obtain ⟨k, e, q⟩ := h
      cases e
      exact q H1 Z1 s1 z1
  | _ => exact h.elim
theorem se_ite (hc : PT X c (tIT g W fc)) (ha : PE X a (tI g W ba fa)) (hb : PE X b (tI g W bb fb)) : PE X (.IfExp c a b pos) (tI g W (ba && bb) fun σ => (fc σ).bind fun x => (boolOf x).bind fun r => if r = true then fa σ else fb σ) := (pe_ifExp hc ha hb).imp fun σ H Q q => by
  obtain ⟨H0, Z, fps, σl, sr, o⟩ := q
  refine ⟨H0, Z, fps, σl, sr, o.bind.imp fun x h => ?_⟩
  cases x with
  | bl i =>
    refine ⟨i, rfl, fun H1 Z1 s1 z1 => ?_⟩
    cases i with
    | true =>
      have h : Out g W Z σ H (fa σl) _ := h
      exact ⟨H0, Z1, fps, σl, sr.step s1 z1, h.step s1 z1 fun y h2 v2 H2 Z2 fp2 p2 => h2 v2 H2 Z2 fp2 (PostE.pre s1 z1 ⟨p2.same, p2.zx, p2.rep, fun e => p2.own (by cases ba <;> simp_all)⟩)⟩
    | false =>
      have h : Out g W Z σ H (fb σl) _ := h
      exact ⟨H0, Z1, fps, σl, sr.step s1 z1, h.step s1 z1 fun y h2 v2 H2 Z2 fp2 p2 => h2 v2 H2 Z2 fp2 (PostE.pre s1 z1 ⟨p2.same, p2.zx, p2.rep, fun e => p2.own (by cases bb <;> simp_all)⟩)⟩
  | _ => exact h.elim
theorem sa_nil {bo : Bool} : PA X [] (tIA g W bo fun _ => .ok (.tup [])) := pa_nil.imp fun σ H Q q => by
  obtain ⟨H0, Z, fps, σl, sr, o⟩ := q
  obtain ⟨ds, e, q⟩ := o
  cases e
  exact q [] H Z [] ⟨same_refl H, .refl sr.z, .nil, fun _ => ⟨List.nodup_nil, fun _ h => nomatch h⟩⟩
theorem starE {e : Expr} {es : List Expr} {env : Env} (h : (match e with | .Starred _ _ => false | _ => true) = true) : starEach (e :: es) env = (false, eval e env) :: starEach es env := by
  cases e <;> first | rfl | cases h
theorem sa_cons {es : List Expr} (ha : PE X a (tI g W ba fa)) (hb : PA X es (tIA g W bb fb)) (hs : starEach (a :: es) X.env = (false, eval a X.env) :: starEach es X.env) : PA X (a :: es) (tIA g W false fun σ => (fa σ).bind fun x => (fb σ).bind fun r => (tupOf r).bind fun xs => .ok (.tup (x :: xs))) := (pa_cons ha hb hs).imp fun σ H Q q => by
  obtain ⟨H0, Z, fps, σl, sr, o⟩ := q
  refine ⟨H0, Z, fps, σl, sr, o.bind.imp fun x h v1 H1 Z1 fp1 p1 => ?_⟩
  refine ⟨H0, Z1, fps, σl, sr.step p1.same p1.zx, h.bind.step p1.same p1.zx fun y h2 => ?_⟩
  cases y with
  | tup ds =>
    obtain ⟨ds', e, q⟩ := h2
    cases e
    exact ⟨ds, rfl, fun vs H2 Z2 fp2 p2 => q (v1 :: vs) H2 Z2 (fp1 ++ fp2) ⟨same_trans p1.same p2.same, p1.zx.trans p1.same p2.zx, .cons (p1.rep.same p2.zx.le p2.same) p2.rep, fun e => by cases e⟩⟩
  | _ => exact h2.elim
theorem sa_ocons {es : List Expr} {r : Bool} (hr : r = false → ba = true) (ha : PE X a (tI g W ba fa)) (hb : PA X es (tIA g W true fb)) (hs : starEach (a :: es) X.env = (false, eval a X.env) :: starEach es X.env) :
    PA X (a :: es) (tIA g W true fun σ => (fa σ).bind fun x => (ownIf r x).bind fun x => (fb σ).bind fun r => (tupOf r).bind fun xs => .ok (.tup (x :: xs))) := (pa_cons ha hb hs).imp fun σ H Q q => by
  obtain ⟨H0, Z, fps, σl, sr, o⟩ := q
  refine ⟨H0, Z, fps, σl, sr, o.bind.imp fun x h v1 H1 Z1 fp1 p1 => ?_⟩
  obtain ⟨hc, h⟩ := Out.guard (show Out g W Z σ H (if (!r || clean x) = true then R.ok x else .bad) _ from h.bind)
  have own1 : fp1.Nodup ∧ ∀ a ∈ fp1, H a = none ∧ ¬ Z1 a := by
    cases r with
    | false => exact p1.own (hr rfl)
    | true =>
      have e := Rep.clean p1.rep (by simpa using hc)
      subst e
      exact ⟨List.nodup_nil, fun _ h => nomatch h⟩
  have h : Out g W Z σ H ((fb σl).bind fun r => (tupOf r).bind fun xs => R.ok (D.tup (x :: xs))) _ := h
  refine ⟨H0, Z1, fps, σl, sr.step p1.same p1.zx, h.bind.step p1.same p1.zx fun y h2 => ?_⟩
  cases y with
  | tup ds =>
    obtain ⟨ds', e, q⟩ := h2
    cases e
    refine ⟨ds, rfl, fun vs H2 Z2 fp2 p2 => q (v1 :: vs) H2 Z2 (fp1 ++ fp2) ⟨same_trans p1.same p2.same, p1.zx.trans p1.same p2.zx, .cons (p1.rep.same p2.zx.le p2.same) p2.rep, fun _ => ?_⟩⟩
    obtain ⟨n2, o2⟩ := p2.own rfl
    refine ⟨List.nodup_append.mpr ⟨own1.1, n2, fun x hx y hy e => ?_⟩, fun a ha => ?_⟩
    · subst e
      exact Rep.there p1.rep x hx (o2 x hy).1
    · rcases List.mem_append.mp ha with ha | ha
      · refine ⟨(own1.2 a ha).1, fun z => ?_⟩
        rcases p2.zx.new a z with z | z
        · exact (own1.2 a ha).2 z
        · exact Rep.there p1.rep a ha z
      · exact ⟨same_none p1.same (o2 a ha).1, (o2 a ha).2⟩
  | _ => exact h2.elim
theorem se_tup {es : List Expr} {k : Nat} (h : PA X es (tIA g W true fa)) : PE X (.Tuple es k pos) (tI g W true fun σ => (fa σ).bind fun r => (tupOf r).bind fun xs => if xs.length ≤ sizeLine then .ok (.tup xs) else .bad) := (pe_tup h).imp fun σ H Q q => by
  obtain ⟨H0, Z, fps, σl, sr, o⟩ := q
  refine ⟨H0, Z, fps, σl, sr, o.bind.imp fun x h => ?_⟩
  cases x with
  | tup ds =>
    refine ⟨ds, rfl, fun vs H1 Z1 fp1 p1 => ?_⟩
    obtain ⟨hl, h⟩ := Out.guard (show Out g W Z σ H (if ds.length ≤ sizeLine then R.ok (D.tup ds) else .bad) _ from h)
    refine ⟨by rw [← p1.rep.length]; exact hl, fun p hp => h _ _ Z1 fp1 ⟨same_trans p1.same (same_upd hp), p1.zx.trans p1.same (.stay p1.zx.inn (same_upd hp)), .tup (.of upd_same) (p1.rep.same (fun _ z => z) (same_upd hp)), fun _ => p1.own rfl⟩⟩
  | _ => exact h.elim
theorem se_lst {es : List Expr} (h : PA X es (tIA g W true fa)) : PE X (.List es pos) (tI g W true fun σ => (fa σ).bind fun r => (tupOf r).bind fun xs => if xs.length ≤ sizeLine then .ok (.lst true xs) else .bad) := (pe_lst h).imp fun σ H Q q => by
  obtain ⟨H0, Z, fps, σl, sr, o⟩ := q
  refine ⟨H0, Z, fps, σl, sr, o.bind.imp fun x h => ?_⟩
  cases x with
  | tup ds =>
    refine ⟨ds, rfl, fun vs H1 Z1 fp1 p1 => ?_⟩
    obtain ⟨hl, h⟩ := Out.guard (show Out g W Z σ H (if ds.length ≤ sizeLine then R.ok (D.lst true ds) else .bad) _ from h)
    refine ⟨by rw [← p1.rep.length]; exact hl, fun p hp => h _ _ Z1 (p :: fp1) ⟨same_trans p1.same (same_upd hp), p1.zx.trans p1.same (.stay p1.zx.inn (same_upd hp)), .lst upd_same (p1.rep.same (fun _ z => z) (same_upd hp)) (.inl ⟨rfl, rfl⟩), fun _ => ?_⟩⟩
    obtain ⟨n1, o1⟩ := p1.own rfl
    refine ⟨List.nodup_cons.mpr ⟨fun m => Reps.there p1.rep p m hp, n1⟩, fun a ha => ?_⟩
    rcases List.mem_cons.mp ha with rfl | ha
    · exact ⟨same_none p1.same hp, fun z => p1.zx.inn a z hp⟩
    · exact o1 a ha
  | _ => exact h.elim
theorem se_dict0 : PE X (.Dict [] [] pos) (tI g W true fun _ => .ok (.dct true [])) := pe_dnewK.imp fun σ H Q q => by
  obtain ⟨H0, Z, fps, σl, sr, o⟩ := q
  exact fun p hp => o _ _ Z [p] (post_new sr.z hp (.dK (kv := []) upd_same rfl .nil own_new) (.inr rfl))
def rSlAll (X : Cx) : V → Option Int → Option Int → Hp → VK → Prop := fun x lo hi H Q => rSlL X.K x lo hi H Q ∨ (rSlA X.K x lo hi H Q ∨ rSlS x lo hi H Q)
theorem slr_all : SlR X (rSlAll X) := sl_list.or (sl_tupA.or sl_str)
theorem cutV_nil {Z : Addr → Prop} {H : Hp} {xs : List D} {vs : List V} (r : Reps g Z H xs vs []) (lo hi : Option Int) : Reps g Z H (cutL xs lo hi) (cutV vs lo hi) [] := by
  unfold cutL cutV
  rw [r.length]
  exact (r.drop0 _).take0 _
theorem cutL_all {α : Type} (xs : List α) (lo hi : Option Int) (h : HT.sIx xs.length 0 lo = 0 ∧ HT.sIx xs.length xs.length hi = xs.length) : cutL xs lo hi = xs := by
  unfold cutL
  rw [h.1, h.2, List.drop_zero, Nat.sub_zero, List.take_length]
theorem slD_out {σ : L2.St} {Z : Addr → Prop} {H : Hp} {x : D} {v : V} {fx : List Addr} {lo hi : Option Int} {Q : VK} (G : Gof g X) (hz : ∀ a, Z a → H a ≠ none) (rx : Rep g Z H x v fx)
    (o : Out g W Z σ H (slD x lo hi) fun d => ∀ v H' Z' fp, PostE g true Z Z' H H' d v fp → Q v H') : rSlAll X v lo hi H Q := by
  cases x with
  | lst o' xs =>
    obtain ⟨hc, o⟩ := Out.guard (show Out g W Z σ H (if cleanL xs = true then R.ok (D.lst true (cutL xs lo hi)) else .bad) _ from o)
    obtain ⟨a, vs, fs, rfl, hq, rs, sub⟩ := rep_lst' rx
    refine .inl ⟨a, vs, rfl, by rw [G.K]; exact hq, fun p hp => o _ _ Z [p] (post_new hz hp (.lst upd_same ((cutV_nil (rs.to0 hc) lo hi).same (fun _ z => z) (same_upd hp)) own_new) (.inr rfl))⟩
  | tup xs =>
    obtain ⟨hc, o⟩ := Out.guard (show Out g W Z σ H (if cleanL xs = true then R.ok (D.tup (cutL xs lo hi)) else .bad) _ from o)
    obtain ⟨a, vs, rfl, hq, rs⟩ := rep_tup rx
    refine .inr (.inl ⟨a, vs, rfl, by rw [G.K]; exact hq, fun h => ?_, fun _ p hp => o _ _ Z [] (post_new hz hp (.tup (.of upd_same) ((cutV_nil (rs.to0 hc) lo hi).same (fun _ z => z) (same_upd hp))) (.inl rfl))⟩)
    rw [← rs.length] at h
    refine o _ H Z [] (post_sc hz (.tup hq ?_))
    rw [cutL_all xs lo hi h]
    exact rs.to0 hc
  | str z =>
    obtain ⟨hc, o⟩ := Out.guard (show Out g W Z σ H (if z.length ≤ sizeLine then R.ok (D.str (L2.cutS z lo hi)) else .bad) _ from o)
    obtain ⟨rfl, _⟩ := rep_str rx
    exact .inr (.inr ⟨z, rfl, hc, o _ H Z [] (post_sc hz (.str _))⟩)
  | _ => exact o.elim
def tPO (g : Gv) (W : L2.WX) (f : Sl → R D) (n : Bool) : TO := fun σ H Q => ∃ H0 Z fps σl, SR g H0 Z fps σl σ H ∧ Out g W Z σ H (f σl) fun d => Out g W Z σ H (partD (if n = true then none else some d)) fun i => ∀ H' Z', Same H H' → Zx Z Z' H H' → Q i H'
theorem po_e (ha : PE X a (tI g W ba fa)) : PO X (some a) (tPO g W fa false) := by
  refine ⟨fun pins s σ H Q I h => (po_some ha).run pins s σ H Q I ?_⟩
  obtain ⟨H0, Z, fps, σl, sr, o⟩ := h
  refine ⟨H0, Z, fps, σl, sr, o.imp fun x h v1 H1 Z1 fp1 p1 => ?_⟩
  cases x with
  | int i =>
    obtain ⟨rfl, _⟩ := rep_int p1.rep
    exact ⟨i, rfl, h H1 Z1 p1.same p1.zx⟩
  | _ => exact h.elim
theorem po_n : PO X none (tPO g W (fun _ => .ok .non) true) := by
  refine ⟨fun pins s σ H Q I h => po_none.run pins s σ H Q I ?_⟩
  obtain ⟨H0, Z, fps, σl, sr, o⟩ := h
  exact o H Z (same_refl H) (.refl sr.z)
theorem se_sl {lo hi : Option Expr} {p2 : Pos} {nb nc : Bool} (G : Gof g X) (ha : PE X a (tI g W ba fa)) (hl : PO X lo (tPO g W fb nb)) (hh : PO X hi (tPO g W fc nc)) :
    PE X (.Subscript a (.Slice lo hi none p2) pos) (tI g W true fun σ => (fa σ).bind fun x => (fb σ).bind fun l => (partD (if nb = true then none else some l)).bind fun l => (fc σ).bind fun h => (partD (if nc = true then none else some h)).bind fun h => slD x l h) :=
  (pe_slice slr_all ha hl hh).imp fun σ H Q q => by
    obtain ⟨H0, Z, fps, σl, sr, o⟩ := q
    refine ⟨H0, Z, fps, σl, sr, o.bind.imp fun x h v1 H1 Z1 fp1 p1 => ?_⟩
    refine ⟨H0, Z1, fps, σl, sr.step p1.same p1.zx, h.bind.step p1.same p1.zx fun l h2 => ?_⟩
    refine h2.bind.step p1.same p1.zx fun lo' h3 H2 Z2 s2 z2 => ?_
    have s12 := same_trans p1.same s2
    have z12 := p1.zx.trans p1.same z2
    refine ⟨H0, Z2, fps, σl, sr.step s12 z12, h3.bind.step s12 z12 fun l' h4 => ?_⟩
    refine h4.bind.step s12 z12 fun hi' h5 H3 Z3 s3 z3 => ?_
    have s13 := same_trans s12 s3
    have z13 := z12.trans s12 z3
    exact slD_out G z3.inn (p1.rep.same (fun a z => z3.le a (z2.le a z)) (same_trans s2 s3)) (h5.step s13 z13 fun d q v H' Z' fp p => q v H' Z' fp (p.pre s13 z13))
end
end DI
namespace DI
open PySem PySem.Spec PyProof.Rows L2
section
variable {X : Cx} {g : Gv} {W : L2.WX} {a b c : Expr} {fa fb fc : Sl → R D} {ba bb bc : Bool} {pos : Pos}
theorem tChain_of {r r' : R2} {o o' : Cop} (hr : OpD g W true r (fun x y => blR (cmpD o x y))) (hr' : OpD g W true r' (fun x y => blR (cmpD o' x y))) {σ : L2.St} {H : Hp} {Q : VK}
    (q : tI g W true (fun σ => (fa σ).bind fun x => (fb σ).bind fun y => (cmpD o x y).bind fun r => if r = true then (fc σ).bind fun z => (cmpD o' y z).bind fun r => .ok (.bl r) else .ok (.bl false)) σ H Q) :
    tChain r r' (tI g W ba fa) (tI g W bb fb) (tI g W bc fc) σ H Q := by
  obtain ⟨H0, Z, fps, σl, sr, q⟩ := q
  refine ⟨H0, Z, fps, σl, sr, q.bind.imp fun x h v1 H1 Z1 fp1 p1 => ?_⟩
  refine ⟨H0, Z1, fps, σl, sr.step p1.same p1.zx, h.bind.step p1.same p1.zx fun y h2 v2 H2 Z2 fp2 p2 => ?_⟩
  have s2 := same_trans p1.same p2.same
  have z2 := p1.zx.trans p1.same p2.zx
  refine hr Z2 σ H2 x y v1 v2 fp1 fp2 _ p2.zx.inn (p1.rep.same p2.zx.le p2.same) p2.rep ?_
  have h3 := h2.bind.step (P' := fun k => Out g W Z σ H (if k = true then (fc σl).bind fun z => (cmpD o' y z).bind fun r => .ok (.bl r) else .ok (.bl false)) fun d => ∀ v H' Z' fp, PostE g true Z Z' H H' d v fp → Q v H') s2 z2 (fun _ h => h)
  show Out g W Z2 σ H2 (blR (cmpD o x y)) _
  unfold blR
  cases hc : cmpD o x y with
  | ok k =>
    rw [hc] at h3
    have h3 : Out g W Z σ H (if k = true then (fc σl).bind fun z => (cmpD o' y z).bind fun r => .ok (.bl r) else .ok (.bl false)) fun d => ∀ v H' Z' fp, PostE g true Z Z' H H' d v fp → Q v H' := h3
    intro v H3 Z3 fp3 p3
    have rp := p3.rep
    cases rp
    refine ⟨k, rfl, ?_⟩
    have s3 := same_trans s2 p3.same
    have z3 := z2.trans s2 p3.zx
    cases k with
    | true =>
      have h3 : Out g W Z σ H ((fc σl).bind fun z => (cmpD o' y z).bind fun r => R.ok (D.bl r)) _ := h3
      refine ⟨H0, Z3, fps, σl, sr.step s3 z3, h3.bind.step s3 z3 fun z h4 v4 H4 Z4 fp4 p4 => ?_⟩
      have s4 := same_trans s3 p4.same
      have z4 := z3.trans s3 p4.zx
      refine hr' Z4 σ H4 y z v2 v4 fp2 fp4 Q p4.zx.inn (p2.rep.same (fun a h => p4.zx.le a (p3.zx.le a h)) (same_trans p3.same p4.same)) p4.rep ?_
      exact h4.step s4 z4 fun d q v H' Z' fp p => q v H' Z' fp (p.pre s4 z4)
    | false => exact h3 _ H3 Z3 [] ((post_sc p3.zx.inn (.bl _)).pre s3 z3)
  | err c fs =>
    rw [hc] at h3
    exact h3
  | bad =>
    rw [hc] at h3
    exact h3
theorem tIT_tI {f : Sl → R D} {σ : L2.St} {H : Hp} {Q : Bool → Hp → Prop} (q : tIT g W f σ H Q) : tI g W true f σ H fun x H1 => ∃ k, x = .bl k ∧ Q k H1 := tIT_tB q
theorem st_chn {op op' : CmpOp} {r r' : R2} {o o' : Cop} (ho : OpR X (compareOp op) r) (ho' : OpR X (compareOp op') r') (hr : OpD g W true r (fun x y => blR (cmpD o x y))) (hr' : OpD g W true r' (fun x y => blR (cmpD o' x y)))
    (ha : PE X a (tI g W ba fa)) (hb : PE X b (tI g W bb fb)) (hc : PE X c (tI g W bc fc)) (hm : lastMarks [op, op'] [b, c] = false) :
    PT X (.Compare a [op, op'] [b, c] pos) (tIT g W (fun σ => (fa σ).bind fun x => (fb σ).bind fun y => (cmpD o x y).bind fun r => if r = true then (fc σ).bind fun z => (cmpD o' y z).bind fun r => .ok (.bl r) else .ok (.bl false))) :=
  (pt_chain ho ho' ha hb hc hm).imp fun _ _ _ q => tChain_of hr hr' (tIT_tI q)
def OpC (g : Gv) (W : L2.WX) (bo : Bool) (r : List V → Hp → VK → Prop) (h : List D → R D) : Prop := ∀ (Z : Addr → Prop) (σ : L2.St) (H : Hp) (ds : List D) (vs : List V) (fp : List Addr) (Q : VK), (∀ a, Z a → H a ≠ none) → Reps g Z H ds vs fp →
  Out g W Z σ H (h ds) (fun d => ∀ v H' Z' fp, PostE g bo Z Z' H H' d v fp → Q v H') → r vs H Q
theorem tCB_of {r : List V → Hp → VK → Prop} {h : List D → R D} {bo : Bool} (hr : OpC g W bo r h) {σ : L2.St} {H : Hp} {Q : VK} (q : tI g W bo (fun σ => (fa σ).bind fun r => (tupOf r).bind fun ds => h ds) σ H Q) : tCB r (tIA g W ba fa) σ H Q := by
  obtain ⟨H0, Z, fps, σl, sr, q⟩ := q
  refine ⟨H0, Z, fps, σl, sr, q.bind.imp fun x o => ?_⟩
  cases x with
  | tup ds =>
    have o : Out g W Z σ H (h ds) _ := o
    exact ⟨ds, rfl, fun vs H1 Z1 fp1 p1 => hr Z1 σ H1 ds vs fp1 Q p1.zx.inn p1.rep (o.step p1.same p1.zx fun d q v H' Z' fp p => q v H' Z' fp (p.pre p1.same p1.zx))⟩
  | _ => exact o.elim
theorem se_callB {x : Str} {p : Pos} {e : Expr} {es : List Expr} {id : String} {r : List V → Hp → VK → Prop} {h : List D → R D} {bo : Bool} (hc : CallR X (.builtin id) r) (hr : OpC g W bo r h) (hg : Gl X x) (hm : X.mg x = none) (hv : bootBuiltins x = some (.builtin id))
    (ha : PA X (e :: es) (tIA g W ba fa)) (hn : x ≠ "__name__") (hdb : (x == ("__debug__" : Str)) = false) (he : starEach (e :: es) X.env = (false, eval e X.env) :: starEach es X.env) (hpl : (backTo pos (starEach es X.env)).any (·.1) = false) :
    PE X (.Call (.Name x p) (e :: es) [] pos) (tI g W bo fun σ => (fa σ).bind fun r => (tupOf r).bind fun ds => h ds) := (pe_callB hc hg hm hv ha hn hdb he hpl).imp fun _ _ _ q => tCB_of hr q
theorem se_callTy {x : Str} {p : Pos} {e : Expr} {es : List Expr} {T : String} {r : List V → Hp → VK → Prop} {h : List D → R D} {bo : Bool} (hc : CallR X (.type T) r) (hr : OpC g W bo r h) (hg : Gl X x) (hm : X.mg x = none) (hv : bootBuiltins x = some (.type T))
    (ha : PA X (e :: es) (tIA g W ba fa)) (hn : x ≠ "__name__") (hdb : (x == ("__debug__" : Str)) = false) (he : starEach (e :: es) X.env = (false, eval e X.env) :: starEach es X.env) (hpl : (backTo pos (starEach es X.env)).any (·.1) = false) :
    PE X (.Call (.Name x p) (e :: es) [] pos) (tI g W bo fun σ => (fa σ).bind fun r => (tupOf r).bind fun ds => h ds) := (pe_callTy hc hg hm hv ha hn hdb he hpl).imp fun _ _ _ q => tCB_of hr q
def spI (g : Gv) (n : Nat) (h : List D → R D) : Sp := fun vs H Q E => ∃ (Z : Addr → Prop) (ds : List D), (∀ a, Z a → H a ≠ none) ∧ Reps g Z H ds vs [] ∧ ds.length = n ∧
  Out g (fun cls d _ H => E cls d H) Z [] H (h ds) fun d => ∀ v H' Z' fp, PostE g true Z Z' H H' d v fp → Q v H'
theorem frzL_length (ds : List D) : (frzL ds).length = ds.length := by rw [frzL_map, List.length_map]
theorem call_sp {n : Nat} {h : List D → R D} {Z Z1 : Addr → Prop} {H H1 : Hp} {σ : L2.St} {ds : List D} {vs : List V} {fp1 : List Addr} {Q : VK} {bo : Bool} (p1 : PostA g ba Z Z1 H H1 ds vs fp1) (hn : ds.length = n)
    (o : Out g W Z σ H ((h (frzL ds)).bind fun d => if (cleanL ds || noFrz d) = true then .ok d else .bad) fun d => ∀ v H' Z' fp, PostE g bo Z Z' H H' d v fp → Q v H') :
    spI g n h vs H1 Q (fun cls d H => W cls d σ H) := by
  refine ⟨fun a => Z1 a ∨ a ∈ fp1, frzL ds, fun a ha => ?_, p1.rep.frz (fun a z => .inl z) (fun a m => .inr m), by rw [frzL_length]; exact hn, ?_⟩
  · rcases ha with z | m
    · exact p1.zx.inn a z
    · exact Reps.there p1.rep a m
  · cases hh : h (frzL ds) with
    | ok d =>
      rw [hh] at o
      obtain ⟨hc, o⟩ := Out.guard (show Out g W Z σ H (if (cleanL ds || noFrz d) = true then R.ok d else .bad) _ from o)
      intro v H' Z' fp p2
      refine o v H' (fun a => Z1 a ∨ (Z' a ∧ H1 a = none)) fp ⟨same_trans p1.same p2.same, ⟨fun a z => .inl (p1.zx.le a z), fun a z => ?_, fun a z => ?_⟩, ?_, fun _ => ⟨(p2.own rfl).1, fun a ha => ?_⟩⟩
      · rcases z with z | ⟨_, z⟩
        · exact p1.zx.new a z
        · exact .inr (same_none p1.same z)
      · rcases z with z | ⟨z, _⟩
        · exact fun e => p1.zx.inn a z (same_none p2.same e)
        · exact p2.zx.inn a z
      · rw [Bool.or_eq_true] at hc
        rcases hc with hc | hc
        · have e := p1.rep.clean hc
          subst e
          refine p2.rep.same (fun a z => ?_) (same_refl H')
          rcases p2.zx.new a z with (q | q) | q
          · exact .inl q
          · exact nomatch q
          · exact .inr ⟨z, q⟩
        · exact p2.rep.unzone hc
      · obtain ⟨h1, h2⟩ := (p2.own rfl).2 a ha
        refine ⟨same_none p1.same h1, fun z => ?_⟩
        rcases z with z | ⟨z, _⟩
        · exact p1.zx.inn a z h1
        · exact h2 z
    | err c fs =>
      rw [hh] at o
      intro H' Z' cls d s z e
      refine o H' (fun a => Z1 a ∨ (Z' a ∧ H1 a = none)) cls d (same_trans p1.same s) ⟨fun a z => .inl (p1.zx.le a z), fun a z => ?_, fun a z' => ?_⟩ e
      · rcases z with z | ⟨_, z⟩
        · exact p1.zx.new a z
        · exact .inr (same_none p1.same z)
      · rcases z' with z' | ⟨z', _⟩
        · exact fun e => p1.zx.inn a z' (same_none s e)
        · exact z.inn a z'
    | bad =>
      rw [hh] at o
      exact o.elim
theorem se_call {x : Str} {p : Pos} {e : Expr} {es : List Expr} {k n : Nat} {f : Addr} {fd : FuncData} {ps : List Str} {h : List D → R D} (F : FnOk X.prog X.w X.K X.mg X.base (L2.CX X.prog X.w) k f fd ps (spI g n h)) (hr : Room k X.A) (hg : Gl X x) (hm : X.mg x = some (.ref f))
    (hk : PySem.W.keepIn X.K (.ref f) = true) (hb : Binds X.K fd ps []) (tk : Takes X W) (ha : PA X (e :: es) (tIA g W ba fa)) (hlen : ∀ σ ds, fa σ = .ok (.tup ds) → ds.length = n) (hdb : (x == ("__debug__" : Str)) = false) (he : starEach (e :: es) X.env = (false, eval e X.env) :: starEach es X.env) (hpl : (backTo pos (starEach es X.env)).any (·.1) = false) :
    PE X (.Call (.Name x p) (e :: es) [] pos) (tI g W true fun σ => (fa σ).bind fun r => (tupOf r).bind fun ds => (h (frzL ds)).bind fun d => if (cleanL ds || noFrz d) = true then .ok d else .bad) :=
  (pe_callSD (dvs := []) (E := fun σ cls d H => W cls d σ H) F hr hg hm hk hb .nil (fun σ => passAt tk σ) ha hdb he hpl).imp fun σ H Q q => by
    obtain ⟨H0, Z, fps, σl, sr, q⟩ := q
    refine ⟨H0, Z, fps, σl, sr, ?_⟩
    have q := Out.bind q
    cases hx : fa σl with
    | ok x =>
      rw [hx] at q
      cases x with
      | tup ds =>
        refine ⟨ds, rfl, fun vs H1 Z1 fp1 p1 => ?_⟩
        show spI g n h (vs ++ []) H1 Q _
        rw [List.append_nil]
        exact call_sp p1 (hlen σl ds hx) q
      | _ => exact q.elim
    | err c fs => rw [hx] at q; exact q
    | bad => rw [hx] at q; exact q.elim
theorem reps1 {Z : Addr → Prop} {H : Hp} {x : D} {vs : List V} {fp : List Addr} (r : Reps g Z H [x] vs fp) : ∃ v, vs = [v] ∧ Rep g Z H x v fp := by
  cases r with
  | cons h hs =>
    cases hs
    exact ⟨_, rfl, by rw [List.append_nil]; exact h⟩
def rLenD (X : Cx) : List V → Hp → VK → Prop := fun xs H Q => (∃ p ys, xs = [.ref p] ∧ (SqL X.K H p ys ∨ SqT X.K H p ys) ∧ Q (.int ys.length) H) ∨ ((∃ z, xs = [.str z] ∧ z.length ≤ sizeLine ∧ Q (.int z.length) H) ∨
  ((∃ p kv, xs = [.ref p] ∧ Rd H p (.dK kv) ∧ Q (.int kv.length) H) ∨ ∃ p od ys, xs = [.ref p] ∧ H p = some (rawN X.prog X.w p od ys) ∧ (∀ q ∈ ys, KRep X.K H q.1 (.ref q.2.1) ∧ q.1.depth ≤ 8) ∧ Q (.int ys.length) H))
theorem call_len_dN : CallR X (.builtin "len") (fun xs H Q => ∃ p od ys, xs = [.ref p] ∧ H p = some (rawN X.prog X.w p od ys) ∧ (∀ q ∈ ys, KRep X.K H q.1 (.ref q.2.1) ∧ q.1.depth ≤ 8) ∧ Q (.int ys.length) H) := by
  intro pins s σ H xs us Q I r h
  obtain ⟨p, ob, ys, rfl, hp, hk, q⟩ := h
  obtain ⟨u, rfl, rx⟩ := L2.vals1 r
  cases rx
  obtain ⟨⟨hl, hd, hn, zs, hq, es, ep, h1, h2, h3, h4⟩, _⟩ := I.hok p _ hp
  have hl2 := PN.length hq
  have dd : s.heap.DictOfH (nestedKind X.prog X.w) p zs := by
    refine ⟨ob, es, ep, h1, h2, h3, h4, fun x hx => ?_, by rw [PN.keys hq]; exact hn⟩
    have all : ∀ {l : List (NestedKey × Addr × V)} {m : List (NestedKey × Addr × Value)}, PN l m → (∀ p ∈ l, KRep X.K H p.1 (.ref p.2.1) ∧ p.1.depth ≤ 8) → ∀ x ∈ m, (nestedKind X.prog X.w).is s.heap x.1 x.2.1 := by
      intro l m q
      induction q with
      | nil => intro _ x hx; exact nomatch hx
      | @cons p q ps qs hq t ih =>
        intro hk x hx
        rcases List.mem_cons.mp hx with e | hx
        · subst e
          obtain ⟨k1, k2⟩ := hk p List.mem_cons_self
          refine ⟨?_, by rw [← hq.1]; exact k2⟩
          rw [← hq.1, ← hq.2.1]
          exact KRep.is (v := .ref p.2.1) (u := .ref p.2.1) I k1 rfl
        · exact ih (fun p hp => hk p (List.mem_cons_of_mem _ hp)) x hx
    exact all hq hk x hx
  refine call_len_dictH hd dd (by rw [← hl2]; rw [sizeLine_eq] at hl; omega) ?_
  rw [← hl2]
  exact ⟨.int ((ys.length : Nat) : Int), H, I.tok _, ⟨_, rfl⟩, q⟩
theorem call_len_dK : CallR X (.builtin "len") (fun xs H Q => ∃ p kv, xs = [.ref p] ∧ Rd H p (.dK kv) ∧ Q (.int kv.length) H) := by
  intro pins s σ H xs us Q I r h
  obtain ⟨p, kv, rfl, hp, q⟩ := h
  obtain ⟨u, rfl, rx⟩ := L2.vals1 r
  cases rx
  exact d_len I hp fun t s' I' => ⟨.int kv.length, H, I', ⟨t, rfl⟩, q⟩
theorem cr_lenD : CallR X (.builtin "len") (rLenD X) := call_len_seq.or (call_len_str.or (call_len_dK.or call_len_dN))
theorem opc_len (G : Gof g X) : OpC g W true (rLenD X) (biD .len) := by
  intro Z σ H ds vs fp Q hz r o
  cases ds with
  | nil => exact o.elim
  | cons x r' =>
    cases r' with
    | cons y r' => cases x <;> exact o.elim
    | nil =>
      obtain ⟨v, rfl, rx⟩ := reps1 r
      cases x with
      | lst o' xs =>
        obtain ⟨a, ys, fs, rfl, hq, rs, _⟩ := rep_lst' rx
        have o : ∀ v H' Z' fp, PostE g true Z Z' H H' (.int xs.length) v fp → Q v H' := o
        rw [rs.length] at o
        exact .inl ⟨a, ys, rfl, .inl (by rw [G.K]; exact hq), o _ H Z [] (post_sc hz (.int _))⟩
      | tup xs =>
        obtain ⟨a, ys, rfl, hq, rs⟩ := rep_tup rx
        have o : ∀ v H' Z' fp, PostE g true Z Z' H H' (.int xs.length) v fp → Q v H' := o
        rw [rs.length] at o
        exact .inl ⟨a, ys, rfl, .inr (by rw [G.K]; exact hq), o _ H Z [] (post_sc hz (.int _))⟩
      | str z =>
        obtain ⟨hl, o⟩ := Out.guard (show Out g W Z σ H (if z.length ≤ sizeLine then R.ok (D.int z.length) else .bad) _ from o)
        obtain ⟨rfl, _⟩ := rep_str rx
        exact .inr (.inl ⟨z, rfl, hl, o _ H Z [] (post_sc hz (.int _))⟩)
      | dct o' kvs =>
        have o : ∀ v H' Z' fp, PostE g true Z Z' H H' (.int kvs.length) v fp → Q v H' := o
        have q := o _ H Z [] (post_sc hz (.int _))
        cases rx with
        | @dK a kv _ _ _ h e hs w =>
          have e2 : kvs.length = kv.length := by have := congrArg List.length e; simpa using this.symm
          rw [e2] at q
          exact .inr (.inr (.inl ⟨a, kv, rfl, .inl h, q⟩))
        | @dN a od xs _ _ _ h e ne hk hs w =>
          have e2 : kvs.length = xs.length := by have := congrArg List.length e; simpa using this.symm
          rw [e2] at q
          exact .inr (.inr (.inr ⟨a, od, xs, rfl, by rw [G.P, G.w]; exact h, by rw [G.K]; exact hk, q⟩))
      | _ => exact o.elim
end
end DI
namespace DI
open PySem PySem.Spec PyProof.Rows L2
section
variable {X : Cx} {g : Gv} {W : L2.WX}
theorem reps_bls {Z : Addr → Prop} {H : Hp} : ∀ {xs : List D} {vs : List V} {fp : List Addr} {ns : List Bool}, Reps g Z H xs vs fp → blsD xs = some ns → vs = ns.map V.bl
  | [], _, _, _, r, e => by cases r; cases e; rfl
  | x :: xs, _, _, _, r, e => by
    cases r with
    | cons h hs =>
      cases x with
      | bl i =>
        obtain ⟨ms, e1, rfl⟩ := Option.map_eq_some_iff.mp (show (blsD xs).map (i :: ·) = some _ from e)
        obtain ⟨rfl, _⟩ := rep_bl h
        rw [reps_bls hs e1]
        rfl
      | _ => cases e
theorem one_arg {h : List D → R D} {Z : Addr → Prop} {σ : L2.St} {H : Hp} {ds : List D} {vs : List V} {fp : List Addr} {P : D → Prop} (r : Reps g Z H ds vs fp) (o : Out g W Z σ H (h ds) P) (h0 : h [] = .bad) (h2 : ∀ x y r, h (x :: y :: r) = .bad) :
    ∃ x v, ds = [x] ∧ vs = [v] ∧ Rep g Z H x v fp ∧ Out g W Z σ H (h [x]) P := by
  cases ds with
  | nil => rw [h0] at o; exact o.elim
  | cons x r' =>
    cases r' with
    | nil =>
      obtain ⟨v, rfl, rx⟩ := reps1 r
      exact ⟨x, v, rfl, rfl, rx, o⟩
    | cons y r' => rw [h2] at o; exact o.elim
theorem opc_tuple (G : Gof g X) : OpC g W true (fun xs H Q => ∃ p ys, xs = [.ref p] ∧ ((SqL X.K H p ys ∧ ∀ l, H l = none → Q (.ref l) (upd H l (.tup ys))) ∨ (SqT X.K H p ys ∧ Q (.ref p) H))) (biD .tuple) := by
  intro Z σ H ds vs fp Q hz r o
  obtain ⟨x, v, rfl, rfl, rx, o⟩ := one_arg r o rfl (fun x _ _ => by cases x <;> rfl)
  cases x with
  | lst o' xs =>
    obtain ⟨hc, o⟩ := Out.guard (show Out g W Z σ H (if cleanL xs = true then R.ok (D.tup xs) else .bad) _ from o)
    obtain ⟨a, ys, fs, rfl, hq, rs, _⟩ := rep_lst' rx
    exact ⟨a, ys, rfl, .inl ⟨by rw [G.K]; exact hq, fun p hp => o _ _ Z [] (post_new hz hp (.tup (.of upd_same) ((rs.to0 hc).same (fun _ z => z) (same_upd hp))) (.inl rfl))⟩⟩
  | tup xs =>
    obtain ⟨hc, o⟩ := Out.guard (show Out g W Z σ H (if cleanL xs = true then R.ok (D.tup xs) else .bad) _ from o)
    obtain ⟨a, ys, rfl, hq, rs⟩ := rep_tup rx
    exact ⟨a, ys, rfl, .inr ⟨by rw [G.K]; exact hq, o _ H Z [] (post_sc hz (.tup hq (rs.to0 hc)))⟩⟩
  | _ => exact o.elim
theorem opc_list (G : Gof g X) : OpC g W true (fun xs H Q => ∃ p ys, xs = [.ref p] ∧ (SqL X.K H p ys ∨ SqT X.K H p ys) ∧ ∀ l, H l = none → Q (.ref l) (upd H l (.lst ys))) (biD .list) := by
  intro Z σ H ds vs fp Q hz r o
  obtain ⟨x, v, rfl, rfl, rx, o⟩ := one_arg r o rfl (fun x _ _ => by cases x <;> rfl)
  cases x with
  | lst o' xs =>
    obtain ⟨hc, o⟩ := Out.guard (show Out g W Z σ H (if cleanL xs = true then R.ok (D.lst true xs) else .bad) _ from o)
    obtain ⟨a, ys, fs, rfl, hq, rs, _⟩ := rep_lst' rx
    exact ⟨a, ys, rfl, .inl (by rw [G.K]; exact hq), fun p hp => o _ _ Z [p] (post_new hz hp (.lst upd_same ((rs.to0 hc).same (fun _ z => z) (same_upd hp)) own_new) (.inr rfl))⟩
  | tup xs =>
    obtain ⟨hc, o⟩ := Out.guard (show Out g W Z σ H (if cleanL xs = true then R.ok (D.lst true xs) else .bad) _ from o)
    obtain ⟨a, ys, rfl, hq, rs⟩ := rep_tup rx
    exact ⟨a, ys, rfl, .inr (by rw [G.K]; exact hq), fun p hp => o _ _ Z [p] (post_new hz hp (.lst upd_same ((rs.to0 hc).same (fun _ z => z) (same_upd hp)) own_new) (.inr rfl))⟩
  | _ => exact o.elim
def rIntD : List V → Hp → VK → Prop := fun xs H Q => ((∃ i, xs = [.int i] ∧ Q (.int i) H) ∨ ∃ k, xs = [.bl k] ∧ Q (.int (if k = true then 1 else 0)) H) ∨ ∃ a n, xs = [.str a] ∧ PySem.intText? a = some n ∧ a.length ≤ 640 ∧ Q (.int n) H
theorem cr_intD : CallR X (.type "int") rIntD := call_int1.or call_int_str
theorem opc_int : OpC g W true rIntD (biD .int) := by
  intro Z σ H ds vs fp Q hz r o
  obtain ⟨x, v, rfl, rfl, rx, o⟩ := one_arg r o rfl (fun x _ _ => by cases x <;> rfl)
  cases x with
  | int i =>
    obtain ⟨rfl, _⟩ := rep_int rx
    exact .inl (.inl ⟨i, rfl, o _ H Z [] (post_sc hz (.int _))⟩)
  | bl i =>
    obtain ⟨rfl, _⟩ := rep_bl rx
    exact .inl (.inr ⟨i, rfl, o _ H Z [] (post_sc hz (.int _))⟩)
  | str z =>
    obtain ⟨rfl, _⟩ := rep_str rx
    have o : Out g W Z σ H (match PySem.intText? z with | some n => if z.length ≤ 640 then R.ok (D.int n) else .bad | none => .bad) _ := o
    cases e : PySem.intText? z with
    | none => rw [e] at o; exact o.elim
    | some n =>
      rw [e] at o
      obtain ⟨hc, o⟩ := Out.guard o
      exact .inr ⟨z, n, rfl, e, hc, o _ H Z [] (post_sc hz (.int _))⟩
  | _ => exact o.elim
theorem opc_all (G : Gof g X) : OpC g W true (rAll X.K) (biD .all) := by
  intro Z σ H ds vs fp Q hz r o
  obtain ⟨x, v, rfl, rfl, rx, o⟩ := one_arg r o rfl (fun x _ _ => by cases x <;> rfl)
  cases x with
  | lst o' xs =>
    have o : Out g W Z σ H (match blsD xs with | some ns => R.ok (D.bl (ns.all id)) | none => .bad) _ := o
    cases e : blsD xs with
    | none => rw [e] at o; exact o.elim
    | some ns =>
      rw [e] at o
      obtain ⟨a, ys, fs, rfl, hq, rs, _⟩ := rep_lst' rx
      have e2 := reps_bls rs e
      subst e2
      exact ⟨a, ns, rfl, by rw [G.K]; exact hq, o _ H Z [] (post_sc hz (.bl _))⟩
  | _ => exact o.elim
def Ty.nm : Ty → String
  | .str => "str" | .int => "int" | .bool => "bool" | .tuple => "tuple" | .list => "list"
def rIsiD (K : PySem.W.Frag) (t : Ty) : List V → Hp → VK → Prop := fun xs H Q => rIsi K (xs ++ [.ty t.nm]) H Q
theorem ty_of (G : Gof g X) {Z : Addr → Prop} {H : Hp} {x : D} {v : V} {f : List Addr} {t : Ty} {b : Bool} (r : Rep g Z H x v f) (e : isTy t x = .ok b) : ∃ n, TyX X.K H v (.type n) ∧ kitB n t.nm = some b := by
  cases r with
  | non => exact ⟨_, .base .non, by cases t <;> cases e <;> decide +kernel⟩
  | bl y => exact ⟨_, .base (.bl y), by cases t <;> cases e <;> decide +kernel⟩
  | int y => exact ⟨_, .base (.int y), by cases t <;> cases e <;> decide +kernel⟩
  | str y => exact ⟨_, .base (.str y), by cases t <;> cases e <;> decide +kernel⟩
  | tup h hs =>
    refine ⟨"tuple", ?_, by cases t <;> cases e <;> decide +kernel⟩
    rcases h with (h | ⟨o, h⟩) | ⟨o, its, n, hk, hc, _⟩
    · exact .base (.tup h)
    · exact .fTuple h
    · exact .kTuple (by rw [G.K]; exact hk) hc
  | lst h hs w => exact ⟨"list", .base (.lst h), by cases t <;> cases e <;> decide +kernel⟩
  | lstR h hs =>
    rcases h with ⟨ob, h⟩ | ⟨o, its, n, hk, hc, _⟩
    · exact ⟨"list", .base (.frz h), by cases t <;> cases e <;> decide +kernel⟩
    · exact ⟨"list", .kList (by rw [G.K]; exact hk) hc, by cases t <;> cases e <;> decide +kernel⟩
  | dK h e2 hs w => cases t <;> cases e
  | dN h e2 ne hk hs w => cases t <;> cases e
  | exc0 _ => cases t <;> cases e
  | excD _ _ _ _ _ => cases t <;> cases e
  | ins _ _ _ _ _ => cases t <;> cases e
  | box _ _ _ _ _ => cases t <;> cases e
  | opq _ _ _ _ _ => cases t <;> cases e
theorem opc_isi (G : Gof g X) {t : Ty} : OpC g W true (rIsiD X.K t) (biD (.isi t)) := by
  intro Z σ H ds vs fp Q hz r o
  obtain ⟨x, v, rfl, rfl, rx, o⟩ := one_arg r o rfl (fun x _ _ => rfl)
  have o : Out g W Z σ H (blR (isTy t x)) _ := o
  obtain ⟨b, h, q⟩ := Out.bl hz (fun c fs h => by cases t <;> cases x <;> cases h) o
  obtain ⟨n, ty, k⟩ := ty_of G rx h
  exact ⟨v, .ty t.nm, .type n, .type t.nm, b, rfl, .ty _, ty, kit_ty k, q⟩
end
end DI
namespace DI
open PySem PySem.Spec PyProof.Rows L2
section
variable {X : Cx} {g : Gv} {W : L2.WX} {fa fb fc : Sl → R D} {ba bb bc : Bool}
def TyAt (X : Cx) (T : String) (x : V) (H : Hp) : Prop := ∀ (pins : List (Addr × Obj)) (σ : L2.St) (s : Shared) (v : Value), Inv X pins σ H s → RelV x v → s.TypeIs v T ∧ ∀ a, v = .ref a → ∃ ob, s.heap.get? a = some ob ∧ ob.dict = none
def tBMG (X : Cx) (T : String) (r : V → List V → Hp → VK → Prop) (to : TE) (t : TA) : TE := fun σ H Q => to σ H fun x H1 => TyAt X T x H1 ∧ t σ H1 fun xs H2 => r x xs H2 Q
theorem pe_bmG {T : String} {id : String} {name : Str} {o e : Expr} {es : List Expr} {apos cpos : Pos} {r : V → List V → Hp → VK → Prop} {to : TE} {t : TA} (pa : PlainAttrs T) (slot : Slot T name id) (hty : typeOf (.builtin id) = pure (.type "method_descriptor")) (hm : MtR X id r) (ho : PE X o to) (ha : PA X (e :: es) t)
    (hbase : attributeBase o name X.env (eval o X.env) = eval o X.env)
    (hfew : ((backTo cpos (starEach (e :: es) X.env)).all (fun x => !x.1) && (backToKw cpos (keywordEach [] X.env)).all (fun x => x.1.isSome)
      && decide ((e :: es).length + ([] : List Keyword).length + (if ([] : List Keyword).isEmpty then 0 else 1) < 30)) = true)
    (hline : (apos.endLine == cpos.line) = true) (hs : starEach (e :: es) X.env = (false, eval e X.env) :: starEach es X.env) (hplain : (backTo cpos (starEach es X.env)).any (·.1) = false) :
    PE X (.Call (.Attribute o name apos) (e :: es) [] cpos) (tBMG X T r to t) := by
  refine ⟨fun pins s σ H Q I h => ?_⟩
  refine wpAny_Call_method_late hbase hfew hline rfl (thn (ho.run pins s σ H _ I h) fun v s1 ⟨x, H1, I1, r1, ty, q1⟩ => ?_)
  obtain ⟨h1, h2⟩ := ty pins σ s1 v I1 r1
  refine ⟨T, id, pa, slot, hty, h1, h2, ?_⟩
  have hA := ha.run cpos pins s1 σ H1 _ I1 q1
  rw [hs] at hA ⊢
  refine Calls.callWith_builtin (by show (false || (backTo cpos (starEach es X.env)).any (·.1)) = false; rw [hplain] <;> rfl) (Calls.evalArgs_plain ?_)
  exact thn hA fun us s2 ⟨vs, H2, I2, r2, q2⟩ => hm pins s2 σ H2 x vs v us Q I2 r1 r2 q2
def rMtD (g : Gv) (m : Mt) (bo : Bool) : V → List V → Hp → VK → Prop := fun x xs H Q => ∃ Z d ds fx fp e, (∀ a, Z a → H a ≠ none) ∧ Rep g Z H d x fx ∧ Reps g Z H ds xs fp ∧ mtD m d ds = .ok e ∧ ∀ v H' Z' fp, PostE g bo Z Z' H H' e v fp → Q v H'
theorem mtD_err {m : Mt} {x : D} {ds : List D} : ∀ c fs, mtD m x ds ≠ .err c fs := fun c fs h => by
  unfold mtD at h
  split at h
  · split at h
    · split at h <;> cases h
    · cases h
  · split at h <;> cases h
  · cases h
  · split at h <;> cases h
  · rename_i xs x
    cases e : idxL x xs with
    | ok k => rw [e] at h; cases h
    | err c fs =>
      unfold idxL at e
      split at e
      · split at e
        · rename_i ds' _ _ _
          cases e2 : ds'.findIdx? _ with
          | none => rw [e2] at e; cases e
          | some k => rw [e2] at e; cases e
        · cases e
      · cases e
    | bad => rw [e] at h; cases h
  · rename_i kvs k
    cases e : keyIn k kvs with
    | ok q => rw [e] at h; cases h
    | err c fs => exact keyIn_err c fs e
    | bad => rw [e] at h; cases h
  · rename_i kvs k x
    cases e : keyIn k kvs with
    | ok q =>
      rw [e] at h
      have h : (if DI.clean x = true then R.ok ((dget kvs q).getD x) else .bad) = R.err c fs := h
      split at h <;> cases h
    | err c fs => exact keyIn_err c fs e
    | bad => rw [e] at h; cases h
  · cases h
theorem tBMG_of {T : String} {m : Mt} {bo : Bool} (hT : ∀ (Z : Addr → Prop) (H : Hp) (d : D) (v : V) (f : List Addr), recvOk m d = true → Rep g Z H d v f → TyAt X T v H) {σ : L2.St} {H : Hp} {Q : VK}
    (q : tI g W bo (fun σ => (fa σ).bind fun x => if recvOk m x = true then (fb σ).bind fun r => (tupOf r).bind fun ds => mtD m x ds else .bad) σ H Q) : tBMG X T (rMtD g m bo) (tI g W ba fa) (tIA g W bb fb) σ H Q := by
  obtain ⟨H0, Z, fps, σl, sr, q⟩ := q
  refine ⟨H0, Z, fps, σl, sr, q.bind.imp fun x h v1 H1 Z1 fp1 p1 => ?_⟩
  obtain ⟨hc, h⟩ := Out.guard h
  refine ⟨hT Z1 H1 x v1 fp1 hc p1.rep, H0, Z1, fps, σl, sr.step p1.same p1.zx, h.bind.step p1.same p1.zx fun r o => ?_⟩
  cases r with
  | tup ds =>
    refine ⟨ds, rfl, fun vs H2 Z2 fp2 p2 => ?_⟩
    have o : Out g W Z σ H (mtD m x ds) _ := o
    obtain ⟨e, he, o⟩ := o.okOf mtD_err
    have s2 := same_trans p1.same p2.same
    have z2 := p1.zx.trans p1.same p2.zx
    exact ⟨Z2, x, ds, fp1, fp2, e, p2.zx.inn, p1.rep.same p2.zx.le p2.same, p2.rep, he, fun v H' Z' fp p => o v H' Z' fp (p.pre s2 z2)⟩
  | _ => exact o.elim
theorem se_mt {T : String} {id : String} {name : Str} {o e : Expr} {es : List Expr} {apos cpos : Pos} {m : Mt} {bo : Bool} (pa : PlainAttrs T) (slot : Slot T name id) (hty : typeOf (.builtin id) = pure (.type "method_descriptor")) (hm : MtR X id (rMtD g m bo))
    (hT : ∀ (Z : Addr → Prop) (H : Hp) (d : D) (v : V) (f : List Addr), recvOk m d = true → Rep g Z H d v f → TyAt X T v H) (ho : PE X o (tI g W ba fa)) (ha : PA X (e :: es) (tIA g W bb fb))
    (hbase : attributeBase o name X.env (eval o X.env) = eval o X.env)
    (hfew : ((backTo cpos (starEach (e :: es) X.env)).all (fun x => !x.1) && (backToKw cpos (keywordEach [] X.env)).all (fun x => x.1.isSome)
      && decide ((e :: es).length + ([] : List Keyword).length + (if ([] : List Keyword).isEmpty then 0 else 1) < 30)) = true)
    (hline : (apos.endLine == cpos.line) = true) (hs : starEach (e :: es) X.env = (false, eval e X.env) :: starEach es X.env) (hplain : (backTo cpos (starEach es X.env)).any (·.1) = false) :
    PE X (.Call (.Attribute o name apos) (e :: es) [] cpos) (tI g W bo fun σ => (fa σ).bind fun x => if recvOk m x = true then (fb σ).bind fun r => (tupOf r).bind fun ds => mtD m x ds else .bad) :=
  (pe_bmG pa slot hty hm ho ha hbase hfew hline hs hplain).imp fun _ _ _ q => tBMG_of hT q
theorem tyAt_str {x : Str} {H : Hp} : TyAt X "str" (.str x) H := fun pins σ s v I r => by
  obtain ⟨t, rfl⟩ := r
  exact ⟨typeIs_str s x t, fun _ e => nomatch e⟩
theorem mtr_strIndex : MtR X "str.index" (rMtD g .strIndex true) := by
  intro pins s σ H x xs v us Q I rx rs h
  obtain ⟨Z, d, ds, fx, fp, e, hz, rd, rds, he, q⟩ := h
  unfold mtD at he
  split at he <;> first | contradiction | skip
  rename_i a b hm
  obtain ⟨rfl, _⟩ := rep_str rd
  obtain ⟨w', rfl, rw'⟩ := reps1 rds
  obtain ⟨rfl, _⟩ := rep_str rw'
  obtain ⟨t, rfl⟩ := rx
  cases rs with
  | cons r1 rs =>
    cases rs
    obtain ⟨u, rfl⟩ := r1
    split at he
    · cases he
    · rename_i k rest q'
      cases he
      exact PySem.SC.index q' ⟨.int (k : Nat), H, I.tok _, ⟨_, rfl⟩, q _ H Z [] (post_sc hz (.int _))⟩
end
end DI
namespace PySem
open Sem (wp)
set_option maxHeartbeats 1000000 in
theorem di_enumerate_new1 {v : Value} {o : Obj} {H : Heap → Prop} (B : Begins v o H) :
    Meets (Builtin.«enumerate.__new__» ⟨[.type "enumerate", v], []⟩) (fun _ R s => H s.heap ∧
      R (.ok (.ret (.ref (s.heap.push o).objs.size))) { s with heap := (s.heap.push o).push { cls := .type "enumerate", data := .fields #[.none, .bool false, .ref s.heap.objs.size, rawInt 0, .none, .none] } }) :=
  .of_wp fun prog w A R s h => by
    obtain ⟨hp, g, d, tk, os⟩ := s; obtain ⟨h1, h⟩ := h
    have hsub := sub_enumerate
    have q1 : ∀ {A' : Around} {E : Value → Shared → Prop} {Q : Value → Shared → Prop}, Q (.ref hp.objs.size) ⟨hp.push o, g, d, tk, os⟩ → wpAny (model prog w) A' (pyIter v) Q E ⟨hp, g, d, tk, os⟩ :=
      fun q => B.iter prog w _ _ ⟨hp, g, d, tk, os⟩ _ h1 q
    wp_walk using q1
    refine wpAny_stack_any fun st => wpAny_pure ?_
    split
    · rename_i c _ _ _ _ _
      cases (c == Value.type "enumerate")
      · wp_walk using q1
        exact ⟨_, rfl, h⟩
      · wp_walk using q1
        exact ⟨_, rfl, h⟩
    · wp_walk using q1
      exact ⟨_, rfl, h⟩
end PySem
namespace DI
open PySem PySem.Spec PyProof.Rows L2
theorem enum1_begins {prog : Program} {w : World} {A : Around} {E : Value → Shared → Prop} {s : Shared} {v : Value} {o : Obj} {H : Heap → Prop} {Q : Value → Shared → Prop} (B : Begins v o H) (h1 : H s.heap)
    (h : ∀ h', IsEnum h' (s.heap.objs.size + 1) s.heap.objs.size 0 .none → h'.get? s.heap.objs.size = some o → h'.objs.size = s.heap.objs.size + 2 →
      (∀ b o, s.heap.get? b = some o → h'.get? b = some o) → Q (.ref (s.heap.objs.size + 1)) { s with heap := h' }) :
    wpAny (model prog w) A (call (.type "enumerate") [v]) Q E s := by
  refine callType_new F.called_enumerate (by decide) (F.typeCall_enumerate_1 _) (F.newCall_enumerate_1 _) (fun obj => F.args_object_init_2 obj _) F.entry_enumerate_new
    (di_enumerate_new1 B) ⟨h1, ?_⟩
  have hz : (s.heap.push o).objs.size = s.heap.objs.size + 1 := Heap.size_push ..
  show _ ∧ _
  rw [hz]
  have he : IsEnum ((s.heap.push o).push { cls := .type "enumerate", data := .fields #[.none, .bool false, .ref s.heap.objs.size, rawInt 0, .none, .none] }) (s.heap.objs.size + 1) s.heap.objs.size 0 .none := by
    have := Heap.get?_push_size (s.heap.push o) (o := { cls := .type "enumerate", data := .fields #[.none, .bool false, .ref s.heap.objs.size, rawInt 0, .none, .none] }) rfl
    rw [hz] at this; exact this
  refine ⟨⟨_, he, rfl⟩, h _ he (Heap.get?_push_of_some _ (Heap.get?_push_size _ B.free)) (by rw [Heap.size_push, hz]) fun b o x => Heap.get?_push_of_some _ (Heap.get?_push_of_some _ x)⟩
inductive SK where
  | l (a : Addr) | t (a : Addr) | s (z : Str)
def SK.val : SK → V
  | .l a => .ref a | .t a => .ref a | .s z => .str z
def chV (z : Str) : List V := z.cps.toList.map fun c => V.str ⟨#[c]⟩
def SK.at (K : PySem.W.Frag) (H : Hp) : SK → List V → Prop
  | .l a, xs => SqL K H a xs
  | .t a, xs => SqT K H a xs
  | .s z, xs => xs = chV z
def SK.it (it : Addr) (i : Nat) (h : Heap) : SK → Prop
  | .l a => h.IsListIter it a i ∧ a ≠ it
  | .t a => h.IsTupleIter it a i ∧ a ≠ it
  | .s z => ∃ t, h.IsStrIter it (strIterType z) z t i
theorem SK.it_obj {it : Addr} {i : Nat} {h : Heap} : ∀ {k : SK}, k.it it i h → ∃ o, h.get? it = some o ∧ ∀ v, o.data ≠ .cell v
  | .l _, ⟨⟨o, ho, hc, hd⟩, _⟩ => ⟨o, ho, fun v q => by rw [hd] at q; cases q⟩
  | .t _, ⟨⟨o, ho, hc, hd⟩, _⟩ => ⟨o, ho, fun v q => by rw [hd] at q; cases q⟩
  | .s _, ⟨tk', o, ho, hc, hd⟩ => ⟨o, ho, fun v q => by rw [hd] at q; cases q⟩
theorem SK.it_keep {it : Addr} {i : Nat} {h h' : Heap} (hk : ∀ o, h.get? it = some o → h'.get? it = some o) : ∀ {k : SK}, k.it it i h → k.it it i h'
  | .l _, ⟨st, ne⟩ => ⟨st.at hk, ne⟩
  | .t _, ⟨st, ne⟩ => ⟨st.at hk, ne⟩
  | .s _, ⟨tk', o, ho, r⟩ => ⟨tk', o, hk o ho, r⟩
theorem SK.draws {X : Cx} {pins : List (Addr × Obj)} {σ : L2.St} {H : Hp} {s : Shared} {A : Around} (I : Inv X pins σ H s) (hh : A.handled = none) {it : Addr} {i : Nat} : ∀ {k : SK} {xs : List V}, k.at X.K H xs → k.it it i s.heap →
    ∃ (fp : List Addr) (P : Nat → Value → Prop) (St : Nat → Heap → Prop), Draws X.prog X.w A it fp xs.length P St ∧ St i s.heap ∧ (∀ j u, P j u → ∃ v, xs[j]? = some v ∧ RelV v u) ∧ (∀ j h', St j h' → k.it it j h') ∧ (∀ e, s.heap.get? e ≠ none → e ≠ it → (∀ a, k.val = .ref a → a ≠ e) → e ∉ fp) ∧ it ∈ fp
  | .l a, xs, hq, ⟨st, ne⟩ => by
    obtain ⟨its, rv, p, hz⟩ := I.list hq
    refine ⟨[it, a], fun j v => its.toArray[j]? = some v, fun j h => h.IsListIter it a j ∧ h.IsList a its.toArray, ?_, ⟨st, p.isList⟩, fun j u hj => ?_, fun j h' st' => ⟨st'.1, ne⟩, fun e _ h1 h2 hm => ?_, by simp⟩
    · have := Draws.list (prog := X.prog) (w := X.w) hh it a ne its.toArray
      rw [List.size_toArray, ← rv.length] at this
      exact this
    · have hj' : its[j]? = some u := by simpa using hj
      cases e : xs[j]? with
      | none => rw [rv.none_of e] at hj'; cases hj'
      | some v =>
        obtain ⟨u', e1, r⟩ := rv.get e
        rw [hj'] at e1; cases e1
        exact ⟨v, rfl, r⟩
    · rcases List.mem_cons.mp hm with z | z
      · exact h1 z
      · exact h2 a rfl (List.mem_singleton.mp z).symm
  | .t a, xs, hq, ⟨st, ne⟩ => by
    obtain ⟨its, rv, p, hz⟩ := I.tuple hq
    have p' : s.heap.IsTuple a its.toArray := p
    refine ⟨[it, a], fun j v => its.toArray[j]? = some v, fun j h => h.IsTupleIter it a j ∧ h.IsTuple a its.toArray, ?_, ⟨st, p'⟩, fun j u hj => ?_, fun j h' st' => ⟨st'.1, ne⟩, fun e _ h1 h2 hm => ?_, by simp⟩
    · have := Draws.tuple (prog := X.prog) (w := X.w) hh it a ne its.toArray
      rw [List.size_toArray, ← rv.length] at this
      exact this
    · have hj' : its[j]? = some u := by simpa using hj
      cases e : xs[j]? with
      | none => rw [rv.none_of e] at hj'; cases hj'
      | some v =>
        obtain ⟨u', e1, r⟩ := rv.get e
        rw [hj'] at e1; cases e1
        exact ⟨v, rfl, r⟩
    · rcases List.mem_cons.mp hm with z | z
      · exact h1 z
      · exact h2 a rfl (List.mem_singleton.mp z).symm
  | .s z, xs, hq, ⟨tk', st⟩ => by
    have hq : xs = chV z := hq
    subst hq
    refine ⟨[it], fun j u => ∃ c t, z.cps[j]? = some c ∧ u = .str ⟨#[c]⟩ t, fun j h => h.IsStrIter it (strIterType z) z tk' j, ?_, st, fun j u hj => ?_, fun j h' st' => ⟨tk', st'⟩, fun e _ h1 h2 hm => h1 (List.mem_singleton.mp hm), by simp⟩
    · have := Draws.text (prog := X.prog) (w := X.w) hh it z tk'
      rw [show (chV z).length = z.cps.size by unfold chV; simp]
      exact this
    · obtain ⟨c, u', e1, rfl⟩ := hj
      refine ⟨.str ⟨#[c]⟩, ?_, ⟨u', rfl⟩⟩
      unfold chV
      rw [List.getElem?_map, Array.getElem?_toList, e1]
      rfl
theorem SK.inj {X : Cx} {pins : List (Addr × Obj)} {σ : L2.St} {H : Hp} {s : Shared} (I : Inv X pins σ H s) : ∀ {k : SK} {xs ys : List V}, k.at X.K H xs → k.at X.K H ys → xs = ys
  | .l _, _, _, h, h' => I.list_inj h h'
  | .t _, _, _, h, h' => I.tuple_inj h h'
  | .s _, _, _, h, h' => Eq.trans h (Eq.symm h')
def IteK (K : PySem.W.Frag) (k : SK) : It :=
  ⟨fun i H => ∃ (xs : List V) (x : V), k.at K H xs ∧ xs[i]? = some x, fun i H v H' => ∃ T x, v = .ref T ∧ H T = none ∧ H' = upd H T (.tup [.int (i : Nat), x]) ∧ ∀ xs, k.at K H xs → xs[i]? = some x, fun i H => ∃ xs : List V, k.at K H xs ∧ xs.length = i⟩
theorem turn_enumK {P : Program} {w : World} {K : PySem.W.Frag} {elts : List Expr} {kk : Nat} {tpos : Pos} (k : SK) (e it : Addr) :
    Turn P w K (.Tuple elts kk tpos) (IteK K k) [e, it] e (fun i h => (∃ old, IsEnum h e it ((i : Nat) : Int) old) ∧ k.it it i h ∧ e ≠ it ∧ ∀ a, k.val = .ref a → a ≠ e) where
  mem := by simp
  obj := fun i h st b hb => by
    obtain ⟨⟨old, he⟩, hit, _⟩ := st
    have e' : b = e ∨ b = it := by simpa using hb
    rcases e' with z | z
    · rw [z]; exact ⟨_, he, fun v q => nomatch q⟩
    · rw [z]; exact SK.it_obj hit
  keep := fun i h h' st hk => let ⟨⟨old, he⟩, hi, hne⟩ := st; ⟨⟨old, hk e (by simp) _ he⟩, SK.it_keep (fun o q => hk it (by simp) o q) hi, hne⟩
  item := by
    intro X hP hw hK hc i pins s σ H E I hf st hg
    subst hP hw hK
    obtain ⟨⟨old, he⟩, hit, hne, hka⟩ := st
    obtain ⟨xs, x, hq, hx⟩ := hg
    have hel : e < s.heap.objs.size := Heap.lt_size he
    have hil : it < s.heap.objs.size := by obtain ⟨o, q, _⟩ := SK.it_obj hit; exact Heap.lt_size q
    obtain ⟨fp, Pp, St, D, st0, hP, hS, hn, hm⟩ := SK.draws (A := X.A.in1) I (show X.A.handled = none from I.ok.hd hc) hq hit
    have hlt : i < xs.length := (List.getElem?_eq_some_iff.mp hx).1
    have hef : e ∉ fp := hn e (by rw [he]; exact Option.some_ne_none _) hne hka
    refine wpAny_pyNext_enum_itemC D he st0 hlt hne hef fun u h' tk hPu ho hit' hT hsz hk => ?_
    obtain ⟨v0, e0, ru⟩ := hP i u hPu
    rw [hx] at e0; cases e0
    refine ⟨_, rfl, wpAny_letOwnedTupleGo_enum (s := { s with heap := h', toks := tk + 1 }) ho fun h'' he' sb => ?_⟩
    have hT2 : h''.get? s.heap.objs.size = some { cls := .type "tuple", data := .seq #[.int i tk, u] } := (sb.2 _ (Nat.ne_of_gt hel)).trans hT
    have new : ObjOk X.prog X.w (upd H s.heap.objs.size (.tup [.int (i : Nat), x])) h'' s.heap.objs.size (.tup [.int (i : Nat), x]) :=
      ⟨by show 2 ≤ sizeLine; decide, [.int i tk, u], .cons ⟨_, rfl⟩ (.cons ru .nil), ⟨_, hT2, rfl, _, rfl⟩⟩
    have I1 : Inv X pins σ (upd H s.heap.objs.size (.tup [.int (i : Nat), x])) { s with heap := h'', toks := tk + 1 } :=
      I.turnedNew (ch := [e, it]) (fun b ob hb q => (sb.2 b (fun z => hb (by simp [z]))).trans (hk b ob (fun z => hb (by simp [z])) (fun z => hb (by simp [z])) q)) hf (Nat.le_refl _) new
    refine ⟨.ref s.heap.objs.size, _, I1, rfl, ⟨_, x, rfl, I.hok.fresh (Nat.le_refl _), rfl, fun ys hy => by rw [SK.inj I hy hq]; exact hx⟩, ⟨⟨u, ?_⟩, SK.it_keep (fun o q => (sb.2 it (Ne.symm hne)).trans q) (hS _ _ hit'), hne, hka⟩, fun b hb => ?_⟩
    · have e1 : ((i + 1 : Nat) : Int) = (i : Int) + 1 := by omega
      rw [e1]; exact he'
    · have hb' : b < s.heap.objs.size := by
        have e' : b = e ∨ b = it := by simpa using hb
        rcases e' with z | z
        · rw [z]; exact hel
        · rw [z]; exact hil
      rw [upd_ne (Nat.ne_of_lt hb')]
      exact (hf b hb).1
  done := by
    intro X hP hw hK hc i pins s σ H E I hf st hg
    subst hP hw hK
    obtain ⟨⟨old, he⟩, hit, hne, hka⟩ := st
    obtain ⟨xs, hq, hx⟩ := hg
    obtain ⟨f0, f1, f2, f3, f4, f5⟩ := hf it (by simp)
    obtain ⟨fp, Pp, St, D, st0, hP, hS, hn, hm⟩ := SK.draws (A := X.A.in1) I (show X.A.handled = none from I.ok.hd hc) hq hit
    rw [hx] at D
    exact wpAny_pyNext_enum_endD D he st0 fun h' eb => ⟨rfl, I.turned (t' := s.toks) (fun b o hb q => eb b o hb q) f0 f1 f3 f4 f5⟩
  self := fun A i s Q E st h => let ⟨⟨_, he⟩, _⟩ := st; wpAny_pyIter_enum he h
theorem SK.lt {X : Cx} {pins : List (Addr × Obj)} {σ : L2.St} {H : Hp} {s : Shared} (I : Inv X pins σ H s) : ∀ {k : SK} {xs : List V}, k.at X.K H xs → ∀ a, k.val = .ref a → a < s.heap.objs.size
  | .l a, xs, hq, b, e => by
    cases e
    obtain ⟨its, rv, p, hz⟩ := I.list hq
    exact p.lt
  | .t a, xs, hq, b, e => by
    cases e
    obtain ⟨its, rv, p, hz⟩ := I.tuple hq
    obtain ⟨o, ho, _⟩ := id p
    exact Heap.lt_size ho
  | .s z, xs, hq, b, e => nomatch e
theorem SK.begins {X : Cx} {pins : List (Addr × Obj)} {σ : L2.St} {H : Hp} {s : Shared} (I : Inv X pins σ H s) {u : Value} : ∀ {k : SK} {xs : List V}, k.at X.K H xs → RelV k.val u →
    ∃ (o : Obj) (Hc : Heap → Prop), Begins u o Hc ∧ Hc s.heap ∧ ∀ (h' : Heap) (it : Addr), s.heap.objs.size ≤ it → h'.get? it = some o → k.it it 0 h'
  | .l a, xs, hq, r => by
    cases r
    have hlt := SK.lt I hq a rfl
    obtain ⟨its, rv, p, hz⟩ := I.list hq
    exact ⟨_, _, begins_list a its.toArray, p.isList, fun h' it hge e => ⟨⟨_, e, rfl, rfl⟩, Nat.ne_of_lt (Nat.lt_of_lt_of_le hlt hge)⟩⟩
  | .t a, xs, hq, r => by
    cases r
    have hlt := SK.lt I hq a rfl
    obtain ⟨its, rv, p, hz⟩ := I.tuple hq
    exact ⟨_, _, begins_tuple a its.toArray, p, fun h' it hge e => ⟨⟨_, e, rfl, rfl⟩, Nat.ne_of_lt (Nat.lt_of_lt_of_le hlt hge)⟩⟩
  | .s z, xs, hq, r => by
    obtain ⟨t, rfl⟩ := r
    exact ⟨_, _, begins_text z t, trivial, fun h' it hge e => ⟨t, _, e, rfl, rfl⟩⟩
def iEnumK (K : PySem.W.Frag) (ta : TA) : TI := fun σ H R => ta σ H fun vs H1 => ∃ (k : SK) (xs : List V), vs = [k.val] ∧ k.at K H1 xs ∧ R (IteK K k) H1
theorem pi_enumK {X : Cx} {e : Expr} {ta : TA} {p pos tpos : Pos} {elts : List Expr} {kk : Nat} (hg : Gl X "enumerate") (hm : X.mg "enumerate" = none) (ha : PA X [e] ta) (hs : starEach [e] X.env = [(false, eval e X.env)]) :
    PI X (.Tuple elts kk tpos) (.Call (.Name "enumerate" p) [e] [] pos) (iEnumK X.K ta) := by
  refine ⟨fun pins s σ H R I h => ?_⟩
  refine Call_ (ld_blt I hg hm boot_enumerate (PyProof.Rows.callWith_type1 (thn (ha.run pos pins s σ H _ I h) fun us s1 ⟨vs, H1, I1, r1, q1⟩ => ?_) hs rfl))
  obtain ⟨k, xs, ex, hq, q⟩ := q1
  subst ex
  cases r1 with
  | cons r rr =>
    cases rr
    obtain ⟨o, Hc, B, hc, hi⟩ := SK.begins I1 hq r
    have hlt := SK.lt I1 hq
    refine enum1_begins B hc fun h' he hit hsz hk => wpAny_pyIter_enum he ?_
    have I2 : Inv X pins σ H1 { s1 with heap := h' } := I1.kept (t' := s1.toks) hk
    refine ⟨s1.heap.objs.size + 1, [s1.heap.objs.size + 1, s1.heap.objs.size], _, _, H1, rfl, I2, turn_enumK k (s1.heap.objs.size + 1) s1.heap.objs.size, ⟨⟨.none, he⟩, hi h' _ (Nat.le_refl _) hit, Nat.succ_ne_self _, fun a ea => Nat.ne_of_lt (Nat.lt_succ_of_lt (hlt a ea))⟩, fun b hb => ?_, q⟩
    have e' : b = s1.heap.objs.size + 1 ∨ b = s1.heap.objs.size := by simpa using hb
    have hle : s1.heap.objs.size ≤ b := by
      rcases e' with z | z
      · rw [z]; exact Nat.le_add_right _ _
      · rw [z]; exact Nat.le_refl _
    exact I1.fpOk hle (I1.hok.fresh hle)
def ItK (K : PySem.W.Frag) : SK → It
  | .l a => Itl K a
  | .t a => Itt K a
  | .s z => Its z
def iSeq (K : PySem.W.Frag) (te : TE) : TI := fun σ H R => te σ H fun x H1 => ∃ (k : SK) (xs : List V), x = k.val ∧ k.at K H1 xs ∧ R (ItK K k) H1
theorem pi_seq {X : Cx} {tg e : Expr} {te : TE} (he : PE X e te) : PI X tg e (iSeq X.K te) := by
  refine ⟨fun pins s σ H R I h => ?_⟩
  refine thn (he.run pins s σ H _ I h) fun v s1 ⟨y, H1, I1, r1, k, xs, ex, hq, q⟩ => ?_
  subst ex
  cases k with
  | l a =>
    cases r1
    obtain ⟨its, rv, p, hz⟩ := I1.list hq
    refine wpAny_pyIter_list p.isList ?_
    refine ⟨s1.heap.objs.size, [s1.heap.objs.size], _, _, H1, rfl, I1.kept (t' := s1.toks) fun b o e => Heap.get?_push_of_some _ e, turn_list a _, ⟨_, Heap.get?_push_size _ rfl, rfl, rfl⟩, fun b hb => ?_, q⟩
    have e : b = s1.heap.objs.size := by simpa using hb
    subst e
    exact I1.fpOk (Nat.le_refl _) (I1.hok.fresh (Nat.le_refl _))
  | t a =>
    cases r1
    obtain ⟨its, rv, p, hz⟩ := I1.tuple hq
    refine wpAny_pyIter_tuple (show s1.heap.IsTuple a its.toArray from p) ?_
    refine ⟨s1.heap.objs.size, [s1.heap.objs.size], _, _, H1, rfl, I1.kept (t' := s1.toks) fun b o e => Heap.get?_push_of_some _ e, turn_tuple a _, ⟨_, Heap.get?_push_size _ rfl, rfl, rfl⟩, fun b hb => ?_, q⟩
    have e : b = s1.heap.objs.size := by simpa using hb
    subst e
    exact I1.fpOk (Nat.le_refl _) (I1.hok.fresh (Nat.le_refl _))
  | s x =>
    obtain ⟨t, rfl⟩ := r1
    cases ha : x.cps.all (· < 128)
    · exact wpAny_pyIter_wide ha (pi_one (tk := s1.toks) I1 _ (turn_str _ x t "str_iterator" (.inr rfl)) ⟨_, Heap.get?_push_size _ rfl, rfl, rfl⟩ q)
    · exact wpAny_pyIter_ascii ha (pi_one (tk := s1.toks) I1 _ (turn_str _ x t "str_ascii_iterator" (.inl rfl)) ⟨_, Heap.get?_push_size _ rfl, rfl, rfl⟩ q)
end DI
namespace DI
open PySem PySem.Spec PyProof.Rows L2
structure Wk (g : Gv) (Z : Addr → Prop) (fp : List Addr) (H : Hp) (J : It) (xs : List D) : Prop where
  go : ∀ H' i, Kp Z fp H H' → i < xs.length → J.go i H'
  stop : ∀ H', Kp Z fp H H' → J.stop xs.length H'
  yld : ∀ H' H'' i v x, Kp Z fp H H' → xs[i]? = some x → J.yld i H' v H'' → Same H' H'' ∧ Rep g Z H'' x v []
section
variable {X : Cx} {g : Gv} {W : L2.WX} {Z : Addr → Prop} {H : Hp} {fp : List Addr}
theorem reps_chars (z : List Nat) : Reps g Z H (z.map oneOf) (z.map fun c => V.str ⟨#[c]⟩) [] := by
  induction z with
  | nil => exact .nil
  | cons c r ih => exact .cons (f := []) (fs := []) (.str _) ih
theorem src_lst {o : Bool} {ys : List D} {v : V} {xs : List D} (r : Rep g Z H (.lst o ys) v fp) (e : itemsD (.lst o ys) = .ok xs) : ∃ a vs, v = .ref a ∧ (∀ H', Kp Z fp H H' → SqL g.K H' a vs) ∧ Reps g Z H xs vs [] := by
  have e : (if cleanL ys = true then R.ok ys else .bad) = .ok xs := e
  by_cases hc : cleanL ys = true
  · rw [if_pos hc] at e
    cases e
    cases r with
    | @lst a vs _ _ fs _ h hs w => exact ⟨a, vs, rfl, fun H' k => .inl (.inl (w.at k h nt_lst)), hs.to0 hc⟩
    | @lstR a vs _ h hs => exact ⟨a, vs, rfl, fun H' k => (sqF_keep k.frz h).sqL, hs⟩
  · rw [if_neg hc] at e; cases e
theorem src_tup {ys : List D} {v : V} {xs : List D} (r : Rep g Z H (.tup ys) v fp) (e : itemsD (.tup ys) = .ok xs) : ∃ a vs, v = .ref a ∧ (∀ H', Kp Z fp H H' → SqT g.K H' a vs) ∧ Reps g Z H xs vs [] := by
  have e : (if cleanL ys = true then R.ok ys else .bad) = .ok xs := e
  by_cases hc : cleanL ys = true
  · rw [if_pos hc] at e
    cases e
    obtain ⟨a, vs, rfl, h, hs⟩ := rep_tup r
    exact ⟨a, vs, rfl, fun H' k => sqT_keep k.tup h, hs.to0 hc⟩
  · rw [if_neg hc] at e; cases e
theorem src_of {d : D} {v : V} {xs : List D} (r : Rep g Z H d v fp) (e : itemsD d = .ok xs) : ∃ (k : SK) (vs : List V), v = k.val ∧ (∀ H', Kp Z fp H H' → k.at g.K H' vs) ∧ Reps g Z H xs vs [] := by
  cases d with
  | lst o ys =>
    obtain ⟨a, vs, rfl, h, hs⟩ := src_lst r e
    exact ⟨.l a, vs, rfl, h, hs⟩
  | tup ys =>
    obtain ⟨a, vs, rfl, h, hs⟩ := src_tup r e
    exact ⟨.t a, vs, rfl, h, hs⟩
  | str z =>
    have e : R.ok (z.cps.toList.map oneOf) = .ok xs := e
    cases e
    obtain ⟨rfl, _⟩ := rep_str r
    exact ⟨.s z, chV z, rfl, fun H' k => rfl, reps_chars _⟩
  | _ => cases e
theorem wk_seq {k : SK} {xs : List D} {vs : List V} (hk : ∀ H', Kp Z fp H H' → k.at g.K H' vs) (rs : Reps g Z H xs vs []) : Wk g Z fp H (ItK g.K k) xs := by
  have hl := rs.length
  refine ⟨fun H' i kp hi => ?_, fun H' kp => ?_, fun H' H'' i v x kp hx y => ?_⟩
  · obtain ⟨v, f, e, _⟩ := rs.get i xs[i] (List.getElem?_eq_getElem hi)
    have hat := hk H' kp
    cases k with
    | l a => exact ⟨vs, v, hat, e⟩
    | t a => exact ⟨vs, v, hat, e⟩
    | s z =>
      have hat : vs = chV z := hat
      subst hat
      have : (chV z).length = z.cps.size := by unfold chV; simp
      show i < z.cps.size
      omega
  · have hat := hk H' kp
    cases k with
    | l a => exact ⟨vs, hat, by omega⟩
    | t a => exact ⟨vs, hat, by omega⟩
    | s z =>
      have hat : vs = chV z := hat
      subst hat
      have : (chV z).length = z.cps.size := by unfold chV; simp
      show z.cps.size ≤ xs.length
      omega
  · have hat := hk H' kp
    obtain ⟨u, f, e, r, hf, _⟩ := rs.get i x hx
    have ef : f = [] := List.eq_nil_iff_forall_not_mem.mpr fun a ha => nomatch hf a ha
    subst ef
    have r2 := r.keep (fun _ z => z) kp.out
    cases k with
    | l a =>
      obtain ⟨rfl, q⟩ := y
      have e2 := q vs hat
      rw [e] at e2
      cases e2
      exact ⟨same_refl _, r2⟩
    | t a =>
      obtain ⟨rfl, q⟩ := y
      have e2 := q vs hat
      rw [e] at e2
      cases e2
      exact ⟨same_refl _, r2⟩
    | s z =>
      have hat : vs = chV z := hat
      subst hat
      obtain ⟨rfl, c, q, rfl⟩ := y
      unfold chV at e
      rw [List.getElem?_map, Array.getElem?_toList, q] at e
      cases e
      exact ⟨same_refl _, r2⟩
theorem enumL_length : ∀ (k : Nat) (xs : List D), (enumL k xs).length = xs.length
  | _, [] => rfl
  | k, x :: xs => by rw [enumL, List.length_cons, List.length_cons, enumL_length]
theorem enumL_get : ∀ (k : Nat) (xs : List D) (i : Nat), (enumL k xs)[i]? = xs[i]?.map fun x => .tup [.int ((k + i : Nat) : Int), x]
  | _, [], _ => rfl
  | k, x :: xs, 0 => rfl
  | k, x :: xs, i + 1 => by
    rw [enumL, List.getElem?_cons_succ, List.getElem?_cons_succ, enumL_get (k + 1) xs i, show k + 1 + i = k + (i + 1) by omega]
theorem wk_enum {k : SK} {xs : List D} {vs : List V} (hk : ∀ H', Kp Z fp H H' → k.at g.K H' vs) (rs : Reps g Z H xs vs []) : Wk g Z fp H (IteK g.K k) (enumL 0 xs) := by
  have hl := rs.length
  refine ⟨fun H' i kp hi => ?_, fun H' kp => ?_, fun H' H'' i v x kp hx y => ?_⟩
  · rw [enumL_length] at hi
    obtain ⟨v, f, e, _⟩ := rs.get i xs[i] (List.getElem?_eq_getElem hi)
    exact ⟨vs, v, hk H' kp, e⟩
  · exact ⟨vs, hk H' kp, by rw [enumL_length]; exact hl.symm⟩
  · rw [enumL_get, Nat.zero_add] at hx
    cases hx0 : xs[i]? with
    | none => rw [hx0] at hx; cases hx
    | some x0 =>
      rw [hx0] at hx
      cases hx
      obtain ⟨u, f, e, r, hf, _⟩ := rs.get i x0 hx0
      have ef : f = [] := List.eq_nil_iff_forall_not_mem.mpr fun a ha => nomatch hf a ha
      subst ef
      have r2 := r.keep (fun _ z => z) kp.out
      obtain ⟨T, y, rfl, nT, rfl, q⟩ := y
      have e2 := q vs (hk H' kp)
      rw [e] at e2
      cases e2
      have s := same_upd (o := .tup [.int (i : Nat), u]) nT
      refine ⟨s, .tup (.inl (.inl upd_same)) ?_⟩
      exact .cons (f := []) (fs := []) (.int _) (.cons (f := []) (fs := []) (r2.same (fun _ z => z) s) .nil)
theorem rngL_get (lo : Int) (n i : Nat) : (rngL lo n)[i]? = if i < n then some (.int (lo + (i : Int))) else none := by
  unfold rngL
  rw [List.getElem?_map]
  by_cases h : i < n
  · rw [List.getElem?_range h, if_pos h]; rfl
  · rw [List.getElem?_eq_none (by simp; omega), if_neg h]; rfl
theorem rngL_length (lo : Int) (n : Nat) : (rngL lo n).length = n := by unfold rngL; simp
theorem wk_rng (lo : Int) (n : Nat) : Wk g Z fp H (Itr lo n) (rngL lo n) := by
  refine ⟨fun H' i kp hi => ?_, fun H' kp => ?_, fun H' H'' i v x kp hx y => ?_⟩
  · rw [rngL_length] at hi; exact hi
  · rw [rngL_length]; exact Nat.le_refl n
  · obtain ⟨rfl, rfl⟩ := y
    rw [rngL_get] at hx
    by_cases h : i < n
    · rw [if_pos h] at hx; cases hx
      exact ⟨same_refl _, .int _⟩
    · rw [if_neg h] at hx; cases hx
def tIW (g : Gv) (W : L2.WX) (b : Bool) (f : Sl → R (List D)) : TI := fun σ H R => ∃ H0 Z fps σl, SR g H0 Z fps σl σ H ∧ Out g W Z σ H (f σl) fun xs => ∀ J H' Z' fp, Same H H' → Zx Z Z' H H' → Wk g Z' fp H' J xs → (∀ a ∈ fp, H' a ≠ none) → (b = true → ∀ a ∈ fp, H a = none ∧ ¬ Z' a) → R J H'
variable {e e2 tg : Expr} {f : Sl → R D} {b : Bool} {p pos tpos : Pos} {elts : List Expr} {kk : Nat}
theorem items_noerr (d : D) : ∀ c fs, itemsD d ≠ .err c fs := fun c fs e => by
  cases d with
  | lst o ys =>
    have e : (if cleanL ys = true then R.ok ys else .bad) = .err c fs := e
    by_cases hc : cleanL ys = true
    · rw [if_pos hc] at e; cases e
    · rw [if_neg hc] at e; cases e
  | tup ys =>
    have e : (if cleanL ys = true then R.ok ys else .bad) = .err c fs := e
    by_cases hc : cleanL ys = true
    · rw [if_pos hc] at e; cases e
    · rw [if_neg hc] at e; cases e
  | _ => cases e
theorem si_seq (G : Gof g X) (he : PE X e (tI g W b f)) : PI X tg e (tIW g W b fun σ => (f σ).bind itemsD) := (pi_seq he).imp fun σ H Q q => by
  obtain ⟨H0, Z, fps, σl, sr, o⟩ := q
  refine ⟨H0, Z, fps, σl, sr, o.bind.imp fun d h v H' Z' fp p => ?_⟩
  cases hi : itemsD d with
  | ok xs =>
    rw [hi] at h
    obtain ⟨k, vs, rfl, hk, rs⟩ := src_of p.rep hi
    rw [G.K]
    exact ⟨k, vs, rfl, hk H' (.of_same (same_refl H')), h _ H' Z' fp p.same p.zx (wk_seq hk rs) (Rep.there p.rep) fun e => (p.own e).2⟩
  | err c fs => exact absurd hi (items_noerr d c fs)
  | bad => rw [hi] at h; exact h.elim
def enumD : List D → R (List D)
  | [x] => (itemsD x).bind fun xs => .ok (enumL 0 xs)
  | _ => .bad
theorem si_enum (G : Gof g X) (hg : Gl X "enumerate") (hm : X.mg "enumerate" = none) (ha : PA X [e] (tIA g W b f)) (hs : starEach [e] X.env = [(false, eval e X.env)]) :
    PI X (.Tuple elts kk tpos) (.Call (.Name "enumerate" p) [e] [] pos) (tIW g W b fun σ => (f σ).bind fun r => (tupOf r).bind enumD) := (pi_enumK hg hm ha hs).imp fun σ H Q q => by
  obtain ⟨H0, Z, fps, σl, sr, o⟩ := q
  refine ⟨H0, Z, fps, σl, sr, o.bind.imp fun r h => ?_⟩
  cases r with
  | tup ds =>
    have h : Out g W Z σ H (enumD ds) _ := h
    refine ⟨ds, rfl, fun vs H' Z' fp p => ?_⟩
    cases ds with
    | nil => exact h.elim
    | cons x r' =>
      cases r' with
      | cons y r' => exact h.elim
      | nil =>
        have h : Out g W Z σ H ((itemsD x).bind fun xs => .ok (enumL 0 xs)) _ := h
        obtain ⟨xs, hi, h⟩ := h.bind.okOf (items_noerr x)
        obtain ⟨v, rfl, rx⟩ := reps1 p.rep
        obtain ⟨k, vs, rfl, hk, rs⟩ := src_of rx hi
        rw [G.K]
        exact ⟨k, vs, rfl, hk H' (.of_same (same_refl H')), h _ H' Z' fp p.same p.zx (wk_enum hk rs) (Reps.there p.rep) fun e => (p.own e).2⟩
  | _ => exact h.elim
noncomputable def rng1D : List D → R (List D)
  | [.int i] => if small62 i = true then .ok (rngL 0 i.toNat) else .bad
  | _ => .bad
noncomputable def rng2D : List D → R (List D)
  | [.int i, .int j] => if (small62 i && small62 j) = true then .ok (rngL i (j - i).toNat) else .bad
  | _ => .bad
theorem small62_iff {i : Int} (h : small62 i = true) : -(2 ^ 62) ≤ i ∧ i < 2 ^ 62 := by
  unfold small62 at h
  simp only [Bool.and_eq_true, decide_eq_true_eq, lim62_eq] at h
  exact h
theorem rng1_inv {σ : L2.St} {ds : List D} {P : List D → Prop} (h : Out g W Z σ H (rng1D ds) P) : ∃ i, ds = [.int i] ∧ small62 i = true ∧ P (rngL 0 i.toNat) := by
  unfold rng1D at h
  split at h
  · obtain ⟨hs, h⟩ := Out.guard h
    exact ⟨_, rfl, hs, h⟩
  · exact h.elim
theorem si_rng1 (hg : Gl X "range") (hm : X.mg "range" = none) (ha : PA X [e] (tIA g W b f)) (hs : starEach [e] X.env = [(false, eval e X.env)]) :
    PI X tg (.Call (.Name "range" p) [e] [] pos) (tIW g W true fun σ => (f σ).bind fun r => (tupOf r).bind rng1D) := (pi_range1 hg hm ha hs).imp fun σ H Q q => by
  obtain ⟨H0, Z, fps, σl, sr, o⟩ := q
  refine ⟨H0, Z, fps, σl, sr, o.bind.imp fun r h => ?_⟩
  cases r with
  | tup ds =>
    have h : Out g W Z σ H (rng1D ds) _ := h
    refine ⟨ds, rfl, fun vs H' Z' fp p => ?_⟩
    obtain ⟨i, rfl, hs, h⟩ := rng1_inv h
    obtain ⟨v, rfl, rx⟩ := reps1 p.rep
    obtain ⟨rfl, _⟩ := rep_int rx
    obtain ⟨h1, h2⟩ := small62_iff hs
    exact ⟨i, rfl, h1, h2, h _ H' Z' [] p.same p.zx (wk_rng 0 _) (fun a m => nomatch m) fun _ a m => nomatch m⟩
  | _ => exact h.elim
def zipD : List D → R (List D)
  | [.lst o xs, .lst o' ys] => (itemsD (.lst o xs)).bind fun xs => (itemsD (.lst o' ys)).bind fun ys => .ok (zipL xs ys)
  | [.tup xs, .tup ys] => (itemsD (.tup xs)).bind fun xs => (itemsD (.tup ys)).bind fun ys => .ok (zipL xs ys)
  | _ => .bad
end
end DI
namespace DI
open PySem PySem.Spec PyProof.Rows L2
theorem mem_set0 : ∀ {fps : List (List Addr)} {i : Nat} {a : Addr}, a ∈ (fps.set i []).flatten → a ∈ fps.flatten
  | [], _, _, h => h
  | f :: fs, 0, a, h => by
    rw [List.set_cons_zero, List.flatten_cons, List.nil_append] at h
    rw [List.flatten_cons]; exact List.mem_append_right _ h
  | f :: fs, i + 1, a, h => by
    rw [List.set_cons_succ, List.flatten_cons] at h
    rw [List.flatten_cons]
    rcases List.mem_append.mp h with h | h
    · exact List.mem_append_left _ h
    · exact List.mem_append_right _ (mem_set0 h)
theorem mem_set1 : ∀ {fps : List (List Addr)} {i : Nat} {fp : List Addr} {a : Addr}, a ∈ (fps.set i fp).flatten → a ∈ fp ∨ a ∈ (fps.set i []).flatten
  | [], _, _, _, h => nomatch h
  | f :: fs, 0, fp, a, h => by
    rw [List.set_cons_zero, List.flatten_cons] at h
    rw [List.set_cons_zero, List.flatten_cons, List.nil_append]
    exact List.mem_append.mp h
  | f :: fs, i + 1, fp, a, h => by
    rw [List.set_cons_succ, List.flatten_cons] at h
    rw [List.set_cons_succ, List.flatten_cons]
    rcases List.mem_append.mp h with h | h
    · exact .inr (List.mem_append_left _ h)
    · rcases mem_set1 h with h | h
      · exact .inl h
      · exact .inr (List.mem_append_right _ h)
theorem nd_set0 : ∀ {fps : List (List Addr)} {i : Nat}, fps.flatten.Nodup → (fps.set i []).flatten.Nodup
  | [], _, h => h
  | f :: fs, 0, h => by
    rw [List.flatten_cons] at h
    rw [List.set_cons_zero, List.flatten_cons, List.nil_append]
    exact (List.nodup_append.mp h).2.1
  | f :: fs, i + 1, h => by
    rw [List.flatten_cons] at h
    obtain ⟨h1, h2, h3⟩ := List.nodup_append.mp h
    rw [List.set_cons_succ, List.flatten_cons]
    exact List.nodup_append.mpr ⟨h1, nd_set0 h2, fun a ha b hb => h3 a ha b (mem_set0 hb)⟩
theorem nd_set1 : ∀ {fps : List (List Addr)} {i : Nat} {fp : List Addr}, (fps.set i []).flatten.Nodup → fp.Nodup → (∀ a ∈ fp, a ∉ (fps.set i []).flatten) → (fps.set i fp).flatten.Nodup
  | [], _, _, h, _, _ => h
  | f :: fs, 0, fp, h, hf, hd => by
    rw [List.set_cons_zero, List.flatten_cons, List.nil_append] at h hd
    rw [List.set_cons_zero, List.flatten_cons]
    exact List.nodup_append.mpr ⟨hf, h, fun a ha b hb e => hd a ha (by rw [e]; exact hb)⟩
  | f :: fs, i + 1, fp, h, hf, hd => by
    rw [List.set_cons_succ, List.flatten_cons] at h hd
    obtain ⟨h1, h2, h3⟩ := List.nodup_append.mp h
    rw [List.set_cons_succ, List.flatten_cons]
    refine List.nodup_append.mpr ⟨h1, nd_set1 h2 hf fun a ha q => hd a ha (List.mem_append_right _ q), fun a ha b hb e => ?_⟩
    rcases mem_set1 hb with q | q
    · exact hd b q (List.mem_append_left _ (by rw [← e]; exact ha))
    · exact h3 a ha b q e
theorem mem_at : ∀ {fps : List (List Addr)} {i : Nat} {fp : List Addr}, fps[i]? = some fp → ∀ a ∈ fp, a ∈ fps.flatten
  | [], _, _, e, _, _ => by simp at e
  | f :: fs, 0, fp, e, a, h => by
    simp at e; subst e
    rw [List.flatten_cons]; exact List.mem_append_left _ h
  | f :: fs, i + 1, fp, e, a, h => by
    rw [List.flatten_cons]; exact List.mem_append_right _ (mem_at (by simpa using e) a h)
theorem nd_at : ∀ {fps : List (List Addr)} {i : Nat} {fp : List Addr}, fps.flatten.Nodup → fps[i]? = some fp → fp.Nodup
  | [], _, _, _, e => by simp at e
  | f :: fs, 0, fp, h, e => by
    simp at e; subst e
    rw [List.flatten_cons] at h; exact (List.nodup_append.mp h).1
  | f :: fs, i + 1, fp, h, e => by
    rw [List.flatten_cons] at h; exact nd_at (List.nodup_append.mp h).2.1 (by simpa using e)
theorem mem_apart : ∀ {fps : List (List Addr)} {i : Nat} {fp : List Addr}, fps.flatten.Nodup → fps[i]? = some fp → ∀ a ∈ fp, a ∉ (fps.set i []).flatten
  | [], _, _, _, e, _, _ => by simp at e
  | f :: fs, 0, fp, h, e, a, ha => by
    simp at e; subst e
    rw [List.flatten_cons] at h
    rw [List.set_cons_zero, List.flatten_cons, List.nil_append]
    exact fun q => (List.nodup_append.mp h).2.2 a ha a q rfl
  | f :: fs, i + 1, fp, h, e, a, ha => by
    rw [List.flatten_cons] at h
    obtain ⟨h1, h2, h3⟩ := List.nodup_append.mp h
    have e' : fs[i]? = some fp := by simpa using e
    rw [List.set_cons_succ, List.flatten_cons]
    intro q
    rcases List.mem_append.mp q with q | q
    · exact h3 a q a (mem_at e' a ha) rfl
    · exact mem_apart h2 e' a ha q
theorem mem_other : ∀ {fps : List (List Addr)} {i j : Nat} {fp : List Addr}, fps[j]? = some fp → j ≠ i → ∀ a ∈ fp, a ∈ (fps.set i []).flatten := fun {fps i j fp} e ne a ha =>
  mem_at (i := j) (by rw [List.getElem?_set_ne (Ne.symm ne)]; exact e) a ha
def Owd (P : Program) (w : World) (a : Addr) (u : Option HO) : Prop := (∃ xs, u = some (.lst xs)) ∨ (∃ kv, u = some (.dK kv)) ∨ ∃ od xs, u = some (rawN P w a od xs)
section
variable {g : Gv} {W : L2.WX} {Z0 Z Z1 Z' : Addr → Prop} {H0 H H1 H' : Hp} {fps : List (List Addr)} {σl : Sl} {σ : L2.St}
mutual
theorem Rep.owd : ∀ {d : D} {v : V} {fp : List Addr}, Rep g Z H d v fp → ∀ a ∈ fp, Owd g.P g.w a (H a)
  | _, _, _, .non, _, h => nomatch h
  | _, _, _, .bl b, _, h => nomatch h
  | _, _, _, .int i, _, h => nomatch h
  | _, _, _, .str x, _, h => nomatch h
  | _, _, _, .tup _ hs, a, h => Reps.owd hs a h
  | _, _, _, .lst e hs w, a, h => by
    rcases w with ⟨_, q⟩ | ⟨_, _, q, _⟩
    · rw [q] at h
      rcases List.mem_cons.mp h with rfl | h
      · exact .inl ⟨_, e⟩
      · exact Reps.owd hs a h
    · rw [q] at h; cases h
  | _, _, _, .lstR h hs, _, h' => nomatch h'
  | _, _, _, .dK e _ hs w, a, h => by
    rcases w with ⟨_, q⟩ | ⟨_, _, q, _⟩
    · rw [q] at h
      rw [List.mem_singleton.mp h]; exact .inr (.inl ⟨_, e⟩)
    · rw [q] at h; cases h
  | _, _, _, .dN e _ _ _ hs w, a, h => by
    rcases w with ⟨_, q⟩ | ⟨_, _, q, _⟩
    · rw [q] at h
      rw [List.mem_singleton.mp h]; exact .inr (.inr ⟨_, _, e⟩)
    · rw [q] at h; cases h
  | _, _, _, .exc0 _, _, h' => nomatch h'
  | _, _, _, .excD _ _ _ _ _, _, h' => nomatch h'
  | _, _, _, .ins _ _ _ _ _, _, h' => nomatch h'
  | _, _, _, .box _ _ _ _ _, _, h' => nomatch h'
  | _, _, _, .opq _ _ _ _ _, _, h' => nomatch h'
theorem Reps.owd : ∀ {d : List D} {v : List V} {fp : List Addr}, Reps g Z H d v fp → ∀ a ∈ fp, Owd g.P g.w a (H a)
  | _, _, _, .nil, _, h => nomatch h
  | _, _, _, .cons r hs, a, h => by
    rcases List.mem_append.mp h with h | h
    · exact Rep.owd r a h
    · exact Reps.owd hs a h
end
def sayNm : Nat → Nat → Str := fun _ _ => ("sayer.<locals>.says_of" : Str)
def TabZ (Z : Addr → Prop) (H : Hp) (P : Addr) (nm : Nat → Nat → Str) : Prop := ∃ ps : Array Value, H P = some (.tbl ps) ∧ TriplesOk ps.toList ∧ ∀ (pos : Pos) (cv : Value), codeAmong pos ps.toList = some cv → ∃ c, cv = .ref c ∧ H c = some (LamX.CodeO c (nm pos.line pos.col)) ∧ Z c
theorem TabZ.same {P : Addr} {nm : Nat → Nat → Str} (h : TabZ Z H P nm) (s : Same H H') (le : ∀ a, Z a → Z' a) : TabZ Z' H' P nm := by
  obtain ⟨ps, h1, h2, h3⟩ := h
  exact ⟨ps, s _ _ h1, h2, fun pos cv hc => by obtain ⟨c, e1, e2, z⟩ := h3 pos cv hc; exact ⟨c, e1, s _ _ e2, le _ z⟩⟩
theorem tab_upd {P : Program} {w : World} {a P0 : Addr} {nm : Nat → Nat → Str} {u : HO} (ho : Owd P w a (H a)) (hz : ¬ Z a) (h : TabZ Z H P0 nm) : TabZ Z (upd H a u) P0 nm := by
  obtain ⟨ps, h1, h2, h3⟩ := h
  have ne1 : P0 ≠ a := fun e => by
    subst e
    rcases ho with ⟨_, q⟩ | ⟨_, q⟩ | ⟨_, _, q⟩ <;> (rw [h1] at q; cases q)
  refine ⟨ps, by rw [upd_ne ne1]; exact h1, h2, fun pos cv hc => ?_⟩
  obtain ⟨c, e1, e2, z⟩ := h3 pos cv hc
  exact ⟨c, e1, by rw [upd_ne (fun e => hz (by rw [← e]; exact z))]; exact e2, z⟩
theorem kp_upd {P : Program} {w : World} {fp : List Addr} {a : Addr} {u : HO} (ho : Owd P w a (H a)) (hz : ¬ Z a) (hf : a ∉ fp) : Kp Z fp H (upd H a u) where
  tup b vs h := by
    have ne : b ≠ a := fun e => by
      subst e
      rcases h with h | ⟨o, h⟩ <;> rcases ho with ⟨_, q⟩ | ⟨_, q⟩ | ⟨_, _, q⟩ <;> (rw [h] at q; cases q)
    rcases h with h | ⟨o, h⟩
    · exact .inl (by rw [upd_ne ne]; exact h)
    · exact .inr ⟨o, by rw [upd_ne ne]; exact h⟩
  frz b ob vs h := by
    have ne : b ≠ a := fun e => by
      subst e
      rcases ho with ⟨_, q⟩ | ⟨_, q⟩ | ⟨_, _, q⟩ <;> (rw [h] at q; cases q)
    rw [upd_ne ne]; exact h
  z b o hb h _ := by
    have ne : b ≠ a := fun e => hz (by rw [← e]; exact hb)
    rw [upd_ne ne]; exact h
  own b o hb h _ := by
    have ne : b ≠ a := fun e => hf (by rw [← e]; exact hb)
    rw [upd_ne ne]; exact h
  xd b fs h := by
    have ne : b ≠ a := fun e => by
      subst e
      rcases ho with ⟨_, q⟩ | ⟨_, q⟩ | ⟨_, _, q⟩ <;> (rw [h] at q; cases q)
    rw [upd_ne ne]; exact h
theorem Kp.trans {fp : List Addr} (le : ∀ a, Z a → Z1 a) (a : Kp Z fp H H1) (b : Kp Z1 fp H1 H') : Kp Z fp H H' :=
  ⟨fun x vs h => b.tup x vs (a.tup x vs h), fun x ob vs h => b.frz x ob vs (a.frz x ob vs h), fun x o hz h n => b.z x o (le x hz) (a.z x o hz h n) n, fun x o m h n => b.own x o m (a.own x o m h n) n, fun x fs h => b.xd x fs (a.xd x fs h)⟩
theorem same_updO {a : Addr} {u : HO} (s : Same H0 H) (h : H0 a = none) : Same H0 (upd H a u) := fun b x e => by
  rw [upd_ne (ne_of_none e h)]; exact s b x e
theorem upd_some {a b : Addr} {u : HO} (h : H b ≠ none) : upd H a u b ≠ none := fun e => by
  by_cases q : b = a
  · rw [q, upd_same] at e; cases e
  · rw [upd_ne q] at e; exact h e
theorem set_self {α : Type} {xs : List α} {i : Nat} {x : α} (e : xs[i]? = some x) : xs.set i x = xs := by
  apply List.ext_getElem?
  intro j
  by_cases h : i = j
  · subst h
    rw [List.getElem?_set_self (List.getElem?_eq_some_iff.mp e).1, e]
  · rw [List.getElem?_set_ne h]
theorem lt_of_get {α : Type} {xs : List α} {i : Nat} {x : α} (e : xs[i]? = some x) : i < xs.length := (List.getElem?_eq_some_iff.mp e).1
theorem owd_nt {P : Program} {w : World} {a : Addr} {o : HO} (h : Owd P w a (H a)) (e : H a = some o) : NT o := fun ps q => by
  subst q
  rcases h with ⟨_, q⟩ | ⟨_, q⟩ | ⟨_, _, q⟩ <;> (rw [e] at q; cases q)
theorem SR.owd (r : SR g H0 Z fps σl σ H) : ∀ a ∈ fps.flatten, Owd g.P g.w a (H a) := fun a ha => by
  obtain ⟨f, hf, hm⟩ := List.mem_flatten.mp ha
  obtain ⟨i, hi, e⟩ := List.mem_iff_getElem.mp hf
  have e1 : fps[i]? = some f := by rw [List.getElem?_eq_getElem hi, e]
  have hl : i < σl.length := by rw [r.len, ← r.lenf]; exact hi
  cases q : σl[i]? with
  | none => rw [List.getElem?_eq_getElem hl] at q; cases q
  | some o =>
    cases o with
    | none =>
      rw [r.gone i q] at e1; cases e1
      cases hm
    | some d =>
      obtain ⟨v, fp, _, e2, rp⟩ := r.slot i d q
      rw [e1] at e2; cases e2
      exact rp.owd a hm
theorem SR.put (r : SR g H0 Z fps σl σ H) {i : Nat} {d : D} {v : V} {fp : List Addr} (sm : Same H0 H') (le : ∀ a, Z a → Z' a) (inn : ∀ a, Z' a → H' a ≠ none) (kp : Kp Z (fps.set i []).flatten H H') (oth : ∀ a ∈ (fps.set i []).flatten, ¬ Z' a)
    (rp : Rep g Z' H' d v fp) (nf : fp.Nodup) (hf : ∀ a ∈ fp, a ∉ (fps.set i []).flatten ∧ ¬ Z' a ∧ H0 a = none) : SR g H0 Z' (fps.set i fp) (σl.set i (some d)) (σ.set i (some v)) H' where
  len := by rw [List.length_set, List.length_set, r.len]
  lenf := by rw [List.length_set, List.length_set, r.lenf]
  slot j d' e := by
    by_cases h : i = j
    · subst h
      have hl : i < σl.length := by have := lt_of_get e; rwa [List.length_set] at this
      rw [List.getElem?_set_self hl] at e
      cases e
      exact ⟨v, fp, List.getElem?_set_self (by rw [← r.len]; exact hl), List.getElem?_set_self (by rw [r.lenf, ← r.len]; exact hl), rp⟩
    · rw [List.getElem?_set_ne h] at e
      obtain ⟨v', fp', e1, e2, rp'⟩ := r.slot j d' e
      exact ⟨v', fp', by rw [List.getElem?_set_ne h]; exact e1, by rw [List.getElem?_set_ne h]; exact e2, rp'.keep le (kp.sub (mem_other e2 (Ne.symm h)))⟩
  gone j e := by
    by_cases h : i = j
    · subst h
      have hl : i < σl.length := by have := lt_of_get e; rwa [List.length_set] at this
      rw [List.getElem?_set_self hl] at e
      cases e
    · rw [List.getElem?_set_ne h] at e ⊢
      exact r.gone j e
  nd := nd_set1 (nd_set0 r.nd) nf fun a ha => (hf a ha).1
  own a ha := by
    rcases mem_set1 ha with q | q
    · exact ⟨(hf a q).2.1, (hf a q).2.2, Rep.there rp a q⟩
    · obtain ⟨_, h2, h3⟩ := r.own a (mem_set0 q)
      refine ⟨oth a q, h2, ?_⟩
      cases e : H a with
      | none => exact absurd e h3
      | some o => rw [kp.own a o q e (owd_nt (r.owd a (mem_set0 q)) e)]; exact Option.some_ne_none _
  z := inn
  same := sm
theorem SR.drop (r : SR g H0 Z fps σl σ H) (i : Nat) (sm : Same H0 H') (le : ∀ a, Z a → Z' a) (inn : ∀ a, Z' a → H' a ≠ none) (kp : Kp Z (fps.set i []).flatten H H') (oth : ∀ a ∈ (fps.set i []).flatten, ¬ Z' a) : SR g H0 Z' (fps.set i []) (σl.set i none) σ H' where
  len := by rw [List.length_set, r.len]
  lenf := by rw [List.length_set, r.lenf]
  slot j d' e := by
    by_cases h : i = j
    · subst h
      have hl : i < σl.length := by have := lt_of_get e; rwa [List.length_set] at this
      rw [List.getElem?_set_self hl] at e
      cases e
    · rw [List.getElem?_set_ne h] at e
      obtain ⟨v', fp', e1, e2, rp'⟩ := r.slot j d' e
      exact ⟨v', fp', e1, by rw [List.getElem?_set_ne h]; exact e2, rp'.keep le (kp.sub (mem_other e2 (Ne.symm h)))⟩
  gone j e := by
    by_cases h : i = j
    · subst h
      have hl : i < σl.length := by have := lt_of_get e; rwa [List.length_set] at this
      exact List.getElem?_set_self (by rw [r.lenf, ← r.len]; exact hl)
    · rw [List.getElem?_set_ne h] at e ⊢
      exact r.gone j e
  nd := nd_set0 r.nd
  own a q := by
    obtain ⟨_, h2, h3⟩ := r.own a (mem_set0 q)
    refine ⟨oth a q, h2, ?_⟩
    cases e : H a with
    | none => exact absurd e h3
    | some o => rw [kp.own a o q e (owd_nt (r.owd a (mem_set0 q)) e)]; exact Option.some_ne_none _
  z := inn
  same := sm
theorem SR.bind (r : SR g H0 Z fps σl σ H) (i : Nat) {d : D} {v : V} {fp : List Addr} (p : PostE g true Z Z' H H' d v fp) : SR g H0 Z' (fps.set i fp) (σl.set i (some d)) (σ.set i (some v)) H' := by
  have r1 := r.step p.same p.zx
  obtain ⟨n, o⟩ := p.own rfl
  refine r1.put r1.same (fun _ z => z) r1.z (.of_same (same_refl _)) (fun a ha => (r1.own a (mem_set0 ha)).1) p.rep n fun a ha => ⟨fun q => ?_, (o a ha).2, same_none r.same (o a ha).1⟩
  exact (r.own a (mem_set0 q)).2.2 (o a ha).1
theorem SR.bind0 (r : SR g H0 Z fps σl σ H) (i : Nat) {d : D} {v : V} (p : Rep g Z H d v []) : SR g H0 Z (fps.set i []) (σl.set i (some d)) (σ.set i (some v)) H :=
  r.put r.same (fun _ z => z) r.z (.of_same (same_refl _)) (fun a ha => (r.own a (mem_set0 ha)).1) p List.nodup_nil fun a ha => nomatch ha
structure Gh (g : Gv) (H0 : Hp) (Z : Addr → Prop) (σ : L2.St) (H : Hp) : Prop where
  pin : ∀ a, g.pin = some a → σ[0]? = some (some (.ref a))
  tab : ∀ p, g.tab = some p → TabZ Z H p.1 sayNm
  t0 : ∀ p, g.tab = some p → ∀ b ps, H0 b ≠ some (.tbl ps)
def Np (g : Gv) (i : Nat) : Prop := g.pin = none ∨ i ≠ 0
theorem Gh.same (h : Gh g H0 Z σ H) (s : Same H H') (le : ∀ a, Z a → Z' a) : Gh g H0 Z' σ H' := ⟨h.pin, fun p e => (h.tab p e).same s le, h.t0⟩
theorem Gh.set {i : Nat} {x : Option V} (h : Gh g H0 Z σ H) (np : Np g i) : Gh g H0 Z (σ.set i x) H := ⟨fun a e => by
  rcases np with n | n
  · rw [n] at e; cases e
  · rw [List.getElem?_set_ne n]; exact h.pin a e, h.tab, h.t0⟩
structure SS (g : Gv) (H0 : Hp) (Z0 Z : Addr → Prop) (fps : List (List Addr)) (σl : Sl) (σ : L2.St) (H : Hp) : Prop where
  sr : SR g H0 Z fps σl σ H
  z0 : ∀ a, Z0 a → Z a
  zn : ∀ a, Z a → Z0 a ∨ H0 a = none
  gh : Gh g H0 Z σ H
theorem SS.step (r : SS g H0 Z0 Z fps σl σ H) (s : Same H H1) (z : Zx Z Z1 H H1) : SS g H0 Z0 Z1 fps σl σ H1 :=
  ⟨r.sr.step s z, fun a h => z.le a (r.z0 a h), fun a h => by
    rcases z.new a h with q | q
    · exact r.zn a q
    · exact .inr (same_none r.sr.same q), r.gh.same s z.le⟩
theorem SS.bind (r : SS g H0 Z0 Z fps σl σ H) (i : Nat) (np : Np g i) {d : D} {v : V} {fp : List Addr} (p : PostE g true Z Z' H H' d v fp) : SS g H0 Z0 Z' (fps.set i fp) (σl.set i (some d)) (σ.set i (some v)) H' :=
  ⟨r.sr.bind i p, (r.step p.same p.zx).z0, (r.step p.same p.zx).zn, (r.gh.same p.same p.zx.le).set np⟩
structure Ev (t : Option (Addr × (Nat → Nat → Str))) (Z Z' : Addr → Prop) (H H' : Hp) : Prop where
  le : ∀ a, Z a → Z' a
  kp : Kp Z [] H H'
  tab : ∀ p, t = some p → TabZ Z H p.1 sayNm → TabZ Z' H' p.1 sayNm
theorem Ev.refl {t : Option (Addr × (Nat → Nat → Str))} : Ev t Z Z H H := ⟨fun _ z => z, .of_same (same_refl H), fun _ _ t => t⟩
theorem Ev.trans {t : Option (Addr × (Nat → Nat → Str))} (a : Ev t Z Z1 H H1) (b : Ev t Z1 Z' H1 H') : Ev t Z Z' H H' := ⟨fun x z => b.le x (a.le x z), a.kp.trans a.le b.kp, fun p e t => b.tab p e (a.tab p e t)⟩
theorem Ev.of_zx {t : Option (Addr × (Nat → Nat → Str))} (s : Same H H') (z : Zx Z Z' H H') : Ev t Z Z' H H' := ⟨z.le, .of_same s, fun _ _ t => t.same s z.le⟩
theorem Ev.upd {t : Option (Addr × (Nat → Nat → Str))} {P : Program} {w : World} {a : Addr} {u : HO} (ho : Owd P w a (H a)) (hz : ¬ Z a) : Ev t Z Z H (upd H a u) := ⟨fun _ z => z, kp_upd ho hz (fun h => nomatch h), fun _ _ t => tab_upd ho hz t⟩
theorem Gh.ev (h : Gh g H0 Z σ H) (e : Ev g.tab Z Z' H H') : Gh g H0 Z' σ H' := ⟨h.pin, fun p q => e.tab p q (h.tab p q), h.t0⟩
inductive RS where
  | nx (σ : Sl) | rt (d : D) | bk (σ : Sl) | ct (σ : Sl) | er (c : Nat) (fs : List D) (σ : Sl) | bad
abbrev SF := Sl → RS
structure PostM (g : Gv) (a : Addr) (Z Z' : Addr → Prop) (H H' : Hp) (d o : D) (v : V) (fp fpo : List Addr) : Prop where
  same : Same H H'
  zx : Zx Z Z' H H'
  rep : Rep g Z' H' d v fp
  repo : Rep g Z' H' o (.ref a) fpo
  nd : (fp ++ fpo).Nodup
  own : ∀ x ∈ fp ++ fpo, H x = none ∧ ¬ Z' x
structure RtOk (g : Gv) (Z0 : Addr → Prop) (H0 : Hp) (rt : VK) (d : D) : Prop where
  n : g.pin = none → ∀ v H' Z' fp, PostE g true Z0 Z' H0 H' d v fp → (∀ p, g.tab = some p → TabZ Z' H' p.1 sayNm) → rt v H'
  m : ∀ a, g.pin = some a → ∃ d1 o, d = .tup [d1, o] ∧ ∀ v H' Z' fp fpo, PostM g a Z0 Z' H0 H' d1 o v fp fpo → rt v H'
theorem RtOk.of (hp : g.pin = none) {rt : VK} {d : D} (h : ∀ v H' Z' fp, PostE g true Z0 Z' H0 H' d v fp → (∀ p, g.tab = some p → TabZ Z' H' p.1 sayNm) → rt v H') : RtOk g Z0 H0 rt d := ⟨fun _ => h, fun a e => by rw [hp] at e; cases e⟩
def OutS (g : Gv) (W : L2.WX) (H0 : Hp) (Z0 Z : Addr → Prop) (H : Hp) (E : Ends) : RS → Prop
  | .nx σl => ∀ σ' H' Z' fps', SS g H0 Z0 Z' fps' σl σ' H' → Ev g.tab Z Z' H H' → E.nx σ' H'
  | .rt d => RtOk g Z0 H0 E.rt d
  | .bk σl => ∀ σ' H' Z' fps', SS g H0 Z0 Z' fps' σl σ' H' → Ev g.tab Z Z' H H' → E.bk σ' H'
  | .ct σl => ∀ σ' H' Z' fps', SS g H0 Z0 Z' fps' σl σ' H' → Ev g.tab Z Z' H H' → E.ct σ' H'
  | .er c fs σl => ∀ σ' H' Z' fps' cls d, SS g H0 Z0 Z' fps' σl σ' H' → Ev g.tab Z Z' H H' → ExR g c fs cls d H' → W cls d σ' H'
  | .bad => False
def tS (g : Gv) (W : L2.WX) (f : SF) : TS := fun E σ H => ∃ H0 Z0 Z fps σl, SS g H0 Z0 Z fps σl σ H ∧ OutS g W H0 Z0 Z H E (f σl)
theorem OutS.pre {E : Ends} {r : RS} (e : Ev g.tab Z Z1 H H1) (o : OutS g W H0 Z0 Z H E r) : OutS g W H0 Z0 Z1 H1 E r := by
  cases r with
  | nx σl => exact fun σ' H' Z' fps' s e' => o σ' H' Z' fps' s (e.trans e')
  | rt d => exact o
  | bk σl => exact fun σ' H' Z' fps' s e' => o σ' H' Z' fps' s (e.trans e')
  | ct σl => exact fun σ' H' Z' fps' s e' => o σ' H' Z' fps' s (e.trans e')
  | er c fs σl => exact fun σ' H' Z' fps' cls d s e' => o σ' H' Z' fps' cls d s (e.trans e')
  | bad => exact o
def rS {α : Type} (r : R α) (σ : Sl) (k : α → RS) : RS :=
  match r with
  | .ok a => k a
  | .err c fs => .er c fs σ
  | .bad => .bad
theorem OutS.rS {α : Type} {E : Ends} {r : R α} {k : α → RS} (ss : SS g H0 Z0 Z fps σl σ H) (o : OutS g W H0 Z0 Z H E (DI.rS r σl k)) : Out g W Z σ H r fun a => OutS g W H0 Z0 Z H E (k a) := by
  cases r with
  | ok a => exact o
  | err c fs => exact fun H' Z' cls d s z e => o σ H' Z' fps cls d (ss.step s z) (.of_zx s z) e
  | bad => exact o
theorem OutS.guard {E : Ends} {c : Prop} [Decidable c] {r : RS} (h : OutS g W H0 Z0 Z H E (if c then r else .bad)) : c ∧ OutS g W H0 Z0 Z H E r := by
  by_cases hc : c
  · rw [if_pos hc] at h; exact ⟨hc, h⟩
  · rw [if_neg hc] at h; exact h.elim
def sSkip : SF := .nx
def RS.andThen (r : RS) (k : SF) : RS :=
  match r with
  | .nx σ' => k σ'
  | r => r
def sSeq (f k : SF) : SF := fun σ => (f σ).andThen k
def sSet (i : Nat) (f : Sl → R D) : SF := fun σ => rS (f σ) σ fun d => .nx (σ.set i (some d))
def cond (d : D) (r s : RS) : RS :=
  match d with
  | .bl b => if b = true then r else s
  | _ => .bad
def sIf (c : Sl → R D) (f k : SF) : SF := fun σ => rS (c σ) σ fun d => cond d (f σ) (k σ)
def sRet (f : Sl → R D) : SF := fun σ => rS (f σ) σ .rt
def sRetV (i : Nat) : SF := fun σ => rS (getS σ i) σ .rt
def sRetN : SF := fun _ => .rt .non
def sBrk : SF := .bk
def sCnt : SF := .ct
def sFz (i : Nat) (k : SF) : SF := fun σ => rS (getS σ i) σ fun d => k (σ.set i (some (frz d)))
def sDrop (f : Sl → R D) : SF := fun σ => rS (f σ) σ fun _ => .nx σ
def sUnp (p : Pat) (f : Sl → R D) : SF := fun σ => rS (f σ) σ fun d => if clean d = true then rS (bindP σ p d) σ .nx else .bad
def lstOf : D → R (List D)
  | .lst true xs => .ok xs
  | _ => .bad
def sApp (i : Nat) (f : Sl → R D) : SF := fun σ => rS ((getS σ i).bind lstOf) σ fun xs => rS (f σ) σ fun y => if xs.length < sizeLine then .nx (σ.set i (some (.lst true (xs ++ [y])))) else .bad
def lp (c : Sl → R D) (f : SF) : Nat → SF
  | 0, _ => .bad
  | n + 1, σ => rS (c σ) σ fun d =>
    match d with
    | .bl b => if b = true then (match f σ with
      | .nx σ' => lp c f n σ'
      | .ct σ' => lp c f n σ'
      | .bk σ' => .nx σ'
      | r => r) else .nx σ
    | _ => .bad
open Classical in
noncomputable def sWhl (c : Sl → R D) (f : SF) : SF := fun σ => if h : ∃ n, lp c f n σ ≠ .bad then lp c f (Classical.choose h) σ else .bad
def fr (p : Pat) (f : SF) : List D → SF
  | [], σ => .nx σ
  | x :: xs, σ => rS (bindP σ p x) σ fun σ1 =>
    match f σ1 with
    | .nx σ' => fr p f xs σ'
    | .ct σ' => fr p f xs σ'
    | .bk σ' => .nx σ'
    | r => r
def sFor (p : Pat) (src : Sl → R (List D)) (f : SF) : SF := fun σ => rS (src σ) σ fun xs => fr p f xs σ
theorem lp_up {c : Sl → R D} {f : SF} : ∀ (n : Nat) (σ : Sl), lp c f n σ ≠ .bad → lp c f (n + 1) σ = lp c f n σ
  | 0, σ, h => absurd rfl h
  | n + 1, σ, h => by
    have go : ∀ σ', lp c f n σ' ≠ .bad → lp c f (n + 1) σ' = lp c f n σ' := fun σ' => lp_up n σ'
    rw [lp] at h ⊢
    conv => rhs; rw [lp]
    cases hc : c σ with
    | err _ _ => rfl
    | bad => rfl
    | ok d =>
      rw [hc] at h
      cases d with
      | bl b =>
        cases b with
        | false => rfl
        | true =>
          simp only [DI.rS, if_pos] at h ⊢
          cases hf : f σ with
          | nx σ' => rw [hf] at h; exact go σ' h
          | ct σ' => rw [hf] at h; exact go σ' h
          | _ => rfl
      | _ => rfl
theorem lp_le {c : Sl → R D} {f : SF} {n m : Nat} {σ : Sl} (h : lp c f n σ ≠ .bad) (hm : n ≤ m) : lp c f m σ = lp c f n σ := by
  induction hm with
  | refl => rfl
  | step hm ih => rw [lp_up _ σ (by rw [ih]; exact h), ih]
theorem whl_eq {c : Sl → R D} {f : SF} {n : Nat} {σ : Sl} {r : RS} (h : lp c f n σ = r) (hr : r ≠ .bad) : sWhl c f σ = r := by
  have hex : ∃ n, lp c f n σ ≠ .bad := ⟨n, by rw [h]; exact hr⟩
  have hc : lp c f (Classical.choose hex) σ ≠ .bad := Classical.choose_spec hex
  unfold sWhl
  rw [dif_pos hex]
  rcases Nat.le_total n (Classical.choose hex) with q | q
  · rw [lp_le (by rw [h]; exact hr) q, h]
  · rw [← lp_le hc q, h]
theorem whl_ex {c : Sl → R D} {f : SF} {σ : Sl} (h : sWhl c f σ ≠ .bad) : ∃ n, lp c f n σ = sWhl c f σ := by
  unfold sWhl at h ⊢
  by_cases hex : ∃ n, lp c f n σ ≠ .bad
  · rw [dif_pos hex]; exact ⟨_, rfl⟩
  · rw [dif_neg hex] at h; exact absurd rfl h
end
section
variable {X : Cx} {g : Gv} {W : L2.WX} {st : Stmt} {sts : List Stmt} {e a : Expr} {fe fc : Sl → R D} {f k : SF} {pos : Pos} {b : Bool} {i : Nat}
theorem ss_nil : PSs X [] (tS g W sSkip) := pss_nil.imp fun E σ H q => by
  obtain ⟨H0, Z0, Z, fps, σl, ss, o⟩ := q
  exact o σ H Z fps ss .refl
theorem ss_cons (h1 : PS X st (tS g W f)) (h2 : PSs X sts (tS g W k)) : PSs X (st :: sts) (tS g W (sSeq f k)) := (pss_cons h1 h2).imp fun E σ H q => by
  obtain ⟨H0, Z0, Z, fps, σl, ss, o⟩ := q
  refine ⟨H0, Z0, Z, fps, σl, ss, ?_⟩
  have o : OutS g W H0 Z0 Z H E ((f σl).andThen k) := o
  cases h : f σl with
  | nx σl1 => rw [h] at o; exact fun σ' H' Z' fps' s e => ⟨H0, Z0, Z', fps', σl1, s, o.pre e⟩
  | rt d => rw [h] at o; exact o
  | bk σl => rw [h] at o; exact o
  | ct σl => rw [h] at o; exact o
  | er c fs σl => rw [h] at o; exact o
  | bad => rw [h] at o; exact o
theorem ss_one (h1 : PS X st (tS g W f)) : PSs X [st] (tS g W f) := pss_one h1
theorem ss_set {x : Str} {pos' : Pos} (hN : X.N.Nodup) (hi : X.N[i]? = some x) (hx : Loc X.env.scope x) (he : PE X e (tI g W true fe)) (hs : swapsWith e (some (.Name x pos')) pos.line X.env = pure false) (hf : X.fn x = true ∨ X.env.scope.names.lookup x = some .local) (np : Np g i) :
    PS X (.Assign [.Name x pos'] e pos) (tS g W (sSet i fe)) := (ps_set hN hi hx he hs hf).imp fun E σ H q => by
  obtain ⟨H0, Z0, Z, fps, σl, ss, o⟩ := q
  refine ⟨H0, Z, fps, σl, ss.sr, (OutS.rS ss o).imp fun d o v H' Z' fp p => ?_⟩
  exact o _ H' Z' _ (ss.bind i np p) (.of_zx p.same p.zx)
theorem ss_if {c : Expr} {p q : List Stmt} (hc : PT X c (tIT g W fc)) (ha : PSs X p (tS g W f)) (hb : PSs X q (tS g W k)) : PS X (.If c p q pos) (tS g W (sIf fc f k)) := (ps_if hc ha hb).imp fun E σ H q => by
  obtain ⟨H0, Z0, Z, fps, σl, ss, o⟩ := q
  refine ⟨H0, Z, fps, σl, ss.sr, (OutS.rS ss o).imp fun d o => ?_⟩
  cases d with
  | bl b =>
    refine ⟨b, rfl, fun H' Z' s z => ?_⟩
    cases b with
    | true => exact ⟨H0, Z0, Z', fps, σl, ss.step s z, OutS.pre (.of_zx s z) o⟩
    | false => exact ⟨H0, Z0, Z', fps, σl, ss.step s z, OutS.pre (.of_zx s z) o⟩
  | _ => exact o.elim
theorem SS.ret {Z0 Z Z' : Addr → Prop} {H0 H H' : Hp} {fps : List (List Addr)} {σl : Sl} {σ : L2.St} {d : D} {v : V} {fp : List Addr} (ss : SS g H0 Z0 Z fps σl σ H) (p : PostE g true Z Z' H H' d v fp) : PostE g true Z0 Z' H0 H' d v fp := by
  refine ⟨same_trans ss.sr.same p.same, ⟨fun a z => p.zx.le a (ss.z0 a z), fun a z => ?_, p.zx.inn⟩, p.rep, fun _ => ⟨(p.own rfl).1, fun a ha => ⟨same_none ss.sr.same ((p.own rfl).2 a ha).1, ((p.own rfl).2 a ha).2⟩⟩⟩
  exact (ss.step p.same p.zx).zn a z
theorem ss_ret (he : PE X e (tI g W true fe)) (hp : g.pin = none) : PS X (.Return (some e) pos) (tS g W (sRet fe)) := (ps_ret he).imp fun E σ H q => by
  obtain ⟨H0, Z0, Z, fps, σl, ss, o⟩ := q
  exact ⟨H0, Z, fps, σl, ss.sr, (OutS.rS ss o).imp fun d o v H' Z' fp p => RtOk.n o hp v H' Z' fp (ss.ret p) (ss.step p.same p.zx).gh.tab⟩
theorem getS_ok {σl : Sl} {d : D} (h : getS σl i = .ok d) : σl[i]? = some (some d) := by
  unfold getS at h
  split at h
  · cases h; assumption
  · cases h
theorem getS_err {σl : Sl} {c : Nat} {fs : List D} : getS σl i ≠ .err c fs := fun h => by
  unfold getS at h
  split at h <;> cases h
theorem ss_retV {x : Str} {p : Pos} (hN : X.N[i]? = some x) (hv : Vis X.env.scope x) (hd : (x == ("__debug__" : Str)) = false) (hcd : (x == ("__classdict__" : Str)) = false) (hp : g.pin = none) : PS X (.Return (some (.Name x p)) pos) (tS g W (sRetV i)) := (ps_ret (pe_var hN hv hd hcd)).imp fun E σ H q => by
  obtain ⟨H0, Z0, Z, fps, σl, ss, o⟩ := q
  obtain ⟨d, e, o⟩ := (OutS.rS ss o).okOf fun c fs => getS_err
  obtain ⟨v, fp, e1, e2, rp⟩ := ss.sr.slot i d (getS_ok e)
  refine ⟨v, e1, RtOk.n o hp v H Z fp ⟨ss.sr.same, ⟨ss.z0, ss.zn, ss.sr.z⟩, rp, fun _ => ⟨nd_at ss.sr.nd e2, fun a ha => ?_⟩⟩ ss.gh.tab⟩
  obtain ⟨h1, h2, _⟩ := ss.sr.own a (mem_at e2 a ha)
  exact ⟨h2, h1⟩
theorem ss_fz (h : PSs X sts (tS g W k)) : PSs X sts (tS g W (sFz i k)) := h.imp fun E σ H q => by
  obtain ⟨H0, Z0, Z, fps, σl, ss, o⟩ := q
  obtain ⟨d, e, o⟩ := (OutS.rS ss o).okOf fun c fs => getS_err
  obtain ⟨v, fp, e1, e2, rp⟩ := ss.sr.slot i d (getS_ok e)
  have own := fun a ha => ss.sr.own a (mem_at e2 a ha)
  have r2 : SR g H0 (fun a => Z a ∨ a ∈ fp) (fps.set i []) (σl.set i (some (frz d))) (σ.set i (some v)) H :=
    ss.sr.put ss.sr.same (fun a z => .inl z) (fun a z => by
      rcases z with z | m
      · exact ss.sr.z a z
      · exact (own a m).2.2) (.of_same (same_refl H)) (fun a ha q => by
      rcases q with z | m
      · exact (ss.sr.own a (mem_set0 ha)).1 z
      · exact mem_apart ss.sr.nd e2 a m ha) (rp.frz (fun a z => .inl z) fun a m => .inr m) List.nodup_nil fun a ha => nomatch ha
  rw [set_self e1] at r2
  refine ⟨H0, Z0, fun a => Z a ∨ a ∈ fp, _, _, ⟨r2, fun a z => .inl (ss.z0 a z), fun a z => ?_, ss.gh.same (same_refl H) fun a z => .inl z⟩, OutS.pre ⟨fun a z => .inl z, .of_same (same_refl H), fun _ _ t => t.same (same_refl H) fun a z => .inl z⟩ o⟩
  rcases z with z | m
  · exact ss.zn a z
  · exact .inr (own a m).2.1
end
end DI
namespace DI
open PySem PySem.Spec PyProof.Rows L2
theorem _root_.L2.PG.imp {X : Cx} {e : Expr} {t t' : TG} (h : PG X e t) (hi : ∀ v σ H Q, t' v σ H Q → t v σ H Q) : PG X e t' := ⟨fun pins s σ H v u Q I r q => h.run pins s σ H v u Q I r (hi _ _ _ _ q)⟩
theorem _root_.L2.PGs.imp {X : Cx} {e : List Expr} {t t' : TGs} (h : PGs X e t) (hi : ∀ v σ H Q, t' v σ H Q → t v σ H Q) : PGs X e t' := ⟨fun pins s σ H v u Q I r q => h.run pins s σ H v u Q I r (hi _ _ _ _ q)⟩
section
variable {X : Cx} {g : Gv} {W : L2.WX} {e a : Expr} {es : List Expr} {fe fc : Sl → R D} {f k : SF} {pos : Pos} {b : Bool} {i : Nat} {is : List Nat}
def psl : Pat → List Nat
  | .one i => [i]
  | .many is => is
  | .two i js => i :: js
theorem wipe_get {σ : L2.St} {j : Nat} : ∀ {vs : List Nat}, (wipe σ vs)[j]? = if j ∈ vs ∧ j < σ.length then some none else σ[j]?
  | [] => by simp [wipe]
  | v :: vs => by
    show ((wipe σ vs).set v none)[j]? = _
    by_cases h : v = j
    · subst h
      by_cases hl : v < σ.length
      · rw [List.getElem?_set_self (by rw [wipe_length]; exact hl), if_pos ⟨List.mem_cons_self, hl⟩]
      · rw [List.getElem?_eq_none (by rw [List.length_set, wipe_length]; omega), if_neg (fun q => hl q.2), List.getElem?_eq_none (by omega)]
    · rw [List.getElem?_set_ne h, wipe_get]
      by_cases hm : j ∈ vs ∧ j < σ.length
      · rw [if_pos hm, if_pos ⟨List.mem_cons_of_mem _ hm.1, hm.2⟩]
      · rw [if_neg hm, if_neg (fun q => hm ⟨by
          rcases List.mem_cons.mp q.1 with e | e
          · exact absurd e.symm h
          · exact e, q.2⟩)]
theorem wipe_set {σ : L2.St} {i : Nat} {x : Option V} {vs : List Nat} (h : i ∈ vs) : wipe (σ.set i x) vs = wipe σ vs := by
  apply List.ext_getElem?
  intro j
  rw [wipe_get, wipe_get, List.length_set]
  by_cases hm : j ∈ vs ∧ j < σ.length
  · rw [if_pos hm, if_pos hm]
  · rw [if_neg hm, if_neg hm]
    by_cases e : i = j
    · subst e
      have hl : ¬ i < σ.length := fun q => hm ⟨h, q⟩
      rw [List.getElem?_eq_none (by rw [List.length_set]; omega), List.getElem?_eq_none (by omega)]
    · rw [List.getElem?_set_ne e]
theorem wipe_wipe {σ : L2.St} {vs : List Nat} : wipe (wipe σ vs) vs = wipe σ vs := by
  apply List.ext_getElem?
  intro j
  rw [wipe_get, wipe_length]
  by_cases hm : j ∈ vs ∧ j < σ.length
  · rw [if_pos hm, wipe_get, if_pos hm]
  · rw [if_neg hm]
def Wa (is : List Nat) (σ σ' : L2.St) : Prop := ∀ vs : List Nat, (∀ j ∈ is, j ∈ vs) → wipe σ' vs = wipe σ vs
def tG (g : Gv) (p : Pat) : TG := fun v σ H Q => ∃ H0 Z fps σl x σl', SR g H0 Z fps σl σ H ∧ Rep g Z H x v [] ∧ bindP σl p x = .ok σl' ∧ ∀ σ' fps', SR g H0 Z fps' σl' σ' H → Wa (psl p) σ σ' → Q σ' H
def tGs (g : Gv) (is : List Nat) : TGs := fun vs σ H Q => ∃ H0 Z fps σl xs σl', SR g H0 Z fps σl σ H ∧ Reps g Z H xs vs [] ∧ putAll σl is xs = .ok σl' ∧ ∀ σ' fps', SR g H0 Z fps' σl' σ' H → Wa is σ σ' → Q σ' H
theorem sg_one {x : Str} (hN : X.N.Nodup) (hi : X.N[i]? = some x) (hx : Loc X.env.scope x) (hf : X.fn x = true ∨ X.env.scope.names.lookup x = some .local) : PG X (.Name x pos) (tG g (.one i)) := (pg_name hN hi hx hf).imp fun v σ H Q q => by
  obtain ⟨H0, Z, fps, σl, x, σl', sr, r, e, q⟩ := q
  cases e
  exact q _ _ (sr.bind0 i r) fun vs h => wipe_set (h i (List.mem_singleton.mpr rfl))
theorem sgs_nil : PGs X [] (tGs g []) := pgs_nil.imp fun v σ H Q q => by
  obtain ⟨H0, Z, fps, σl, xs, σl', sr, r, e, q⟩ := q
  cases xs with
  | nil => cases e; cases r; exact ⟨rfl, q σ fps sr fun vs h => rfl⟩
  | cons x xs => cases e
theorem sgs_cons (h1 : PG X e (tG g (.one i))) (h2 : PGs X es (tGs g is)) (hs : (assignEach (e :: es) X.env).map (·.2) = assign e X.env :: (assignEach es X.env).map (·.2)) : PGs X (e :: es) (tGs g (i :: is)) := (pgs_cons h1 h2 hs).imp fun v σ H Q q => by
  obtain ⟨H0, Z, fps, σl, xs, σl', sr, r, e, q⟩ := q
  cases xs with
  | nil => cases e
  | cons x xs =>
    generalize hfp : ([] : List Addr) = fp at r
    cases r with
    | cons h hs =>
      obtain ⟨e1, e2⟩ := List.append_eq_nil_iff.mp hfp.symm
      subst e1 e2
      refine ⟨_, _, rfl, H0, Z, fps, σl, x, _, sr, h, rfl, fun σ1 fps1 sr1 wa => ?_⟩
      exact ⟨H0, Z, fps1, _, xs, σl', sr1, hs, e, fun σ2 fps2 sr2 wa2 => q σ2 fps2 sr2 fun vs hv => (wa2 vs fun j hj => hv j (List.mem_cons_of_mem _ hj)).trans (wa vs fun j hj => hv j (by rw [List.mem_singleton.mp hj]; exact List.mem_cons_self))⟩
theorem putAll_len : ∀ {is : List Nat} {xs : List D} {σ σ' : Sl}, putAll σ is xs = .ok σ' → is.length = xs.length
  | [], [], _, _, _ => rfl
  | [], _ :: _, _, _, h => by cases h
  | _ :: _, [], _, _, h => by cases h
  | i :: is, x :: xs, σ, σ', h => by rw [List.length_cons, List.length_cons, putAll_len (is := is) (xs := xs) h]
theorem sg_many {kk : Nat} (G : Gof g X) (hc : X.calm = true) (h : PGs X es (tGs g is)) (hn : (assignEach es X.env).length = is.length) (hst : (assignEach es X.env).findIdx? (·.1) = none) : PG X (.Tuple es kk pos) (tG g (.many is)) := (pg_tup hc h hn hst).imp fun v σ H Q q => by
  obtain ⟨H0, Z, fps, σl, x, σl', sr, r, e, q⟩ := q
  cases x with
  | tup xs =>
    obtain ⟨a, vs, rfl, hq, rs⟩ := rep_tup r
    have e : putAll σl is xs = .ok σl' := e
    rw [G.K]
    exact ⟨a, vs, rfl, hq, by rw [← rs.length, putAll_len e], H0, Z, fps, σl, xs, σl', sr, rs, e, q⟩
  | _ => cases e
theorem bindP_err {σ : Sl} {p : Pat} {d : D} {c : Nat} {fs : List D} : bindP σ p d ≠ .err c fs := fun h => by
  have go : ∀ {is : List Nat} {xs : List D} {σ : Sl}, putAll σ is xs ≠ .err c fs := by
    intro is
    induction is with
    | nil => intro xs σ h; cases xs <;> cases h
    | cons i is ih => intro xs σ h; cases xs with
      | nil => cases h
      | cons x xs => exact ih h
  cases p with
  | one i => cases h
  | many is =>
    cases d with
    | tup xs => exact go (show putAll σ is xs = _ from h)
    | _ => cases h
  | two i js =>
    have h' : (match d with | .tup [x, .tup ys] => putAll (σ.set i (some x)) js ys | _ => R.bad) = .err c fs := h
    split at h'
    · exact go h'
    · cases h'
def NpL (g : Gv) (is : List Nat) : Prop := g.pin = none ∨ 0 ∉ is
theorem Gh.wa {H0 H : Hp} {Z : Addr → Prop} {σ σ' : L2.St} (h : Gh g H0 Z σ H) (np : NpL g is) (wa : Wa is σ σ') : Gh g H0 Z σ' H := ⟨fun a e => by
  rcases np with n | n
  · rw [n] at e; cases e
  · have := congrArg (fun t : L2.St => t[0]?) (wa is fun _ m => m)
    simp only [wipe_get, n, false_and, if_false] at this
    rw [this]; exact h.pin a e, h.tab, h.t0⟩
theorem ss_unp {tg : Expr} {p : Pat} (he : PE X e (tI g W b fe)) (hg : PG X tg (tG g p)) (hs : swapsWithSole [tg] e pos.line X.env = pure false) (hw : swappedStores [tg] e X.env = pure none) (h1 : (assignEach [tg] X.env).map (·.2) = [assign tg X.env]) (np : NpL g (psl p)) :
    PS X (.Assign [tg] e pos) (tS g W (sUnp p fe)) := (ps_asg he hg hs hw h1).imp fun E σ H q => by
  obtain ⟨H0, Z0, Z, fps, σl, ss, o⟩ := q
  refine ⟨H0, Z, fps, σl, ss.sr, (OutS.rS ss o).imp fun d o v H' Z' fp pp => ?_⟩
  obtain ⟨hc, o⟩ := OutS.guard o
  have ss1 := ss.step pp.same pp.zx
  obtain ⟨σl', e, o⟩ := (OutS.rS ss o).okOf fun c fs => bindP_err
  refine ⟨H0, Z', fps, σl, d, σl', ss1.sr, pp.rep.to0 hc, e, fun σ' fps' sr wa => ?_⟩
  exact o σ' H' Z' fps' ⟨sr, ss1.z0, ss1.zn, ss1.gh.wa np wa⟩ (.of_zx pp.same pp.zx)
theorem ss_while {c : Expr} {body : List Stmt} (hp : PassesOwn (model X.prog X.w) X.A X.env X.xe) (hc : PT X c (tIT g W fc)) (hb : PSs X body (tS g W f)) : PS X (.While c body [] pos) (tS g W (sWhl fc f)) := (ps_while hp hc hb).imp fun E σ H q => by
  obtain ⟨H0, Z0, Z, fps, σl, ss, o⟩ := q
  obtain ⟨n, hn⟩ := whl_ex (c := fc) (f := f) (σ := σl) fun e => by rw [e] at o; exact o
  rw [← hn] at o
  refine ⟨fun m σ' H' => ∃ Zi fpi σli, SS g H0 Z0 Zi fpi σli σ' H' ∧ OutS g W H0 Z0 Zi H' E (lp fc f m σli), ⟨n, Z, fps, σl, ss, o⟩, ?_⟩
  rintro m σ1 H1 ⟨Zi, fpi, σli, ssi, oi⟩
  cases m with
  | zero => exact oi.elim
  | succ m =>
    refine ⟨H0, Zi, fpi, σli, ssi.sr, (OutS.rS ssi oi).imp fun d o => ?_⟩
    cases d with
    | bl b =>
      refine ⟨b, rfl, fun H2 Z2 s z => ?_⟩
      have ss2 := ssi.step s z
      have ev2 := Ev.of_zx (t := g.tab) s z
      cases b with
      | false => exact o σ1 H2 Z2 fpi ss2 ev2
      | true =>
        show ∃ N : L2.St → Hp → Prop, (∀ σ' H', N σ' H' → ∃ m', m' < m + 1 ∧ ∃ Zi fpi σli, SS g H0 Z0 Zi fpi σli σ' H' ∧ OutS g W H0 Z0 Zi H' E (lp fc f m' σli)) ∧ tS g W f { E with nx := N, ct := N, bk := E.nx } σ1 H2
        refine ⟨fun σ' H' => ∃ Zi fpi σli, SS g H0 Z0 Zi fpi σli σ' H' ∧ OutS g W H0 Z0 Zi H' E (lp fc f m σli), fun σ' H' h => ⟨m, Nat.lt_succ_self m, h⟩, H0, Z0, Z2, fpi, σli, ss2, ?_⟩
        have o := o.pre ev2
        simp only [if_pos] at o
        cases hf : f σli with
        | nx σl' => rw [hf] at o; exact fun σ' H' Z' fps' s e => ⟨Z', fps', σl', s, o.pre e⟩
        | ct σl' => rw [hf] at o; exact fun σ' H' Z' fps' s e => ⟨Z', fps', σl', s, o.pre e⟩
        | bk σl' => rw [hf] at o; exact o
        | rt d => rw [hf] at o; exact o
        | er c fs σl' => rw [hf] at o; exact o
        | bad => rw [hf] at o; exact o
    | _ => exact o.elim
theorem SR.zone {Z Z' : Addr → Prop} {H0 H : Hp} {fps : List (List Addr)} {σl : Sl} {σ : L2.St} (r : SR g H0 Z fps σl σ H) (le : ∀ a, Z a → Z' a) (inn : ∀ a, Z' a → H a ≠ none) (oth : ∀ a ∈ fps.flatten, ¬ Z' a) : SR g H0 Z' fps σl σ H where
  len := r.len
  lenf := r.lenf
  slot i d e := by
    obtain ⟨v, fp, e1, e2, rp⟩ := r.slot i d e
    exact ⟨v, fp, e1, e2, rp.same le (same_refl H)⟩
  gone := r.gone
  nd := r.nd
  own a ha := ⟨oth a ha, (r.own a ha).2⟩
  z := inn
  same := r.same
theorem ss_for {iter tg : Expr} {body : List Stmt} {p : Pat} {fi : Sl → R (List D)} (hp : PassesOwn (model X.prog X.w) X.A X.env X.xe) (hc : X.calm = true) (hi : PI X tg iter (tIW g W true fi)) (hg : PG X tg (tG g p)) (hb : PSs X body (tS g W f))
    (hs : ∀ x, foldedSetIterable iter X.env x = pure x) (np : NpL g (psl p)) : PS X (.For tg iter body [] pos) (tS g W (sFor p fi f)) := (ps_for hp hc hi hg hb hs).imp fun E σ H q => by
  obtain ⟨H0, Z0, Z, fps, σl, ss, o⟩ := q
  refine ⟨H0, Z, fps, σl, ss.sr, (OutS.rS ss o).imp fun xs o J H1 Z1 fp s1 z1 wk hin hfp => ?_⟩
  have ss1 := ss.step s1 z1
  have hfp := hfp rfl
  have ssb : SS g H0 Z0 (fun a => Z1 a ∨ a ∈ fp) fps σl σ H1 := by
    refine ⟨ss1.sr.zone (fun a z => .inl z) (fun a z => ?_) fun a ha z => ?_, fun a z => .inl (ss1.z0 a z), fun a z => ?_, ss1.gh.same (same_refl _) fun a z => .inl z⟩
    · rcases z with z | m
      · exact ss1.sr.z a z
      · exact hin a m
    · rcases z with z | m
      · exact (ss1.sr.own a ha).1 z
      · exact (ss.sr.own a ha).2.2 (hfp a m).1
    · rcases z with z | m
      · exact ss1.zn a z
      · exact .inr (same_none ss.sr.same (hfp a m).1)
  have evb : Ev g.tab Z (fun a => Z1 a ∨ a ∈ fp) H H1 := ⟨fun a z => .inl (z1.le a z), .of_same s1, fun _ _ t => t.same s1 fun a z => .inl (z1.le a z)⟩
  refine ⟨fun i m σ' H' => ∃ Zi fpi σli, SS g H0 Z0 Zi fpi σli σ' H' ∧ Ev g.tab (fun a => Z1 a ∨ a ∈ fp) Zi H1 H' ∧ i + m = xs.length ∧ OutS g W H0 Z0 Zi H' E (fr p f (xs.drop i) σli),
    ⟨xs.length, _, fps, σl, ssb, .refl, by omega, o.pre evb⟩, fun i m σ2 H2 hw => ?_⟩
  obtain ⟨Zi, fpi, σli, ssi, evi, em, oi⟩ := hw
  have kpi : Kp Z1 fp H1 H2 := ⟨evi.kp.tup, evi.kp.frz, fun a o h => evi.kp.z a o (.inl h), fun a o h => evi.kp.z a o (.inr h), evi.kp.xd⟩
  by_cases hi : i < xs.length
  · refine .inr ⟨wk.go H2 i kpi hi, fun σ3 H3 => ∃ Z3 fps3 σl3, SS g H0 Z0 Z3 fps3 σl3 σ3 H3 ∧ Ev g.tab (fun a => Z1 a ∨ a ∈ fp) Z3 H1 H3 ∧ OutS g W H0 Z0 Z3 H3 E (fr p f (xs.drop (i + 1)) σl3), fun σ3 H3 hN => ?_, fun x' H3 y => ?_⟩
    · obtain ⟨Z3, fps3, σl3, ss3, ev3, o3⟩ := hN
      exact ⟨m - 1, by omega, Z3, fps3, σl3, ss3, ev3, by omega, o3⟩
    · obtain ⟨s2, rp⟩ := wk.yld H2 H3 i x' xs[i] kpi (List.getElem?_eq_getElem hi) y
      have z2 : Zx Zi Zi H2 H3 := .stay ssi.sr.z s2
      have ss3 := ssi.step s2 z2
      have ev3 := Ev.of_zx (t := g.tab) s2 z2
      rw [List.drop_eq_getElem_cons hi] at oi
      have oi : OutS g W H0 Z0 Zi H2 E (rS (bindP σli p xs[i]) σli fun σ1 => match f σ1 with
        | .nx σ' => fr p f (xs.drop (i + 1)) σ'
        | .ct σ' => fr p f (xs.drop (i + 1)) σ'
        | .bk σ' => .nx σ'
        | r => r) := oi
      obtain ⟨σl1, e1, oi⟩ := (OutS.rS ssi oi).okOf fun c fs => bindP_err
      refine ⟨H0, Zi, fpi, σli, xs[i], σl1, ss3.sr, rp.keep (fun a z => evi.le a (.inl z)) (.of_same (same_refl _)), e1, fun σ4 fps4 sr4 wa => ?_⟩
      refine ⟨H0, Z0, Zi, fps4, σl1, ⟨sr4, ss3.z0, ss3.zn, ss3.gh.wa np wa⟩, ?_⟩
      have oi := oi.pre ev3
      have ev4 := evi.trans ev3
      cases hf : f σl1 with
      | nx σl' => rw [hf] at oi; exact fun σ' H' Z' fps' s e => ⟨Z', fps', σl', s, ev4.trans e, oi.pre e⟩
      | ct σl' => rw [hf] at oi; exact fun σ' H' Z' fps' s e => ⟨Z', fps', σl', s, ev4.trans e, oi.pre e⟩
      | bk σl' => rw [hf] at oi; exact oi
      | rt d => rw [hf] at oi; exact oi
      | er c fs σl' => rw [hf] at oi; exact oi
      | bad => rw [hf] at oi; exact oi
  · have ei : i = xs.length := by omega
    subst ei
    rw [List.drop_length] at oi
    exact .inl ⟨wk.stop H2 kpi, oi σ2 H2 Zi fpi ssi .refl⟩
theorem lstOf_err {r : R D} {c : Nat} {fs : List D} (h : r ≠ .err c fs) : r.bind lstOf ≠ .err c fs := fun e => by
  cases r with
  | ok d =>
    cases d with
    | lst o xs => cases o <;> cases e
    | _ => cases e
  | err c' fs' => exact h (by cases e; rfl)
  | bad => cases e
theorem lstOf_ok {r : R D} {xs : List D} (h : r.bind lstOf = .ok xs) : r = .ok (.lst true xs) := by
  cases r with
  | ok d =>
    cases d with
    | lst o ys => cases o <;> cases h; rfl
    | _ => cases h
  | err c' fs' => cases h
  | bad => cases h
theorem ss_app {x : Str} {p apos cpos : Pos} (G : Gof g X) (hN : X.N[i]? = some x) (hv : Vis X.env.scope x) (hd : (x == ("__debug__" : Str)) = false) (hcd : (x == ("__classdict__" : Str)) = false) (he : PE X e (tI g W true fe))
    (hst : starEach [e] X.env = (false, eval e X.env) :: starEach [] X.env)
    (hbase : attributeBase (.Name x p) "append" X.env (eval (.Name x p) X.env) = eval (.Name x p) X.env)
    (hfew : ((backTo cpos (starEach [e] X.env)).all (fun x => !x.1) && (backToKw cpos (keywordEach [] X.env)).all (fun x => x.1.isSome)
      && decide ([e].length + ([] : List Keyword).length + (if ([] : List Keyword).isEmpty then 0 else 1) < 30)) = true)
    (hline : (apos.endLine == cpos.line) = true) (hplain : (backTo cpos (starEach [] X.env)).any (·.1) = false)
    (hs : swapsWith (.Call (.Attribute (.Name x p) "append" apos) [e] [] cpos) none pos.line X.env = pure false) :
    PS X (.Expr (.Call (.Attribute (.Name x p) "append" apos) [e] [] cpos) pos) (tS g W (sApp i fe)) :=
  (ps_expr (pe_bm PySem.F.plainAttrs_list PySem.F.slot_list_append PySem.F.type_list_append mt_append (pe_var hN hv hd hcd) (pa_cons he pa_nil hst) hbase hfew hline hst hplain) hs).imp fun E σ H q => by
  obtain ⟨H0, Z0, Z, fps, σl, ss, o⟩ := q
  obtain ⟨xs, e0, o⟩ := (OutS.rS ss o).okOf fun c fs => lstOf_err getS_err
  obtain ⟨v, fp, e1, e2, rp⟩ := ss.sr.slot i _ (getS_ok (lstOf_ok e0))
  obtain ⟨l, vs, fs, rfl, hl, rs, rfl⟩ := rep_own rp
  refine ⟨.ref l, e1, .inl ⟨rfl, vs, .inl (.inl hl)⟩, H0, Z, fps, σl, ss.sr, (OutS.rS ss o).imp fun y o v1 H1 Z1 fy p1 => ?_⟩
  obtain ⟨hz, o⟩ := OutS.guard o
  have hl1 : H1 l = some (.lst vs) := p1.same _ _ hl
  have ss1 := ss.step p1.same p1.zx
  have own := fun a ha => ss1.sr.own a (mem_at e2 a ha)
  have nd := nd_at ss.sr.nd e2
  obtain ⟨ny, oy⟩ := p1.own rfl
  refine ⟨l, vs, v1, rfl, rfl, hl1, by rw [← rs.length]; exact hz, ?_⟩
  have lo := own l List.mem_cons_self
  have fy_old : ∀ a ∈ fy, a ∉ fps.flatten := fun a ha q => (ss.sr.own a q).2.2 (oy a ha).1
  have lfy : l ∉ fy := fun q => fy_old l q (mem_at e2 l List.mem_cons_self)
  have lfs : l ∉ fs := (List.nodup_cons.mp nd).1
  have ow : Owd g.P g.w l (H1 l) := .inl ⟨vs, hl1⟩
  have rep2 : Rep g Z1 (upd H1 l (.lst (vs ++ [v1]))) (.lst true (xs ++ [y])) (.ref l) (l :: (fs ++ (fy ++ []))) :=
    .lst upd_same (((rs.same p1.zx.le p1.same).keep (fun _ z => z) (kp_upd ow lo.1 lfs)).append (.cons (p1.rep.keep (fun _ z => z) (kp_upd ow lo.1 lfy)) .nil)) (.inl ⟨rfl, rfl⟩)
  have ap := mem_apart ss.sr.nd e2
  have r2 := ss1.sr.put (i := i) (same_updO ss1.sr.same lo.2.1) (fun _ z => z) (fun a z => upd_some (ss1.sr.z a z)) (kp_upd ow lo.1 (ap l List.mem_cons_self)) (fun a ha => (ss1.sr.own a (mem_set0 ha)).1) rep2
    (by
      rw [List.append_nil]
      refine List.nodup_cons.mpr ⟨fun q => ?_, List.nodup_append.mpr ⟨(List.nodup_cons.mp nd).2, ny, fun a ha b hb e => ?_⟩⟩
      · rcases List.mem_append.mp q with q | q
        · exact lfs q
        · exact lfy q
      · exact fy_old b hb (mem_at e2 b (List.mem_cons_of_mem _ (by rw [← e]; exact ha))))
    (fun a ha => by
      rw [List.append_nil] at ha
      rcases List.mem_cons.mp ha with rfl | ha
      · exact ⟨ap a List.mem_cons_self, lo.1, lo.2.1⟩
      · rcases List.mem_append.mp ha with ha | ha
        · have q := List.mem_cons_of_mem l ha
          exact ⟨ap a q, (own a q).1, (own a q).2.1⟩
        · exact ⟨fun q => fy_old a ha (mem_set0 q), (oy a ha).2, same_none ss.sr.same (oy a ha).1⟩)
  rw [set_self e1] at r2
  exact o σ _ Z1 _ ⟨r2, ss1.z0, ss1.zn, ss1.gh.ev (.upd ow lo.1)⟩ (.trans (.of_zx p1.same p1.zx) (.upd ow lo.1))
end
end DI
namespace DI
open PySem PySem.Spec PyProof.Rows L2
abbrev WF : L2.WX := fun _ _ _ _ => False
def noErr {α : Type} : R α → R α
  | .ok a => .ok a
  | _ => .bad
def cBody (vs : List Nat) (p : Pat) (fc fe : Sl → R D) (σ : Sl) (x : D) : R (Option D) :=
  noErr ((bindP (wipeL σ vs) p x).bind fun σ1 => (fc σ1).bind fun c => (boolOf c).bind fun b => if b = true then (fe σ1).bind fun y => .ok (some y) else .ok none)
def eComp (vs : List Nat) (p : Pat) (fi : Sl → R (List D)) (fc fe : Sl → R D) : Sl → R D := fun σ =>
  (fi σ).bind fun xs => (compR (cBody vs p fc fe σ) xs).bind fun ys => if ys.length ≤ sizeLine then .ok (.lst true ys) else .bad
theorem compR_noerr {f : D → R (Option D)} (hf : ∀ x c fs, f x ≠ .err c fs) : ∀ (xs : List D) c fs, compR f xs ≠ .err c fs
  | [], _, _, h => by cases h
  | x :: xs, c, fs, h => by
    rw [compR] at h
    cases hx : f x with
    | ok o =>
      rw [hx] at h
      cases hr : compR f xs with
      | ok ys => rw [hr] at h; cases h
      | err c' fs' => exact compR_noerr hf xs c' fs' hr
      | bad => rw [hr] at h; cases h
    | err c' fs' => exact hf x c' fs' hx
    | bad => rw [hx] at h; cases h
theorem noErr_noerr {α : Type} {r : R α} {c : Nat} {fs : List D} : noErr r ≠ .err c fs := fun h => by cases r <;> cases h
theorem noErr_ok {α : Type} {r : R α} {a : α} (h : noErr r = .ok a) : r = .ok a := by cases r <;> cases h; rfl
theorem R.bind_ok_inv {α β : Type} {r : R α} {k : α → R β} {b : β} (h : r.bind k = .ok b) : ∃ a, r = .ok a ∧ k a = .ok b := by
  cases r with
  | ok a => exact ⟨a, rfl, h⟩
  | err c fs => cases h
  | bad => cases h
section
variable {g : Gv} {Z Z' : Addr → Prop} {H0 H H' : Hp} {fps : List (List Addr)} {σl : Sl} {σ : L2.St}
theorem SR.drop2 (r : SR g H0 Z fps σl σ H) (i : Nat) : SR g H0 Z (fps.set i []) (σl.set i none) (σ.set i none) H := by
  have r1 := r.drop i r.same (fun _ z => z) r.z (.of_same (same_refl H)) fun a ha => (r.own a (mem_set0 ha)).1
  refine { r1 with len := by rw [r1.len, List.length_set], lenf := by rw [r1.lenf, List.length_set], slot := fun j d e => ?_ }
  obtain ⟨v, fp, e1, e2, rp⟩ := r1.slot j d e
  refine ⟨v, fp, ?_, e2, rp⟩
  by_cases h : i = j
  · subst h
    have hl : i < σl.length := by have := lt_of_get e; rwa [List.length_set] at this
    rw [List.getElem?_set_self hl] at e; cases e
  · rw [List.getElem?_set_ne h]; exact e1
theorem SR.wiped (r : SR g H0 Z fps σl σ H) : ∀ vs : List Nat, ∃ fps', SR g H0 Z fps' (wipeL σl vs) (wipe σ vs) H ∧ ∀ a ∈ fps'.flatten, a ∈ fps.flatten
  | [] => ⟨fps, r, fun _ h => h⟩
  | v :: vs => by
    obtain ⟨f1, r1, h1⟩ := r.wiped vs
    exact ⟨f1.set v [], r1.drop2 v, fun a ha => h1 a (mem_set0 ha)⟩
theorem SR.frame (r : SR g H0 Z fps σl σ H) (sm : Same H0 H') (inn : ∀ a, Z a → H' a ≠ none) (kp : Kp Z fps.flatten H H') : SR g H0 Z fps σl σ H' where
  len := r.len
  lenf := r.lenf
  slot i d e := by
    obtain ⟨v, fp, e1, e2, rp⟩ := r.slot i d e
    exact ⟨v, fp, e1, e2, rp.keep (fun _ z => z) (kp.sub fun a ha => mem_at e2 a ha)⟩
  gone := r.gone
  nd := r.nd
  own a ha := ⟨(r.own a ha).1, (r.own a ha).2.1, by
    cases e : H a with
    | none => exact absurd e (r.own a ha).2.2
    | some o => rw [kp.own a o ha e (owd_nt (r.owd a ha) e)]; exact Option.some_ne_none _⟩
  z := inn
  same := sm
end
section
variable {X : Cx} {g : Gv} {W : L2.WX}
theorem sts_nil : PTs X [] (tIT g W fun _ => .ok (.bl true)) := ⟨fun pins s σ H Q I q => pts_nil.run pins s σ H Q I (by
  obtain ⟨H0, Z, fps, σl, sr, o⟩ := q
  obtain ⟨b, e, q⟩ := o
  cases e
  exact q H Z (same_refl H) (.refl sr.z))⟩
theorem comp_of {wi : Sl → R (List D)} {p : Pat} {fc fe : Sl → R D} {vs : List Nat} {b : Bool} {σ : L2.St} {H : Hp} {Q : VK} (hp : ∀ j ∈ psl p, j ∈ vs) (q : tI g W true (eComp vs p wi fc fe) σ H Q) :
    tLc (tIW g W b wi) (tG g p) (tIT g WF fc) (tI g WF true fe) vs σ H Q := by
  obtain ⟨H0, Z, fps, σl, sr, o⟩ := q
  refine ⟨H0, Z, fps, σl, sr, o.bind.imp fun xs o J H1 Z1 fp s1 z1 wk hin hfp Dd nD => ?_⟩
  obtain ⟨ys, ey, o⟩ := o.bind.okOf fun c fs => compR_noerr (fun x c fs => noErr_noerr) xs c fs
  obtain ⟨hz, o⟩ := Out.guard o
  have sr1 := sr.step s1 z1
  obtain ⟨fw, srw, hfw⟩ := sr1.wiped vs
  have sD := same_upd (o := .lst []) nD
  have hDfw : Dd ∉ fw.flatten := fun h => (sr1.own Dd (hfw Dd h)).2.2 nD
  have hDz : ¬ Z1 Dd := fun z => sr1.z Dd z nD
  have zD : Zx Z1 Z1 H1 (upd H1 Dd (.lst [])) := .stay sr1.z sD
  refine ⟨fun i m H' => i + m = xs.length ∧ ∃ Zi acc avs af zs, SR g H0 Zi fw (wipeL σl vs) (wipe σ vs) H' ∧ Same H1 H' ∧ Zx Z1 Zi H1 H' ∧ H' Dd = some (.lst avs) ∧ ¬ Zi Dd ∧ Reps g Zi H' acc avs af ∧ af.Nodup ∧ (∀ a ∈ af, H1 a = none ∧ ¬ Zi a ∧ a ≠ Dd) ∧
      compR (cBody vs p fc fe σl) (xs.drop i) = .ok zs ∧ acc ++ zs = ys, ⟨xs.length, by omega, Z1, [], [], [], ys, srw.step sD zD, sD, zD, upd_same, hDz, .nil, List.nodup_nil, (fun a h => nomatch h), ey, rfl⟩, ?_⟩
  rintro i m H2 ⟨em, Zi, acc, avs, af, zs, sri, s2, z2, hD2, hDi, ra, na, oa, ez, eys⟩
  have kp2 : Kp Z1 fp H1 H2 := .of_same s2
  by_cases hi : i < xs.length
  · refine .inr ⟨wk.go H2 i kp2 hi, fun H' => ∃ Zi acc avs af zs, SR g H0 Zi fw (wipeL σl vs) (wipe σ vs) H' ∧ Same H1 H' ∧ Zx Z1 Zi H1 H' ∧ H' Dd = some (.lst avs) ∧ ¬ Zi Dd ∧ Reps g Zi H' acc avs af ∧ af.Nodup ∧ (∀ a ∈ af, H1 a = none ∧ ¬ Zi a ∧ a ≠ Dd) ∧
      compR (cBody vs p fc fe σl) (xs.drop (i + 1)) = .ok zs ∧ acc ++ zs = ys, fun H' h => ⟨m - 1, by omega, by omega, h⟩, fun x' H3 y => ?_⟩
    obtain ⟨s3, rp⟩ := wk.yld H2 H3 i x' xs[i] kp2 (List.getElem?_eq_getElem hi) y
    have z3 : Zx Zi Zi H2 H3 := .stay sri.z s3
    rw [List.drop_eq_getElem_cons hi, compR] at ez
    obtain ⟨ob, eb, ez⟩ := R.bind_ok_inv ez
    obtain ⟨zs', er, ez⟩ := R.bind_ok_inv ez
    obtain ⟨σ1, e1, eb⟩ := R.bind_ok_inv (noErr_ok eb)
    obtain ⟨cd, e2, eb⟩ := R.bind_ok_inv eb
    obtain ⟨cb, e3, eb⟩ := R.bind_ok_inv eb
    refine ⟨H0, Zi, fw, _, xs[i], σ1, sri.step s3 z3, rp.keep (fun a z => z2.le a z) (.of_same (same_refl _)), e1, fun σ2 fps2 sr2 wa => ⟨?_, ?_⟩⟩
    · exact (wa vs hp).trans wipe_wipe
    · refine ⟨H0, Zi, fps2, σ1, sr2, ?_⟩
      rw [e2]
      have ecd : cd = .bl cb := by
        cases cd with
        | bl b => cases e3; rfl
        | _ => cases e3
      subst ecd
      refine ⟨cb, rfl, fun H4 Z4 s4 z4 => ?_⟩
      have s24 := same_trans s3 s4
      have z24 : Zx Zi Z4 H2 H4 := z3.trans s3 z4
      cases cb with
      | false =>
        have eb : R.ok none = R.ok ob := eb
        cases eb
        have ez : R.ok zs' = R.ok zs := ez
        cases ez
        have nz : ∀ a, H2 a ≠ none → ¬ Zi a → ¬ Z4 a := fun a h1 h2 h3 => by
          rcases z24.new a h3 with q | q
          · exact h2 q
          · exact h1 q
        exact ⟨Z4, acc, avs, af, _, sri.step s24 z24, same_trans s2 s24, z2.trans s2 z24, s24 _ _ hD2, nz Dd (by rw [hD2]; exact Option.some_ne_none _) hDi, ra.same z24.le s24, na, fun a ha => ⟨(oa a ha).1, nz a (Reps.there ra a ha) (oa a ha).2.1, (oa a ha).2.2⟩, er, eys⟩
      | true =>
        obtain ⟨yd, e4, eb⟩ := R.bind_ok_inv (show ((fe σ1).bind fun y => R.ok (some y)) = R.ok ob from eb)
        cases eb
        have ez : R.ok (yd :: zs') = R.ok zs := ez
        cases ez
        refine ⟨H0, Z4, fps2, σ1, sr2.step s4 z4, ?_⟩
        rw [e4]
        intro yv H5 Z5 fy p5
        have s25 := same_trans s24 p5.same
        have z25 : Zx Zi Z5 H2 H5 := z24.trans s24 p5.zx
        have hD5 := s25 _ _ hD2
        have nz : ∀ a, H2 a ≠ none → ¬ Zi a → ¬ Z5 a := fun a h1 h2 h3 => by
          rcases z25.new a h3 with q | q
          · exact h2 q
          · exact h1 q
        have hDz5 := nz Dd (by rw [hD2]; exact Option.some_ne_none _) hDi
        obtain ⟨ny, oy⟩ := p5.own rfl
        have hl := ra.length
        have hly : acc.length < ys.length := by rw [← eys, List.length_append, List.length_cons]; omega
        have ow : Owd g.P g.w Dd (H5 Dd) := .inl ⟨avs, hD5⟩
        have Dfy : Dd ∉ fy := fun q => by
          have := (oy Dd q).1
          rw [s24 _ _ hD2] at this; cases this
        have Daf : Dd ∉ af := fun q => (oa Dd q).2.2 rfl
        have k5 : ∀ fp, Dd ∉ fp → Kp Z5 fp H5 (upd H5 Dd (.lst (avs ++ [yv]))) := fun fp h => kp_upd ow hDz5 h
        have sri5 := sri.step s25 z25
        have s15 := same_trans s2 s25
        have z15 := z2.trans s2 z25
        refine ⟨avs, hD5, by rw [← hl]; omega, Z5, acc ++ [yd], avs ++ [yv], af ++ (fy ++ []), zs', sri5.frame (same_updO sri5.same (same_none sr1.same nD)) (fun a z => upd_some (sri5.z a z)) (k5 _ hDfw), same_updO s15 nD, ⟨z15.le, z15.new, fun a z => upd_some (z15.inn a z)⟩, upd_same, hDz5,
          ((ra.same z25.le s25).keep (fun _ z => z) (k5 _ Daf)).append (.cons (p5.rep.keep (fun _ z => z) (k5 _ Dfy)) .nil), ?_, ?_, er, ?_⟩
        · rw [List.append_nil]
          refine List.nodup_append.mpr ⟨na, ny, fun a ha b hb e => ?_⟩
          subst e
          exact Reps.there ra a ha (same_none s24 (oy a hb).1)
        · intro a ha
          rw [List.append_nil] at ha
          rcases List.mem_append.mp ha with ha | ha
          · exact ⟨(oa a ha).1, nz a (Reps.there ra a ha) (oa a ha).2.1, (oa a ha).2.2⟩
          · exact ⟨same_none (same_trans s2 s24) (oy a ha).1, (oy a ha).2, fun e => Dfy (by rw [← e]; exact ha)⟩
        · rw [List.append_assoc]; exact eys
  · have ei : i = xs.length := by omega
    subst ei
    rw [List.drop_length] at ez
    cases ez
    rw [List.append_nil] at eys
    subst eys
    refine .inl ⟨wk.stop H2 kp2, ?_⟩
    refine o (.ref Dd) H2 Zi (Dd :: af) ⟨same_trans s1 s2, z1.trans s1 z2, .lst hD2 ra (.inl ⟨rfl, rfl⟩), fun _ => ⟨List.nodup_cons.mpr ⟨fun q => (oa Dd q).2.2 rfl, na⟩, fun a ha => ?_⟩⟩
    rcases List.mem_cons.mp ha with rfl | ha
    · exact ⟨same_none s1 nD, hDi⟩
    · exact ⟨same_none s1 (oa a ha).1, (oa a ha).2.1⟩
theorem se_comp {elt tg iter : Expr} {ifs : List Expr} {scope : Scope} {own : List (Str × Nat)} {pos : Pos} {wi : Sl → R (List D)} {p : Pat} {fc fe : Sl → R D} {b : Bool} (hc : X.calm = true) (hN : X.N.Nodup) (ok : blkC X.N X.env.scope scope own = true) (hp : ∀ j ∈ psl p, j ∈ own.map (·.2)) (hi : PI X tg iter (tIW g W b wi))
    (hg : ∀ (s : Shared) (H : Hp) (C : Addr) (cl : List (Str × Addr)) (fp : List Addr), PG (X.blk s H scope (compEnvC scope cl C X.env) fp) tg (tG g p)) (ht : ∀ (s : Shared) (H : Hp) (C : Addr) (cl : List (Str × Addr)) (fp : List Addr), PTs (X.blk s H scope (compEnvC scope cl C X.env) fp) ifs (tIT g WF fc))
    (he : ∀ (s : Shared) (H : Hp) (C : Addr) (cl : List (Str × Addr)) (fp : List Addr), PE (X.blk s H scope (compEnvC scope cl C X.env) fp) elt (tI g WF true fe)) (hs : ∀ x, foldedSetIterable iter X.env x = pure x) :
    PE X (.ListComp elt [⟨tg, iter, ifs, 0⟩] scope pos) (tI g W true (eComp (own.map (·.2)) p wi fc fe)) := (pe_lc hc hN hi (blkOk_by ok) hg ht he hs).imp fun _ _ _ q => comp_of hp q
theorem ss_setLc {i : Nat} {y : Str} {py : Pos} {elt tg iter : Expr} {ifs : List Expr} {scope : Scope} {own : List (Str × Nat)} {pos spos : Pos} {wi : Sl → R (List D)} {p : Pat} {fc fe : Sl → R D} {b : Bool} (hc : X.calm = true) (hN : X.N.Nodup) (hy : X.N[i]? = some y) (hyl : X.env.scope.names.lookup y = some .local)
    (hsw : swapsWith (.ListComp elt [⟨tg, iter, ifs, 0⟩] scope pos) (some (.Name y py)) spos.line X.env = pure true) (ok : blkC X.N X.env.scope scope own = true) (hp : ∀ j ∈ psl p, j ∈ own.map (·.2)) (hi : PI X tg iter (tIW g W b wi))
    (hg : ∀ (s : Shared) (H : Hp) (C : Addr) (cl : List (Str × Addr)) (fp : List Addr), PG (X.blk s H scope (compEnvC scope cl C X.env) fp) tg (tG g p)) (ht : ∀ (s : Shared) (H : Hp) (C : Addr) (cl : List (Str × Addr)) (fp : List Addr), PTs (X.blk s H scope (compEnvC scope cl C X.env) fp) ifs (tIT g WF fc))
    (he : ∀ (s : Shared) (H : Hp) (C : Addr) (cl : List (Str × Addr)) (fp : List Addr), PE (X.blk s H scope (compEnvC scope cl C X.env) fp) elt (tI g WF true fe)) (hs : ∀ x, foldedSetIterable iter X.env x = pure x) (np : Np g i) :
    PS X (.Assign [.Name y py] (.ListComp elt [⟨tg, iter, ifs, 0⟩] scope pos) spos) (tS g W (sSet i (eComp (own.map (·.2)) p wi fc fe))) := (ps_setLc hc hN hy hyl hsw hi (blkOk_by ok) hg ht he hs).imp fun E σ H q => by
  obtain ⟨H0, Z0, Z, fps, σl, ss, o⟩ := q
  exact comp_of hp ⟨H0, Z, fps, σl, ss.sr, (OutS.rS ss o).imp fun d o v H' Z' fp p => o _ H' Z' _ (ss.bind i np p) (.of_zx p.same p.zx)⟩
end
end DI
namespace DI
open PySem PySem.Spec PyProof.Rows L2
section
variable {g : Gv} {Z Z' : Addr → Prop} {H H' : Hp}
theorem nk_inj {a b : Key} (h : nk a = nk b) : a = b := by
  cases a <;> cases b <;> simp [nk] at h <;> rw [h]
theorem reps_mapv {α : Type} {ks : List (NestedKey × D)} {k : NestedKey} {d : D} {v : V} (rd : Rep g Z H d v []) : ∀ {xs : List α} {kx : α → NestedKey} {vx : α → V} {up : α → α}, (∀ a, kx (up a) = kx a) → (∀ a, vx (up a) = if kx a = k then v else vx a) → xs.map kx = ks.map (·.1) → Reps g Z H (ks.map (·.2)) (xs.map vx) [] →
    Reps g Z H ((ks.map fun p => if p.1 = k then (p.1, d) else p).map (·.2)) ((xs.map up).map vx) [] := by
  induction ks with
  | nil => intro xs kx vx up _ _ e _; cases xs with
    | nil => exact .nil
    | cons x xs => cases e
  | cons p r ih => intro xs kx vx up h1 h2 e rs; cases xs with
    | nil => cases e
    | cons x xs =>
      rw [List.map_cons, List.map_cons] at e rs
      have e1 : kx x = p.1 := (List.cons.inj e).1
      have e2 := (List.cons.inj e).2
      generalize hf : ([] : List Addr) = f at rs
      cases rs with
      | cons h hs =>
        obtain ⟨ea, eb⟩ := List.append_eq_nil_iff.mp hf.symm
        subst ea eb
        rw [List.map_cons, List.map_cons, List.map_cons, List.map_cons]
        refine .cons (f := []) (fs := []) ?_ (ih h1 h2 e2 hs)
        rw [h2, e1]
        by_cases hk : p.1 = k
        · rw [if_pos hk, if_pos hk]; exact rd
        · rw [if_neg hk, if_neg hk]; exact h
theorem keys_mapv {ks : List (NestedKey × D)} {k : NestedKey} {d : D} : (ks.map fun p => if p.1 = k then (p.1, d) else p).map (·.1) = ks.map (·.1) := by
  rw [List.map_map]
  congr 1
  funext p
  show (if p.1 = k then (p.1, d) else p).1 = p.1
  by_cases h : p.1 = k
  · rw [if_pos h]
  · rw [if_neg h]
theorem any_keys {α : Type} {ks : List (NestedKey × D)} {k : NestedKey} {xs : List α} {kx : α → NestedKey} (e : xs.map kx = ks.map (·.1)) : (ks.any fun p => decide (p.1 = k)) = xs.any fun a => decide (kx a = k) := by
  have h1 : (ks.any fun p => decide (p.1 = k)) = (ks.map (·.1)).any fun q => decide (q = k) := by rw [List.any_map]; rfl
  have h2 : (xs.any fun a => decide (kx a = k)) = (xs.map kx).any fun q => decide (q = k) := by rw [List.any_map]; rfl
  rw [h1, h2, e]
theorem dput_K {kv : List (Key × V)} {kvs : List (NestedKey × D)} {q : Key} {d : D} {v : V} (e : (kv.map fun p => nk p.1) = kvs.map (·.1)) (rs : Reps g Z H (kvs.map (·.2)) (kv.map (·.2)) []) (rd : Rep g Z H d v []) :
    ((putK kv q v).map fun p => nk p.1) = (dput kvs (nk q) d).map (·.1) ∧ Reps g Z H ((dput kvs (nk q) d).map (·.2)) ((putK kv q v).map (·.2)) [] := by
  have ea : (kvs.any fun p => decide (p.1 = nk q)) = kv.any fun p => decide (p.1 = q) := by
    rw [any_keys e]
    congr 1
    funext p
    by_cases h : p.1 = q
    · rw [h]; simp
    · have h' : ¬ nk p.1 = nk q := fun z => h (nk_inj z)
      simp [h, h']
  unfold dput putK
  rw [ea]
  by_cases ha : (kv.any fun p => decide (p.1 = q)) = true
  · rw [if_pos ha, if_pos ha]
    refine ⟨?_, ?_⟩
    · rw [keys_mapv, ← e, List.map_map]
      congr 1
      funext p
      show nk (if p.1 = q then (p.1, v) else p).1 = nk p.1
      by_cases h : p.1 = q
      · rw [if_pos h]
      · rw [if_neg h]
    · refine reps_mapv rd (kx := fun (p : Key × V) => nk p.1) (vx := fun (p : Key × V) => p.2) (fun p => ?_) (fun p => ?_) e rs
      · by_cases h : p.1 = q
        · rw [if_pos h]
        · rw [if_neg h]
      · by_cases h : p.1 = q
        · rw [if_pos h, if_pos (by rw [h])]
        · rw [if_neg h, if_neg (fun z => h (nk_inj z))]
  · rw [if_neg ha, if_neg ha]
    refine ⟨?_, ?_⟩
    · rw [List.map_append, List.map_append, e]; rfl
    · rw [List.map_append, List.map_append]
      exact rs.append (f1 := []) (f2 := []) (.cons (f := []) (fs := []) rd .nil)
theorem dput_N {xs : List (NestedKey × Addr × V)} {kvs : List (NestedKey × D)} {k : NestedKey} {b : Addr} {d : D} {v : V} (e : xs.map (·.1) = kvs.map (·.1)) (rs : Reps g Z H (kvs.map (·.2)) (xs.map (·.2.2)) []) (rd : Rep g Z H d v []) :
    (putN xs k b v).map (·.1) = (dput kvs k d).map (·.1) ∧ Reps g Z H ((dput kvs k d).map (·.2)) ((putN xs k b v).map (·.2.2)) [] := by
  have ea : (kvs.any fun p => decide (p.1 = k)) = xs.any fun p => decide (p.1 = k) := any_keys e
  unfold dput putN
  rw [ea]
  by_cases ha : (xs.any fun p => decide (p.1 = k)) = true
  · rw [if_pos ha, if_pos ha]
    refine ⟨?_, ?_⟩
    · rw [keys_mapv, ← e, List.map_map]
      congr 1
      funext p
      show (if p.1 = k then (p.1, p.2.1, v) else p).1 = p.1
      by_cases h : p.1 = k
      · rw [if_pos h]
      · rw [if_neg h]
    · refine reps_mapv rd (kx := fun (p : NestedKey × Addr × V) => p.1) (vx := fun (p : NestedKey × Addr × V) => p.2.2) (fun p => ?_) (fun p => ?_) e rs
      · by_cases h : p.1 = k
        · rw [if_pos h]
        · rw [if_neg h]
      · by_cases h : p.1 = k
        · rw [if_pos h, if_pos h]
        · rw [if_neg h, if_neg h]
  · rw [if_neg ha, if_neg ha]
    refine ⟨?_, ?_⟩
    · rw [List.map_append, List.map_append, e]; rfl
    · rw [List.map_append, List.map_append]
      exact rs.append (f1 := []) (f2 := []) (.cons (f := []) (fs := []) rd .nil)
theorem putN_len (xs : List (NestedKey × Addr × V)) (k : NestedKey) (b : Addr) (v : V) : (putN xs k b v).length ≤ xs.length + 1 := by
  unfold putN
  by_cases h : (xs.any fun p => decide (p.1 = k)) = true
  · rw [if_pos h, List.length_map]; omega
  · rw [if_neg h, List.length_append]; exact Nat.le_refl _
theorem putN_ne (xs : List (NestedKey × Addr × V)) (k : NestedKey) (b : Addr) (v : V) : putN xs k b v ≠ [] := by
  unfold putN
  by_cases h : (xs.any fun p => decide (p.1 = k)) = true
  · rw [if_pos h]
    intro z
    cases xs with
    | nil => simp at h
    | cons => cases z
  · rw [if_neg h]; simp
theorem putN_mem {xs : List (NestedKey × Addr × V)} {k : NestedKey} {b : Addr} {v : V} {P : NestedKey × Addr → Prop} (h : ∀ p ∈ xs, P (p.1, p.2.1)) (hk : P (k, b)) : ∀ p ∈ putN xs k b v, P (p.1, p.2.1) := by
  intro p hp
  unfold putN at hp
  by_cases ha : (xs.any fun p => decide (p.1 = k)) = true
  · rw [if_pos ha] at hp
    obtain ⟨q, hq, rfl⟩ := List.mem_map.mp hp
    by_cases e : q.1 = k
    · rw [if_pos e]; exact h q hq
    · rw [if_neg e]; exact h q hq
  · rw [if_neg ha] at hp
    rcases List.mem_append.mp hp with hp | hp
    · exact h p hp
    · rw [List.mem_singleton.mp hp]; exact hk
end
section
variable {X : Cx} {g : Gv} {W : L2.WX}
def rPutD (g : Gv) : TSet := fun o i v H Q => ∃ Z x d kvs k fo fx a, o = .ref a ∧ (∀ a, Z a → H a ≠ none) ∧ ¬ Z a ∧ Rep g Z H (.dct true kvs) (.ref a) fo ∧ Rep g Z H x i fx ∧ Rep g Z H d v [] ∧ keyIn x kvs = .ok k ∧ kvs.length < sizeLine ∧
  ∀ u, Owd g.P g.w a (H a) → Rep g Z (upd H a u) (.dct true (dput kvs k d)) (.ref a) [a] → Q (upd H a u)
theorem set_D (G : Gof g X) (hu : X.A.units + 70 < cLine) : PSet X (rPutD g) := by
  intro pins s σ H o i v ov iv u Q I ro ri rv h
  obtain ⟨Z, x, d, kvs, k, fo, fx, a, rfl, hz, nz, rd, rx, rdv, hk, hlen, q⟩ := h
  cases ro
  rcases (keyIn_ok hk).2 with ⟨hl, hx, ha⟩ | ⟨ht, hd8, ha⟩
  · obtain ⟨a', kv, qq, o, fp, ea, hH, e1, rfl, ek, rvs, _⟩ := dv_leaf I (g := g) (Z := Z) (d := .ref a) ⟨⟨fx, rx⟩, ⟨true, fo, rd⟩, hk⟩ hl hx ha
    cases ea
    subst e1
    have hlk : kv.length < sizeLine := by
      have := congrArg List.length ek
      simp only [List.length_map] at this
      omega
    have ow : Owd g.P g.w a (H a) := .inr (.inl ⟨kv, hH⟩)
    refine d_setItem (y := kV qq) (v := v) (by omega) I (DPut.k (k := qq) hH hlk) ri rv fun s' I' => ⟨_, I', q _ ow ?_⟩
    have kp := kp_upd (Z := Z) (fp := []) (u := .dK (putK kv qq v)) ow nz (fun h => nomatch h)
    obtain ⟨p1, p2⟩ := dput_K (q := qq) ek (rvs.keep (fun _ z => z) kp) (rdv.keep (fun _ z => z) kp)
    exact .dK upd_same p1 p2 own_new
  · have hkk := (keyIn_ok hk).1
    obtain ⟨b, rfl⟩ := tup_rep rx hkk ht
    obtain ⟨a', xs, ys, ea, nv, mu⟩ := nv_of G I rd ha
    cases ea
    cases ri
    have ow : Owd g.P g.w a (H a) := by
      cases rd with
      | dK h e hs w => exact .inr (.inl ⟨_, h⟩)
      | dN h e ne hk hs w => exact .inr (.inr ⟨_, _, h⟩)
    have krx : KRep g.K H k (.ref b) := rx.krep hkk
    have hkey : (nestedKind X.prog X.w).is s.heap k b := ⟨KRep.is (v := .ref b) (u := .ref b) I (by rw [G.K]; exact krx) rfl, hd8⟩
    have hlx : xs.length < sizeLine := by
      have := congrArg List.length nv.keys
      simp only [List.length_map] at this
      omega
    refine wpAny_setItem_heap (knd := nestedKind X.prog X.w) (hsz := by rw [← nv.pair.length]; exact nv.len) (show X.A.units + 1 + 8 < cLine by omega) hkey (by rw [G.P, G.w]; exact nv.dict) fun h' dd' hs => ?_
    obtain ⟨ob, es, ep, h1, h2, h3, h4, h5, h6⟩ := dd'
    have kp := kp_upd (Z := Z) (fp := []) (u := rawN g.P g.w a ob (putN xs k b v)) ow nz (fun h => nomatch h)
    obtain ⟨p1, p2⟩ := dput_N (k := k) (b := b) nv.keys (nv.vals.keep (fun _ z => z) kp) (rdv.keep (fun _ z => z) kp)
    refine ⟨_, d_write (ob := rawN g.P g.w a ob (putN xs k b v)) I mu hs ⟨ob, h1⟩ ?_, q _ ow ?_⟩
    · have hn : ((putN xs k b v).map (·.1)).Nodup := by
        have := nv.pair.put k (b := b) rv
        rw [← PN.keys this]; exact h6
      refine ⟨⟨by have := putN_len xs k b v; omega, nv.nosys, hn, storedH ys k b u, nv.pair.put k rv, es, ep, h1, h2, h3, by rw [← G.P, ← G.w]; exact h4⟩, ⟨ob, h1⟩, fun g1 g2 φ kk => ?_⟩
      obtain ⟨l1, l2, l3, y, l4, es1, ep1, e1, e2, e3, e4⟩ := φ
      exact ⟨l1, l2, l3, y, l4, es1, ep1, kk _ e1, e2, e3, e4⟩
    · refine .dN upd_same p1 (putN_ne _ _ _ _) (putN_mem (P := fun z => KRep g.K _ z.1 (.ref z.2) ∧ z.1.depth ≤ 8) (fun p hp => ⟨(nv.krep p hp).1.keep kp.tup, (nv.krep p hp).2⟩) ⟨krx.keep kp.tup, hd8⟩) p2 own_new
def dctOf : D → R (List (NestedKey × D))
  | .dct true xs => .ok xs
  | _ => .bad
def sPutK (i : Nat) (fk fe : Sl → R D) : SF := fun σ => rS (fe σ) σ fun y => rS ((getS σ i).bind dctOf) σ fun kvs => rS (fk σ) σ fun x => rS (keyIn x kvs) σ fun k =>
  if clean y = true ∧ kvs.length < sizeLine then .nx (σ.set i (some (.dct true (dput kvs k y)))) else .bad
theorem rep_ownD {Z : Addr → Prop} {H : Hp} {xs : List (NestedKey × D)} {v : V} {fp : List Addr} (r : Rep g Z H (.dct true xs) v fp) : ∃ l, v = .ref l ∧ fp = [l] := by
  cases r with
  | dK h e hs w =>
    rcases w with ⟨_, e⟩ | ⟨e, _⟩
    · exact ⟨_, rfl, e⟩
    · cases e
  | dN h e ne hk hs w =>
    rcases w with ⟨_, e⟩ | ⟨e, _⟩
    · exact ⟨_, rfl, e⟩
    · cases e
theorem dctOf_err {r : R D} {c : Nat} {fs : List D} (h : r ≠ .err c fs) : r.bind dctOf ≠ .err c fs := fun e => by
  cases r with
  | ok d =>
    cases d with
    | dct o xs => cases o <;> cases e
    | _ => cases e
  | err c' fs' => exact h (by cases e; rfl)
  | bad => cases e
theorem dctOf_ok {r : R D} {xs : List (NestedKey × D)} (h : r.bind dctOf = .ok xs) : r = .ok (.dct true xs) := by
  cases r with
  | ok d =>
    cases d with
    | dct o ys => cases o <;> cases h; rfl
    | _ => cases h
  | err c' fs' => cases h
  | bad => cases h
variable {e k : Expr} {fe fk : Sl → R D} {i : Nat} {x : Str} {p pos spos : Pos} {b b' : Bool}
theorem ss_putK (G : Gof g X) (hu : X.A.units + 70 < cLine) (hN : X.N[i]? = some x) (hv : Vis X.env.scope x) (hd : (x == ("__debug__" : Str)) = false) (hcd : (x == ("__classdict__" : Str)) = false) (he : PE X e (tI g W b fe)) (hk : PE X k (tI g W b' fk))
    (ha : ∀ v, assign (.Subscript (.Name x p) k pos) X.env v = (do
      let ov ← holding [v] (eval (.Name x p) X.env)
      let iv ← holding [v, ov] (eval k X.env)
      standAt pos
      holding [v, ov, iv] (setItem ov iv v)
      release [v, ov, iv] []))
    (hs : swapsWithSole [.Subscript (.Name x p) k pos] e spos.line X.env = pure false) (hw : swappedStores [.Subscript (.Name x p) k pos] e X.env = pure none) (h1 : (assignEach [.Subscript (.Name x p) k pos] X.env).map (·.2) = [assign (.Subscript (.Name x p) k pos) X.env]) :
    PS X (.Assign [.Subscript (.Name x p) k pos] e spos) (tS g W (sPutK i fk fe)) := (ps_asg he (pg_sub (pe_var hN hv hd hcd) hk (set_D G hu) ha) hs hw h1).imp fun E σ H q => by
  obtain ⟨H0, Z0, Z, fps, σl, ss, o⟩ := q
  refine ⟨H0, Z, fps, σl, ss.sr, (OutS.rS ss o).imp fun y o vy H1 Z1 fy p1 => ?_⟩
  have ss1 := ss.step p1.same p1.zx
  have o := o.pre (.of_zx p1.same p1.zx)
  obtain ⟨kvs, e0, o⟩ := (OutS.rS ss1 o).okOf fun c fs => dctOf_err getS_err
  obtain ⟨v, fp, e1, e2, rp⟩ := ss1.sr.slot i _ (getS_ok (dctOf_ok e0))
  obtain ⟨l, rfl, rfl⟩ := rep_ownD rp
  refine ⟨.ref l, e1, H0, Z1, fps, σl, ss1.sr, (OutS.rS ss1 o).imp fun kd o vk H2 Z2 fk' p2 => ?_⟩
  have ss2 := ss1.step p2.same p2.zx
  have o := o.pre (.of_zx p2.same p2.zx)
  obtain ⟨kk, ekk, o⟩ := (OutS.rS ss2 o).okOf keyIn_err
  obtain ⟨⟨hc, hl⟩, o⟩ := OutS.guard o
  have own := ss2.sr.own l (mem_at e2 l List.mem_cons_self)
  have ap := mem_apart ss.sr.nd e2 l List.mem_cons_self
  refine ⟨Z2, kd, y, kvs, kk, [l], fk', l, rfl, ss2.sr.z, own.1, rp.same p2.zx.le p2.same, p2.rep, (p1.rep.to0 hc).same p2.zx.le p2.same, ekk, hl, fun u ow rep2 => ?_⟩
  have r2 := ss2.sr.put (i := i) (same_updO ss2.sr.same own.2.1) (fun _ z => z) (fun a z => upd_some (ss2.sr.z a z)) (kp_upd ow own.1 ap) (fun a ha => (ss2.sr.own a (mem_set0 ha)).1) rep2 (by simp)
    (fun a ha => by rw [List.mem_singleton.mp ha]; exact ⟨ap, own.1, own.2.1⟩)
  rw [set_self e1] at r2
  exact o σ _ Z2 _ ⟨r2, ss2.z0, ss2.zn, ss2.gh.ev (.upd ow own.1)⟩ (.upd ow own.1)
def dispD (k v : D) : R D :=
  match key k with
  | some q => if leafD k = true ∧ clean v = true then .ok (.dct true [(q, v)]) else .bad
  | none => .bad
end
def startL (n : Nat) (ds : List D) : Sl := ds.map some ++ List.replicate (n - ds.length) none
def resR : RS → R D
  | .rt d => .ok d
  | .nx _ => .ok .non
  | .er c fs _ => .err c fs
  | _ => .bad
def runF (n : Nat) (f : SF) (ds : List D) : R D := resR (f (startL n ds))
theorem reps_nil_get {g : Gv} {Z : Addr → Prop} {H : Hp} {xs : List D} {vs : List V} (r : Reps g Z H xs vs []) {i : Nat} {d : D} (e : xs[i]? = some d) : ∃ v, vs[i]? = some v ∧ Rep g Z H d v [] := by
  obtain ⟨u, f, e1, rr, hf, _⟩ := r.get i d e
  have ef : f = [] := List.eq_nil_iff_forall_not_mem.mpr fun a ha => nomatch hf a ha
  subst ef
  exact ⟨u, e1, rr⟩
theorem start_sr {g : Gv} {Z : Addr → Prop} {H : Hp} {ds : List D} {vs : List V} (N : List Str) (hz : ∀ a, Z a → H a ≠ none) (rs : Reps g Z H ds vs []) : SR g H Z (List.replicate (L2.start N vs).length []) (startL N.length ds) (L2.start N vs) H where
  len := by unfold startL L2.start; rw [List.length_append, List.length_append, List.length_map, List.length_map, List.length_replicate, List.length_replicate, rs.length]
  lenf := List.length_replicate
  slot i d e := by
    unfold startL at e
    have hi : i < ds.length := by
      refine Nat.lt_of_not_le fun h => ?_
      rw [List.getElem?_append_right (by rw [List.length_map]; exact h), List.getElem?_replicate] at e
      split at e <;> cases e
    rw [List.getElem?_append_left (by rw [List.length_map]; exact hi), List.getElem?_map, List.getElem?_eq_getElem hi] at e
    cases e
    obtain ⟨v, e1, rv⟩ := reps_nil_get rs (List.getElem?_eq_getElem hi)
    have hi2 : i < vs.length := by rw [← rs.length]; exact hi
    have e2 : (L2.start N vs)[i]? = some (some v) := by
      unfold L2.start
      rw [List.getElem?_append_left (by rw [List.length_map]; exact hi2), List.getElem?_map, e1]; rfl
    exact ⟨v, [], e2, by rw [List.getElem?_replicate, if_pos (lt_of_get e2)], rv⟩
  gone i e := by
    have hi := lt_of_get e
    have hl : (startL N.length ds).length = (L2.start N vs).length := by unfold startL L2.start; rw [List.length_append, List.length_append, List.length_map, List.length_map, List.length_replicate, List.length_replicate, rs.length]
    rw [List.getElem?_replicate, if_pos (by rw [← hl]; exact hi)]
  nd := by rw [List.flatten_replicate_nil]; exact List.nodup_nil
  own a ha := by rw [List.flatten_replicate_nil] at ha; exact nomatch ha
  z := hz
  same := same_refl H
section
variable {P : Program} {w : World} {K : PySem.W.Frag} {mg : Str → Option Value} {base : Heap}
theorem gh_none {g : Gv} {H0 H : Hp} {Z : Addr → Prop} {σ : L2.St} (hpn : g.pin = none) (htb : g.tab = none) : Gh g H0 Z σ H := ⟨fun a e => (by rw [hpn] at e; cases e), fun p e => (by rw [htb] at e; cases e), fun p e => (by rw [htb] at e; cases e)⟩
theorem di_fn {x qual : Str} {st : Stmt} {f : Addr} {fd : FuncData} {N ps : List Str} {k : Nat} (g : Gv) (F : Fun K x qual st f fd) (S : FnScope N ps (defScope st)) (n : Nat) (hn : n = ps.length) (m : Nat) (hm : m = N.length) (b : SF) (hpn : g.pin = none) (htb : g.tab = none)
    (hb : ∀ (cdv : Value) (A : Around) (outer : List Env) (s : Shared) (H : Hp) (E : XK), Room k (A.deeper (envOfC qual (defScope st) s.heap.objs.size f cdv)) →
      Takes (cxOf (L2.CX P w) P w K mg base N qual (defScope st) f cdv A outer s H E) (fun cls d _ H => E cls d H) →
      PassesOwn (model P w) (cxOf (L2.CX P w) P w K mg base N qual (defScope st) f cdv A outer s H E).A (cxOf (L2.CX P w) P w K mg base N qual (defScope st) f cdv A outer s H E).env (cxOf (L2.CX P w) P w K mg base N qual (defScope st) f cdv A outer s H E).xe →
      PSs (cxOf (L2.CX P w) P w K mg base N qual (defScope st) f cdv A outer s H E) (defBody st) (tS g (fun cls d _ H => E cls d H) b)) : FnOk P w K mg base (L2.CX P w) (k + 1) f fd ps (spI g n (runF m b)) := by
  subst hn hm
  refine F.okX S (fun vs H Q E h => ?_) fun cdv A outer s H vs Q E hr h => ?_
  · obtain ⟨Z, ds, hz, rs, hl, _⟩ := h
    rw [← rs.length, hl]
  · obtain ⟨Z, ds, hz, rs, hl, o⟩ := h
    refine ⟨_, hb cdv A outer s H E hr (takes_of rfl rfl rfl rfl) (passes_of rfl), H, Z, Z, _, startL N.length ds, ⟨start_sr N hz rs, fun _ z => z, fun _ z => .inl z, gh_none hpn htb⟩, ?_⟩
    unfold runF at o
    cases hb : b (startL N.length ds) with
    | nx σl =>
      rw [hb] at o
      exact fun σ' H' Z' fps' ss e => o .non H' Z' [] ⟨ss.sr.same, ⟨ss.z0, ss.zn, ss.sr.z⟩, .non, fun _ => ⟨List.nodup_nil, fun _ h => nomatch h⟩⟩
    | rt d => rw [hb] at o; exact .of hpn fun v H' Z' fp p _ => o v H' Z' fp p
    | er c fs σl =>
      rw [hb] at o
      exact fun σ' H' Z' fps' cls d ss e ex => o H' Z' cls d ss.sr.same ⟨ss.z0, ss.zn, ss.sr.z⟩ ex
    | bk σl => rw [hb] at o; exact o.elim
    | ct σl => rw [hb] at o; exact o.elim
    | bad => rw [hb] at o; exact o.elim
end
end DI
namespace DI
open PySem PySem.Spec PyProof.Rows L2
def eV (i : Nat) : Sl → R D := fun σ => getS σ i
def eK (d : D) : Sl → R D := fun _ => .ok d
def eO (f : Sl → R D) : Sl → R D := fun σ => (f σ).bind fun d => if clean d = true then .ok d else .bad
def eNeg (f : Sl → R D) : Sl → R D := fun σ => (f σ).bind fun x => (intOf x).bind fun i => .ok (.int (-i))
def eNot (f : Sl → R D) : Sl → R D := fun σ => (f σ).bind fun x => (boolOf x).bind fun i => .ok (.bl (!i))
noncomputable def eB (o : Bop) (f k : Sl → R D) : Sl → R D := fun σ => (f σ).bind fun x => (k σ).bind fun y => binD o x y
def eC (o : Cop) (f k : Sl → R D) : Sl → R D := fun σ => (f σ).bind fun x => (k σ).bind fun y => blR (cmpD o x y)
def eCC (o o' : Cop) (f k l : Sl → R D) : Sl → R D := fun σ => (f σ).bind fun x => (k σ).bind fun y => (cmpD o x y).bind fun r => if r = true then (l σ).bind fun z => (cmpD o' y z).bind fun r => .ok (.bl r) else .ok (.bl false)
def eAnd (f k : Sl → R D) : Sl → R D := fun σ => (f σ).bind fun x => (boolOf x).bind fun r => if r = true then (k σ).bind fun y => (boolOf y).bind fun r => .ok (.bl r) else .ok (.bl false)
def eOr (f k : Sl → R D) : Sl → R D := fun σ => (f σ).bind fun x => (boolOf x).bind fun r => if r = true then .ok (.bl true) else (k σ).bind fun y => (boolOf y).bind fun r => .ok (.bl r)
def eIf (c f k : Sl → R D) : Sl → R D := fun σ => (c σ).bind fun x => (boolOf x).bind fun r => if r = true then f σ else k σ
def eIx (f k : Sl → R D) : Sl → R D := fun σ => (f σ).bind fun x => (k σ).bind fun y => idxD x y
def aN : Sl → R D := fun _ => .ok (.tup [])
def aC (f k : Sl → R D) : Sl → R D := fun σ => (f σ).bind fun x => (k σ).bind fun r => (tupOf r).bind fun xs => .ok (.tup (x :: xs))
def eTup (f : Sl → R D) : Sl → R D := fun σ => (f σ).bind fun r => (tupOf r).bind fun xs => if xs.length ≤ sizeLine then .ok (.tup xs) else .bad
def eLst (f : Sl → R D) : Sl → R D := fun σ => (f σ).bind fun r => (tupOf r).bind fun xs => if xs.length ≤ sizeLine then .ok (.lst true xs) else .bad
def eD0 : Sl → R D := fun _ => .ok (.dct true [])
def eD1 (f k : Sl → R D) : Sl → R D := fun σ => (f σ).bind fun x => (k σ).bind fun y => dispD x y
def eSl (f : Sl → R D) (nb : Bool) (k : Sl → R D) (nc : Bool) (l : Sl → R D) : Sl → R D := fun σ => (f σ).bind fun x => (k σ).bind fun l' => (partD (if nb = true then none else some l')).bind fun l' => (l σ).bind fun h => (partD (if nc = true then none else some h)).bind fun h => slD x l' h
def eBi (b : Bi) (f : Sl → R D) : Sl → R D := fun σ => (f σ).bind fun r => (tupOf r).bind fun ds => biD b ds
def eF (h : List D → R D) (f : Sl → R D) : Sl → R D := fun σ => (f σ).bind fun r => (tupOf r).bind fun ds => (h (frzL ds)).bind fun d => if (cleanL ds || noFrz d) = true then .ok d else .bad
def eMt (m : Mt) (f k : Sl → R D) : Sl → R D := fun σ => (f σ).bind fun x => if recvOk m x = true then (k σ).bind fun r => (tupOf r).bind fun ds => mtD m x ds else .bad
def iSeq' (f : Sl → R D) : Sl → R (List D) := fun σ => (f σ).bind itemsD
def iEn (f : Sl → R D) : Sl → R (List D) := fun σ => (f σ).bind fun r => (tupOf r).bind enumD
noncomputable def iR1 (f : Sl → R D) : Sl → R (List D) := fun σ => (f σ).bind fun r => (tupOf r).bind rng1D
noncomputable def iR2 (f : Sl → R D) : Sl → R (List D) := fun σ => (f σ).bind fun r => (tupOf r).bind rng2D
def iZ (f : Sl → R D) : Sl → R (List D) := fun σ => (f σ).bind fun r => (tupOf r).bind zipD
def eT : Sl → R D := fun _ => .ok (.bl true)
section
variable {X : Cx} {g : Gv} {W : L2.WX} {a b c e tg : Expr} {es : List Expr} {f k l fc fe : Sl → R D} {x y z : Bool} {pos p : Pos} {n : Str}
theorem z_v (i : Nat) (hN : X.N[i]? = some n := by rfl) (hv : Vis X.env.scope n := by first | exact Or.inl rfl | exact Or.inr (Or.inl rfl) | exact Or.inr (Or.inr rfl)) (hd : (n == ("__debug__" : Str)) = false := by decide) (hcd : (n == ("__classdict__" : Str)) = false := by decide) :
    PE X (.Name n pos) (tI g W false (eV i)) := se_var hN hv hd hcd
theorem z_o (h : PE X e (tI g W x f)) : PE X e (tI g W true (eO f)) := h.imp fun σ H Q q => by
  obtain ⟨H0, Z, fps, σl, sr, o⟩ := q
  refine ⟨H0, Z, fps, σl, sr, o.bind.imp fun d o v H' Z' fp p => ?_⟩
  obtain ⟨hc, o⟩ := Out.guard o
  exact o v H' Z' [] ⟨p.same, p.zx, p.rep.to0 hc, fun _ => ⟨List.nodup_nil, fun _ h => nomatch h⟩⟩
theorem z_i {i j} : PE X (.Constant (.int i) j pos) (tI g W true (eK (.int i))) := se_con pe_int fun _ _ => .int _
theorem z_s {i j} : PE X (.Constant (.str i) j pos) (tI g W true (eK (.str i))) := se_con pe_str fun _ _ => .str _
theorem z_b {i j} : PE X (.Constant (.bool i) j pos) (tI g W true (eK (.bl i))) := se_con pe_bl fun _ _ => .bl _
theorem z_non {j} : PE X (.Constant .none j pos) (tI g W true (eK .non)) := se_con pe_non fun _ _ => .non
theorem z_gs {s : Str} {t : Tok} (hm : X.mg n = some (.str s t)) (hg : Gl X n := by rfl) (hd : (n == ("__debug__" : Str)) = false := by decide) : PE X (.Name n pos) (tI g W true (eK (.str s))) := se_con (pe_glob (v := .str s) hg hm ⟨t, rfl⟩ hd) fun _ _ => .str _
theorem z_gi {s : Int} {t : Tok} (hm : X.mg n = some (.int s t)) (hg : Gl X n := by rfl) (hd : (n == ("__debug__" : Str)) = false := by decide) : PE X (.Name n pos) (tI g W true (eK (.int s))) := se_con (pe_glob (v := .int s) hg hm ⟨t, rfl⟩ hd) fun _ _ => .int _
theorem z_neg (h : PE X a (tI g W x f)) : PE X (.UnaryOp .USub a pos) (tI g W true (eNeg f)) := se_neg h
theorem z_not (h : PE X a (tI g W x f)) : PE X (.UnaryOp .Not a pos) (tI g W true (eNot f)) := se_not h
theorem z_add (G : Gof g X) (h : PE X a (tI g W x f)) (h' : PE X b (tI g W y k)) : PE X (.BinOp a .Add b pos) (tI g W true (eB .add f k)) := se_bin opr_add (by rw [G.K]; exact opd_add) h h'
theorem z_sub (h : PE X a (tI g W x f)) (h' : PE X b (tI g W y k)) : PE X (.BinOp a .Sub b pos) (tI g W true (eB .sub f k)) := se_bin op_sub opd_sub h h'
theorem z_mul (h : PE X a (tI g W x f)) (h' : PE X b (tI g W y k)) : PE X (.BinOp a .Mult b pos) (tI g W true (eB .mul f k)) := se_bin opr_mul opd_mul h h'
theorem z_fdiv (h : PE X a (tI g W x f)) (h' : PE X b (tI g W y k)) : PE X (.BinOp a .FloorDiv b pos) (tI g W true (eB .fdiv f k)) := se_bin op_fdivW opd_fdiv h h'
theorem z_mod (h : PE X a (tI g W x f)) (h' : PE X b (tI g W y k)) : PE X (.BinOp a .Mod b pos) (tI g W true (eB .mod f k)) := se_bin op_mod opd_mod h h'
theorem z_lt (h : PE X a (tI g W x f)) (h' : PE X b (tI g W y k)) : PE X (.Compare a [.Lt] [b] pos) (tI g W true (eC .lt f k)) := se_cmp op_lt opd_lt h h' (nobehind b (by decide) (by decide))
theorem z_gt (h : PE X a (tI g W x f)) (h' : PE X b (tI g W y k)) : PE X (.Compare a [.Gt] [b] pos) (tI g W true (eC .gt f k)) := se_cmp op_gt opd_gt h h' (nobehind b (by decide) (by decide))
theorem z_eq (hu : X.A.units + 70 < cLine) (G : Gof g X) (h : PE X a (tI g W x f)) (h' : PE X b (tI g W y k)) : PE X (.Compare a [.Eq] [b] pos) (tI g W true (eC .eq f k)) := se_cmp (op_eqD (by omega)) (opd_eq G) h h' (nobehind b (by decide) (by decide))
theorem z_isn (h : PE X a (tI g W x f)) (h' : PE X b (tI g W y k)) : PE X (.Compare a [.Is] [b] pos) (tI g W true (eC .isN f k)) := se_cmp op_isN opd_isN h h' (nobehind b (by decide) (by decide))
theorem z_in (hu : X.A.units + 70 < cLine) (G : Gof g X) (h : PE X a (tI g W x f)) (h' : PE X b (tI g W y k)) (hm : behindInMarks .In b = false := by rfl) : PE X (.Compare a [.In] [b] pos) (tI g W true (eC .mem f k)) := se_cmp (opr_mem hu G) (opd_mem G) h h' hm
theorem z_and {rest : List Expr} (h : PE X a (tI g W x f)) (h' : PE X (.BoolOp .And (b :: rest) pos) (tI g W y k)) : PE X (.BoolOp .And (a :: b :: rest) pos) (tI g W false (eAnd f k)) := se_and h h'
theorem z_one {op} (h : PE X a (tI g W x f)) : PE X (.BoolOp op [a] pos) (tI g W x f) := pe_one h
theorem z_if (hc : PT X c (tIT g W fc)) (h : PE X a (tI g W x f)) (h' : PE X b (tI g W y k)) : PE X (.IfExp c a b pos) (tI g W (x && y) (eIf fc f k)) := se_ite hc h h'
theorem z_ix (hu : X.A.units + 70 < cLine) (G : Gof g X) (h : PE X a (tI g W x f)) (h' : PE X b (tI g W y k)) (hs : PlainIx b := by intro _ _; rfl) : PE X (.Subscript a b pos) (tI g W false (eIx f k)) := se_ix (ixr_all hu G) (opd_idx G) h h' hs
theorem z_sl {lo hi : Option Expr} {p2 : Pos} {nb nc : Bool} (G : Gof g X) (h : PE X a (tI g W x f)) (h' : PO X lo (tPO g W k nb)) (h3 : PO X hi (tPO g W l nc)) : PE X (.Subscript a (.Slice lo hi none p2) pos) (tI g W true (eSl f nb k nc l)) := se_sl G h h' h3
theorem z_pe (h : PE X a (tI g W x f)) : PO X (some a) (tPO g W f false) := po_e h
theorem z_pn : PO X none (tPO g W (eK .non) true) := po_n
theorem z_aN : PA X [] (tIA g W true aN) := sa_nil
theorem z_aC (h : PE X a (tI g W x f)) (h' : PA X es (tIA g W y k)) (hs : starEach (a :: es) X.env = (false, eval a X.env) :: starEach es X.env := by exact starE (by rfl)) : PA X (a :: es) (tIA g W false (aC f k)) := sa_cons h h' hs
theorem z_aO (h : PE X a (tI g W true f)) (h' : PA X es (tIA g W true k)) (hs : starEach (a :: es) X.env = (false, eval a X.env) :: starEach es X.env := by exact starE (by rfl)) : PA X (a :: es) (tIA g W true (aC f k)) := sa_ocons (r := false) (fun _ => rfl) h h' hs
theorem z_tup {j : Nat} (h : PA X es (tIA g W true f)) : PE X (.Tuple es j pos) (tI g W true (eTup f)) := se_tup h
theorem z_lst (h : PA X es (tIA g W true f)) : PE X (.List es pos) (tI g W true (eLst f)) := se_lst h
theorem z_d0 : PE X (.Dict [] [] pos) (tI g W true eD0) := se_dict0
theorem z_len (G : Gof g X) (ha : PA X (e :: es) (tIA g W x f)) (hm : X.mg "len" = none) (hg : Gl X "len" := by rfl) (he : starEach (e :: es) X.env = (false, eval e X.env) :: starEach es X.env := by exact starE (by rfl)) (hpl : (backTo pos (starEach es X.env)).any (·.1) = false := by rfl) :
    PE X (.Call (.Name "len" p) (e :: es) [] pos) (tI g W true (eBi .len f)) := se_callB cr_lenD (opc_len G) hg hm PySem.boot_len ha (by decide) (by decide) he hpl
theorem z_tuple (G : Gof g X) (ha : PA X (e :: es) (tIA g W x f)) (hm : X.mg "tuple" = none) (hg : Gl X "tuple" := by rfl) (he : starEach (e :: es) X.env = (false, eval e X.env) :: starEach es X.env := by exact starE (by rfl)) (hpl : (backTo pos (starEach es X.env)).any (·.1) = false := by rfl) :
    PE X (.Call (.Name "tuple" p) (e :: es) [] pos) (tI g W true (eBi .tuple f)) := se_callTy call_tuple_of (opc_tuple G) hg hm (by decide +kernel) ha (by decide) (by decide) he hpl
theorem z_int (ha : PA X (e :: es) (tIA g W x f)) (hm : X.mg "int" = none) (hg : Gl X "int" := by rfl) (he : starEach (e :: es) X.env = (false, eval e X.env) :: starEach es X.env := by exact starE (by rfl)) (hpl : (backTo pos (starEach es X.env)).any (·.1) = false := by rfl) :
    PE X (.Call (.Name "int" p) (e :: es) [] pos) (tI g W true (eBi .int f)) := se_callTy cr_intD opc_int hg hm (by decide +kernel) ha (by decide) (by decide) he hpl
theorem z_all (hc : X.calm = true) (G : Gof g X) (ha : PA X (e :: es) (tIA g W x f)) (hm : X.mg "all" = none) (hg : Gl X "all" := by rfl) (he : starEach (e :: es) X.env = (false, eval e X.env) :: starEach es X.env := by exact starE (by rfl)) (hpl : (backTo pos (starEach es X.env)).any (·.1) = false := by rfl) :
    PE X (.Call (.Name "all" p) (e :: es) [] pos) (tI g W true (eBi .all f)) := se_callB (cr_all hc) (opc_all G) hg hm (by decide +kernel) ha (by decide) (by decide) he hpl
def eIsi (t : Ty) (f : Sl → R D) : Sl → R D := fun σ => (f σ).bind fun d => blR (isTy t d)
theorem z_isi (G : Gof g X) (t : Ty) {p3 : Pos} (ha : PE X e (tI g W x f)) (hm : X.mg "isinstance" = none) (hm2 : X.mg n = none) (hb : bootBuiltins n = some (.type t.nm) := by decide +kernel) (hg : Gl X "isinstance" := by rfl) (hg2 : Gl X n := by rfl)
    (hn : n ≠ "__name__" := by decide) (hd : (n == ("__debug__" : Str)) = false := by decide)
    (he : starEach [e, .Name n p3] X.env = (false, eval e X.env) :: starEach [.Name n p3] X.env := by exact starE (by rfl)) (hpl : (backTo pos (starEach [.Name n p3] X.env)).any (·.1) = false := by rfl) :
    PE X (.Call (.Name "isinstance" p) [e, .Name n p3] [] pos) (tI g W true (eIsi t f)) :=
  (pe_callB call_isi hg hm (by decide +kernel) (pa_cons ha (pa_cons (pe_bltn hg2 hm2 hb (v := .ty t.nm) rfl hn hd) pa_nil) he) (by decide) (by decide) he hpl).imp fun σ H Q q => by
    obtain ⟨H0, Z, fps, σl, sr, o⟩ := q
    refine ⟨H0, Z, fps, σl, sr, o.bind.imp fun d o v H' Z' fp p => ?_⟩
    have rs : Reps g Z' H' [d] [v] (fp ++ []) := .cons p.rep .nil
    refine opc_isi (W := W) (t := t) G Z' σ H' [d] [v] _ Q p.zx.inn rs ?_
    exact o.step p.same p.zx fun d q v H2 Z2 fp2 p2 => q v H2 Z2 fp2 (p2.pre p.same p.zx)
theorem z_sindex (he : PE X a (tI g W x f)) (ha : PA X (e :: es) (tIA g W y k)) {ap : Pos}
    (hbase : attributeBase a "index" X.env (eval a X.env) = eval a X.env := by rfl)
    (hfew : ((backTo pos (starEach (e :: es) X.env)).all (fun x => !x.1) && (backToKw pos (keywordEach [] X.env)).all (fun x => x.1.isSome)
      && decide ((e :: es).length + ([] : List Keyword).length + (if ([] : List Keyword).isEmpty then 0 else 1) < 30)) = true := by rfl)
    (hline : (ap.endLine == pos.line) = true := by rfl) (hs : starEach (e :: es) X.env = (false, eval e X.env) :: starEach es X.env := by exact starE (by rfl)) (hplain : (backTo pos (starEach es X.env)).any (·.1) = false := by rfl) :
    PE X (.Call (.Attribute a "index" ap) (e :: es) [] pos) (tI g W true (eMt .strIndex f k)) := se_mt PySem.F.plainAttrs_str PySem.F.slot_str_index PySem.F.type_str_index mtr_strIndex (fun Z H d v f h r => by
      cases d <;> first | (obtain ⟨rfl, _⟩ := rep_str r; exact tyAt_str) | cases h) he ha hbase hfew hline hs hplain
theorem len_aN : ∀ (σ : Sl) (ds : List D), aN σ = .ok (.tup ds) → ds.length = 0 := fun σ ds h => by cases h; rfl
theorem len_aC {m : Nat} (h : ∀ (σ : Sl) (ds : List D), k σ = .ok (.tup ds) → ds.length = m) : ∀ (σ : Sl) (ds : List D), aC f k σ = .ok (.tup ds) → ds.length = m + 1 := fun σ ds q => by
  unfold aC at q
  obtain ⟨x, e1, q⟩ := R.bind_ok_inv q
  obtain ⟨r, e2, q⟩ := R.bind_ok_inv q
  obtain ⟨xs, e3, q⟩ := R.bind_ok_inv q
  cases q
  cases r with
  | tup ys => cases e3; rw [List.length_cons, h σ _ e2]
  | _ => cases e3
theorem i_seq (G : Gof g X) (h : PE X e (tI g W x f)) : PI X tg e (tIW g W x (iSeq' f)) := si_seq G h
theorem i_en (G : Gof g X) {elts : List Expr} {kk : Nat} {tpos : Pos} (ha : PA X [e] (tIA g W x f)) (hm : X.mg "enumerate" = none) (hg : Gl X "enumerate" := by rfl) (hs : starEach [e] X.env = [(false, eval e X.env)] := by exact starE (by rfl)) :
    PI X (.Tuple elts kk tpos) (.Call (.Name "enumerate" p) [e] [] pos) (tIW g W x (iEn f)) := si_enum G hg hm ha hs
theorem i_r1 (ha : PA X [e] (tIA g W x f)) (hm : X.mg "range" = none) (hg : Gl X "range" := by rfl) (hs : starEach [e] X.env = [(false, eval e X.env)] := by exact starE (by rfl)) : PI X tg (.Call (.Name "range" p) [e] [] pos) (tIW g W true (iR1 f)) := si_rng1 hg hm ha hs
theorem y_e (h : PE X e (tI g W x f)) (hw : ∀ whole, isTrue e X.env whole = (do let v ← whole; standAt e.pos; holding [v] (truthy v)) := by intro _; rfl) : PT X e (tIT g W f) := (pt_val h hw).imp fun _ _ _ q => tIT_tB q
theorem y_lt (h : PE X a (tI g W x f)) (h' : PE X b (tI g W y k)) : PT X (.Compare a [.Lt] [b] pos) (tIT g W (eC .lt f k)) := st_cmp op_lt opd_lt h h' (nobehind b (by decide) (by decide))
theorem y_le (h : PE X a (tI g W x f)) (h' : PE X b (tI g W y k)) : PT X (.Compare a [.LtE] [b] pos) (tIT g W (eC .le f k)) := st_cmp op_le opd_le h h' (nobehind b (by decide) (by decide))
theorem y_gt (h : PE X a (tI g W x f)) (h' : PE X b (tI g W y k)) : PT X (.Compare a [.Gt] [b] pos) (tIT g W (eC .gt f k)) := st_cmp op_gt opd_gt h h' (nobehind b (by decide) (by decide))
theorem y_ge (h : PE X a (tI g W x f)) (h' : PE X b (tI g W y k)) : PT X (.Compare a [.GtE] [b] pos) (tIT g W (eC .ge f k)) := st_cmp op_ge opd_ge h h' (nobehind b (by decide) (by decide))
theorem y_eq (hu : X.A.units + 70 < cLine) (G : Gof g X) (h : PE X a (tI g W x f)) (h' : PE X b (tI g W y k)) : PT X (.Compare a [.Eq] [b] pos) (tIT g W (eC .eq f k)) := st_cmp (op_eqD (by omega)) (opd_eq G) h h' (nobehind b (by decide) (by decide))
theorem y_ne (hu : X.A.units + 70 < cLine) (G : Gof g X) (h : PE X a (tI g W x f)) (h' : PE X b (tI g W y k)) : PT X (.Compare a [.NotEq] [b] pos) (tIT g W (eC .ne f k)) := st_cmp (op_neD (by omega)) (opd_ne G) h h' (nobehind b (by decide) (by decide))
theorem y_isn (h : PE X a (tI g W x f)) (h' : PE X b (tI g W y k)) : PT X (.Compare a [.Is] [b] pos) (tIT g W (eC .isN f k)) := st_cmp op_isN opd_isN h h' (nobehind b (by decide) (by decide))
theorem y_ntn (h : PE X a (tI g W x f)) (h' : PE X b (tI g W y k)) : PT X (.Compare a [.IsNot] [b] pos) (tIT g W (eC .notN f k)) := st_cmp op_notN opd_notN h h' (nobehind b (by decide) (by decide))
theorem y_in (hu : X.A.units + 70 < cLine) (G : Gof g X) (h : PE X a (tI g W x f)) (h' : PE X b (tI g W y k)) (hm : behindInMarks .In b = false := by rfl) : PT X (.Compare a [.In] [b] pos) (tIT g W (eC .mem f k)) := st_cmp (opr_mem hu G) (opd_mem G) h h' hm
theorem y_nin (hu : X.A.units + 70 < cLine) (G : Gof g X) (h : PE X a (tI g W x f)) (h' : PE X b (tI g W y k)) (hm : behindInMarks .NotIn b = false := by rfl) : PT X (.Compare a [.NotIn] [b] pos) (tIT g W (eC .nmem f k)) := st_cmp (opr_nmem hu G) (opd_nmem G) h h' hm
theorem y_lelt (h : PE X a (tI g W x f)) (h' : PE X b (tI g W y k)) (h3 : PE X c (tI g W z l)) (hm : lastMarks [.LtE, .Lt] [b, c] = false := by rfl) : PT X (.Compare a [.LtE, .Lt] [b, c] pos) (tIT g W (eCC .le .lt f k l)) := st_chn op_le op_lt opd_le opd_lt h h' h3 hm
theorem y_ltle (h : PE X a (tI g W x f)) (h' : PE X b (tI g W y k)) (h3 : PE X c (tI g W z l)) (hm : lastMarks [.Lt, .LtE] [b, c] = false := by rfl) : PT X (.Compare a [.Lt, .LtE] [b, c] pos) (tIT g W (eCC .lt .le f k l)) := st_chn op_lt op_le opd_lt opd_le h h' h3 hm
theorem y_not (h : PT X a (tIT g W f)) : PT X (.UnaryOp .Not a pos) (tIT g W (eNot f)) := st_not h
theorem w_and1 (h : PT X a (tIT g W f)) : PW X (.BoolOp .And [a] pos) (tIT g W f) := pw_and1 h
theorem w_or1 (h : PT X a (tIT g W f)) : PW X (.BoolOp .Or [a] pos) (tIT g W f) := pw_or1 h
theorem w_and {rest : List Expr} (h : PT X a (tIT g W f)) (h' : PW X (.BoolOp .And (b :: rest) pos) (tIT g W k)) : PW X (.BoolOp .And (a :: b :: rest) pos) (tIT g W (eAnd f k)) := sw_and h h'
theorem w_or {rest : List Expr} (h : PT X a (tIT g W f)) (h' : PW X (.BoolOp .Or (b :: rest) pos) (tIT g W k)) : PW X (.BoolOp .Or (a :: b :: rest) pos) (tIT g W (eOr f k)) := sw_or h h'
theorem y_w (h : PW X a (tIT g W f)) : PT X a (tIT g W f) := h.pt
end
end DI
namespace DI
open PySem PySem.Spec PyProof.Rows L2
section
variable {X : Cx} {g : Gv} {W : L2.WX} {a b c e tg : Expr} {es : List Expr} {f k l fc fe : Sl → R D} {sf sk : SF} {x y z : Bool} {pos p spos : Pos} {n : Str} {sts sts' : List Stmt}
theorem t_set (i : Nat) (nd : X.N.Nodup) (he : PE X e (tI g W true fe)) (hi : X.N[i]? = some n := by rfl) (hx : Loc X.env.scope n := by first | exact Or.inl rfl | exact Or.inr rfl) (hs : swapsWith e (some (.Name n p)) pos.line X.env = pure false := by rfl)
    (hf : X.fn n = true ∨ X.env.scope.names.lookup n = some .local := by first | exact Or.inl rfl | exact Or.inr rfl) (np : Np g i := by first | exact Or.inl rfl | exact Or.inr (by decide)) : PS X (.Assign [.Name n p] e pos) (tS g W (sSet i fe)) := ss_set nd hi hx he hs hf np
theorem g_one (i : Nat) (nd : X.N.Nodup) (hi : X.N[i]? = some n := by rfl) (hx : Loc X.env.scope n := by first | exact Or.inl rfl | exact Or.inr rfl) (hf : X.fn n = true ∨ X.env.scope.names.lookup n = some .local := by first | exact Or.inl rfl | exact Or.inr rfl) : PG X (.Name n pos) (tG g (.one i)) := sg_one nd hi hx hf
theorem g_nil : PGs X [] (tGs g []) := sgs_nil
theorem g_cons {i : Nat} {is : List Nat} (h1 : PG X e (tG g (.one i))) (h2 : PGs X es (tGs g is)) (hs : (assignEach (e :: es) X.env).map (·.2) = assign e X.env :: (assignEach es X.env).map (·.2) := by rfl) : PGs X (e :: es) (tGs g (i :: is)) := sgs_cons h1 h2 hs
theorem g_many {kk : Nat} {is : List Nat} (G : Gof g X) (h : PGs X es (tGs g is)) (hc : X.calm = true := by rfl) (hn : (assignEach es X.env).length = is.length := by rfl) (hst : (assignEach es X.env).findIdx? (·.1) = none := by rfl) : PG X (.Tuple es kk pos) (tG g (.many is)) := sg_many G hc h hn hst
theorem t_unp {p : Pat} (he : PE X e (tI g W x fe)) (hg : PG X tg (tG g p)) (hs : swapsWithSole [tg] e pos.line X.env = pure false := by rfl) (hw : swappedStores [tg] e X.env = pure none := by rfl) (h1 : (assignEach [tg] X.env).map (·.2) = [assign tg X.env] := by rfl) (np : NpL g (psl p) := by first | exact Or.inl rfl | exact Or.inr (by decide)) :
    PS X (.Assign [tg] e pos) (tS g W (sUnp p fe)) := ss_unp he hg hs hw h1 np
theorem t_if (hc : PT X c (tIT g W fc)) (ha : PSs X sts (tS g W sf)) (hb : PSs X sts' (tS g W sk)) : PS X (.If c sts sts' pos) (tS g W (sIf fc sf sk)) := ss_if hc ha hb
theorem t_whl (hp : PassesOwn (model X.prog X.w) X.A X.env X.xe) (hc : PT X c (tIT g W fc)) (hb : PSs X sts (tS g W sf)) : PS X (.While c sts [] pos) (tS g W (sWhl fc sf)) := ss_while hp hc hb
theorem t_for {iter : Expr} {p : Pat} {fi : Sl → R (List D)} (hp : PassesOwn (model X.prog X.w) X.A X.env X.xe) (hi : PI X tg iter (tIW g W true fi)) (hg : PG X tg (tG g p)) (hb : PSs X sts (tS g W sf)) (hc : X.calm = true := by rfl)
    (hs : ∀ x, foldedSetIterable iter X.env x = pure x := by intro _; rfl) (np : NpL g (psl p) := by first | exact Or.inl rfl | exact Or.inr (by decide)) : PS X (.For tg iter sts [] pos) (tS g W (sFor p fi sf)) := ss_for hp hc hi hg hb hs np
theorem t_ret (he : PE X e (tI g W true fe)) (hpn : g.pin = none := by rfl) : PS X (.Return (some e) pos) (tS g W (sRet fe)) := ss_ret he hpn
theorem t_retV (i : Nat) (hN : X.N[i]? = some n := by rfl) (hv : Vis X.env.scope n := by first | exact Or.inl rfl | exact Or.inr (Or.inl rfl) | exact Or.inr (Or.inr rfl)) (hd : (n == ("__debug__" : Str)) = false := by decide) (hcd : (n == ("__classdict__" : Str)) = false := by decide) (hpn : g.pin = none := by rfl) :
    PS X (.Return (some (.Name n p)) pos) (tS g W (sRetV i)) := ss_retV hN hv hd hcd hpn
theorem t_app (i : Nat) (G : Gof g X) (he : PE X e (tI g W true fe)) {apos cpos : Pos} (hN : X.N[i]? = some n := by rfl) (hv : Vis X.env.scope n := by first | exact Or.inl rfl | exact Or.inr (Or.inl rfl) | exact Or.inr (Or.inr rfl)) (hd : (n == ("__debug__" : Str)) = false := by decide) (hcd : (n == ("__classdict__" : Str)) = false := by decide)
    (hst : starEach [e] X.env = (false, eval e X.env) :: starEach [] X.env := by exact starE (by rfl))
    (hbase : attributeBase (.Name n p) "append" X.env (eval (.Name n p) X.env) = eval (.Name n p) X.env := by rfl)
    (hfew : ((backTo cpos (starEach [e] X.env)).all (fun x => !x.1) && (backToKw cpos (keywordEach [] X.env)).all (fun x => x.1.isSome)
      && decide ([e].length + ([] : List Keyword).length + (if ([] : List Keyword).isEmpty then 0 else 1) < 30)) = true := by rfl)
    (hline : (apos.endLine == cpos.line) = true := by rfl) (hplain : (backTo cpos (starEach [] X.env)).any (·.1) = false := by rfl)
    (hs : swapsWith (.Call (.Attribute (.Name n p) "append" apos) [e] [] cpos) none pos.line X.env = pure false := by rfl) :
    PS X (.Expr (.Call (.Attribute (.Name n p) "append" apos) [e] [] cpos) pos) (tS g W (sApp i fe)) := ss_app G hN hv hd hcd he hst hbase hfew hline hplain hs
theorem t_putk (i : Nat) (hu : X.A.units + 70 < cLine) (G : Gof g X) (he : PE X e (tI g W x fe)) (hk : PE X a (tI g W y k)) (hN : X.N[i]? = some n := by rfl) (hv : Vis X.env.scope n := by first | exact Or.inl rfl | exact Or.inr (Or.inl rfl) | exact Or.inr (Or.inr rfl)) (hd : (n == ("__debug__" : Str)) = false := by decide) (hcd : (n == ("__classdict__" : Str)) = false := by decide)
    (ha : ∀ v, assign (.Subscript (.Name n p) a pos) X.env v = (do
      let ov ← holding [v] (eval (.Name n p) X.env)
      let iv ← holding [v, ov] (eval a X.env)
      standAt pos
      holding [v, ov, iv] (setItem ov iv v)
      release [v, ov, iv] []) := by intro _; rfl)
    (hs : swapsWithSole [.Subscript (.Name n p) a pos] e spos.line X.env = pure false := by rfl) (hw : swappedStores [.Subscript (.Name n p) a pos] e X.env = pure none := by rfl) (h1 : (assignEach [.Subscript (.Name n p) a pos] X.env).map (·.2) = [assign (.Subscript (.Name n p) a pos) X.env] := by rfl) :
    PS X (.Assign [.Subscript (.Name n p) a pos] e spos) (tS g W (sPutK i k fe)) := ss_putK G hu hN hv hd hcd he hk ha hs hw h1
theorem z_comp {elt iter : Expr} {ifs : List Expr} {scope : Scope} {wi : Sl → R (List D)} {p : Pat} (own : List (Str × Nat)) (nd : X.N.Nodup) (hi : PI X tg iter (tIW g W x wi))
    (hg : ∀ (s : Shared) (H : Hp) (C : Addr) (cl : List (Str × Addr)) (fp : List Addr), PG (X.blk s H scope (compEnvC scope cl C X.env) fp) tg (tG g p)) (ht : ∀ (s : Shared) (H : Hp) (C : Addr) (cl : List (Str × Addr)) (fp : List Addr), PTs (X.blk s H scope (compEnvC scope cl C X.env) fp) ifs (tIT g WF fc))
    (he : ∀ (s : Shared) (H : Hp) (C : Addr) (cl : List (Str × Addr)) (fp : List Addr), PE (X.blk s H scope (compEnvC scope cl C X.env) fp) elt (tI g WF true fe))
    (ok : blkC X.N X.env.scope scope own = true := by first | rfl | kernel_rfl) (hp : ∀ j ∈ psl p, j ∈ own.map (·.2) := by decide) (hc : X.calm = true := by rfl) (hs : ∀ x, foldedSetIterable iter X.env x = pure x := by intro _; rfl) :
    PE X (.ListComp elt [⟨tg, iter, ifs, 0⟩] scope pos) (tI g W true (eComp (own.map (·.2)) p wi fc fe)) := se_comp hc nd ok hp hi hg ht he hs
theorem t_lc (i : Nat) {py : Pos} {elt iter : Expr} {ifs : List Expr} {scope : Scope} {wi : Sl → R (List D)} {p : Pat} (own : List (Str × Nat)) (nd : X.N.Nodup) (hi : PI X tg iter (tIW g W x wi))
    (hg : ∀ (s : Shared) (H : Hp) (C : Addr) (cl : List (Str × Addr)) (fp : List Addr), PG (X.blk s H scope (compEnvC scope cl C X.env) fp) tg (tG g p)) (ht : ∀ (s : Shared) (H : Hp) (C : Addr) (cl : List (Str × Addr)) (fp : List Addr), PTs (X.blk s H scope (compEnvC scope cl C X.env) fp) ifs (tIT g WF fc))
    (he : ∀ (s : Shared) (H : Hp) (C : Addr) (cl : List (Str × Addr)) (fp : List Addr), PE (X.blk s H scope (compEnvC scope cl C X.env) fp) elt (tI g WF true fe))
    (hy : X.N[i]? = some n := by rfl) (hyl : X.env.scope.names.lookup n = some .local := by rfl)
    (hsw : swapsWith (.ListComp elt [⟨tg, iter, ifs, 0⟩] scope pos) (some (.Name n py)) spos.line X.env = pure true := by exact sw_true rfl rfl rfl rfl)
    (ok : blkC X.N X.env.scope scope own = true := by first | rfl | kernel_rfl) (hp : ∀ j ∈ psl p, j ∈ own.map (·.2) := by decide) (hc : X.calm = true := by rfl) (hs : ∀ x, foldedSetIterable iter X.env x = pure x := by intro _; rfl) (np : Np g i := by first | exact Or.inl rfl | exact Or.inr (by decide)) :
    PS X (.Assign [.Name n py] (.ListComp elt [⟨tg, iter, ifs, 0⟩] scope pos) spos) (tS g W (sSet i (eComp (own.map (·.2)) p wi fc fe))) := ss_setLc hc nd hy hyl hsw ok hp hi hg ht he hs np
end
theorem hu70 {A : Around} {k : Nat} (hr : Room k A) : A.units + 70 < cLine := Nat.lt_of_le_of_lt (by omega) hr.un
def DefOk (P : Program) (w : World) (K : PySem.W.Frag) (mg : Str → Option Value) (base : Heap) (g : Gv) (k : Nat) (n : Str) (ps : List Str) (m : Nat) (h : List D → R D) : Prop :=
  ∃ f fd, mg n = some (.ref f) ∧ PySem.W.keepIn K (.ref f) = true ∧ Binds K fd ps [] ∧ FnOk P w K mg base (L2.CX P w) k f fd ps (spI g m h)
def TxD (K : PySem.W.Frag) (mg : Str → Option Value) (n : Str) (st : Stmt) (ps : List Str) : Prop := ∃ f fd, Fun K n n st f fd ∧ mg n = some (.ref f) ∧ Binds K fd ps []
theorem z_call' {X : Cx} {g : Gv} {W : L2.WX} {e : Expr} {es : List Expr} {f : Sl → R D} {x : Bool} {pos p : Pos} {n : Str} {j m : Nat} {ps : List Str} {h : List D → R D} (F : DefOk X.prog X.w X.K X.mg X.base g j n ps m h) (hr : Room j X.A) (tk : Takes X W) (ha : PA X (e :: es) (tIA g W x f)) (hlen : ∀ σ ds, f σ = .ok (.tup ds) → ds.length = m)
    (hg : Gl X n := by rfl) (hdb : (n == ("__debug__" : Str)) = false := by decide) (he : starEach (e :: es) X.env = (false, eval e X.env) :: starEach es X.env := by exact starE (by rfl)) (hpl : (backTo pos (starEach es X.env)).any (·.1) = false := by rfl) :
    PE X (.Call (.Name n p) (e :: es) [] pos) (tI g W true (eF h f)) := by
  obtain ⟨fn, fd, hm, hk, hb, F⟩ := F
  exact se_call F hr hg hm hk hb tk ha hlen hdb he hpl
section
variable {P : Program} {w : World} {K : PySem.W.Frag} {mg : Str → Option Value} {base : Heap}
theorem di_def {n : Str} {st : Stmt} {N ps : List Str} {k : Nat} (g : Gv) (T : TxD K mg n st ps) (S : FnScope N ps (defScope st)) (r : Nat) (hn : r = ps.length) (m : Nat) (hm : m = N.length) (b : SF)
    (hb : ∀ (f : Addr) (cdv : Value) (A : Around) (outer : List Env) (s : Shared) (H : Hp) (E : XK), Room k (A.deeper (envOfC n (defScope st) s.heap.objs.size f cdv)) →
      Takes (cxOf (L2.CX P w) P w K mg base N n (defScope st) f cdv A outer s H E) (fun cls d _ H => E cls d H) →
      PassesOwn (model P w) (cxOf (L2.CX P w) P w K mg base N n (defScope st) f cdv A outer s H E).A (cxOf (L2.CX P w) P w K mg base N n (defScope st) f cdv A outer s H E).env (cxOf (L2.CX P w) P w K mg base N n (defScope st) f cdv A outer s H E).xe →
      PSs (cxOf (L2.CX P w) P w K mg base N n (defScope st) f cdv A outer s H E) (defBody st) (tS g (fun cls d _ H => E cls d H) b)) (hpn : g.pin = none := by rfl) (htb : g.tab = none := by rfl) : DefOk P w K mg base g (k + 1) n ps r (runF m b) := by
  obtain ⟨f, fd, F, hg, hbd⟩ := T
  exact ⟨f, fd, hg, F.kp, hbd, di_fn g F S r hn m hm b hpn htb (hb f)⟩
theorem txd_mk {n : Str} {st : Stmt} {ps : List Str} {h : Heap} {f : Addr} {oc : Value} {od an : Option Addr} {osl : Array (Option Value)} {kV doc pm cdv ct : Value} (X : K.In h) (G : h.Ns mainGlobals mg) (a : PySem.W.nsIn K mainGlobals n = some (some (.ref f)))
    (l : K.lookup f = some ⟨oc, od, .func (PySem.W.fnOf n n (defArgs st) (defBody st) (defScope st) .none kV doc pm an cdv ct), osl⟩) (c : PySem.W.codeIn K cdv n = true) (k : PySem.W.keepIn K (.ref f) = true)
    (hb : ∀ (kV doc pm : Value) (an : Option Addr) (cdv ct : Value) (us : List Value), us.length = ps.length → bindArgs (PySem.W.fnOf n n (defArgs st) (defBody st) (defScope st) .none kV doc pm an cdv ct) ⟨us, []⟩ = pure (ps.zip us)) : TxD K mg n st ps :=
  ⟨f, _, fun_mk l c k, PySem.W.mg_of X G a, (fun_mk l c k).binds hb⟩
end
theorem cx_none {P : Program} {w : World} {H : Hp} {s : Shared} {e : Value} {s' : Shared} (h : L2.CX P w [] H s (fun _ _ _ => False) e s') : False := by
  obtain ⟨_, _, _, _, _, _, _, _, _, _, _, _, z⟩ := h
  exact z
end DI
namespace DI
open PySem PySem.Spec PyProof.Rows L2
def oexIn (K : PySem.W.Frag) (C : Addr) : Bool := match K.lookup C with
  | some ⟨.type "type", _, .cls cd, sl⟩ => (match cd.mro, sl.toList with
    | .ref C' :: bm, [_, _, _, _, some (.builtin n), _] => C' == C && n == "ValueError.__new__" && !cd.hasDel && cd.hasDict && PySem.HandSPX.refsVE bm
    | _, _ => false)
  | _ => false
theorem oex_of {K : PySem.W.Frag} {C : Addr} (q : oexIn K C = true) : ∃ nm q N bs bm sn sub ab col dd k0 k1 k2 k3 k5, K.lookup C = some (excClassObj nm q C N bs bm true sn sub ab col dd k0 k1 k2 k3 k5 "ValueError.__new__") ∧ PySem.HandSPX.refsVE bm = true := by
  unfold oexIn at q
  split at q
  · rename_i dd cd sl ho
    split at q
    · rename_i C' bm k0 k1 k2 k3 n k5 hm hs
      simp only [Bool.and_eq_true, beq_iff_eq, Bool.not_eq_true'] at q
      obtain ⟨⟨⟨⟨rfl, rfl⟩, hdel⟩, hd⟩, ht⟩ := q
      obtain ⟨nm, bs, mro, ns, qn, hdct, sn, sub, ab, col, del⟩ := cd
      dsimp only at hm hdel hd
      subst hm hdel hd
      have hsl : sl = #[k0, k1, k2, k3, some (.builtin "ValueError.__new__"), k5] := by
        obtain ⟨l⟩ := sl
        simp only at hs
        rw [hs]
      subst hsl
      exact ⟨nm, qn, ns, bs, bm, sn, sub, ab, col, dd, k0, k1, k2, k3, k5, ho, ht⟩
    · cases q
  · cases q
structure XcT (K : PySem.W.Frag) (mg : Str → Option Value) (n : Str) (C : Addr) : Prop where
  T : OexC K C
  mgC : mg n = some (.ref C)
theorem xct_mk {K : PySem.W.Frag} {mg : Str → Option Value} {n : Str} {C : Addr} (h1 : oexIn K C = true) (h2 : PySem.W.findIn K (.ref C) "__setattr__" = some (some (.builtin "object.__setattr__"))) (h3 : PySem.W.subIn K (.ref C) (.type "BaseException") = some true)
    (h4 : PySem.W.typeIn K (.ref C) = some (.type "type")) (h5 : PySem.W.keepIn K (.ref C) = true) (h6 : mg n = some (.ref C)) : XcT K mg n C := ⟨⟨oex_of h1, h2, h3, h4, h5⟩, h6⟩
structure XbT (K : PySem.W.Frag) (mg : Str → Option Value) (n : Str) : Prop where
  ex : ∃ (C : Addr) (mc : Value), mg n = some (.ref C) ∧ PySem.W.specialIn K (.ref C) "__getattribute__" = some (some (.builtin "type.__getattribute__")) ∧ PySem.W.readsIn K C mc = true ∧ PySem.W.findCls K (.ref C) mc "__init__" = some (.val (.builtin "ValueError.__init__"))
section
variable {X : Cx} {o e : Expr} {es : List Expr} {to te : TE} {ta : TA} {f : Str} {p p' p1 p2 pos : Pos} {n : Str}
theorem pe_weinit {pl : Sem Bool} (B : XbT X.K X.mg n) (ha : PA X (e :: es) ta) (hg : Gl X n := by rfl) (hdb : (n == ("__debug__" : Str)) = false := by decide)
    (hc : eval (.Call (.Attribute (.Name n p1) "__init__" p2) (e :: es) [] pos) X.env = (do
      let ov ← eval (.Name n p1) X.env
      standAt p2.atName
      let (f, first) ← holding [ov] (getMethod ov "__init__" pl)
      callWith pos f first (backTo pos (starEach (e :: es) X.env)) (backToKw pos (keywordEach [] X.env))) := by rfl)
    (he : starEach (e :: es) X.env = (false, eval e X.env) :: starEach es X.env := by rfl) (hpl : (backTo pos (starEach es X.env)).any (·.1) = false := by rfl) :
    PE X (.Call (.Attribute (.Name n p1) "__init__" p2) (e :: es) [] pos) (tVeI X.K ta) := by
  obtain ⟨C, mc, hm, gS, hr, vV⟩ := B.ex
  refine ⟨fun pins s σ H Q I h => ?_⟩
  refine PySem.W.methodCall_KW (ld_glob I hg hm ?_ hdb) hc
  refine PySem.W.method_cls I.kIn gS (PySem.W.cls_value I.kIn hr vV rfl ?_)
  show wpAny _ _ (callWith pos (Value.builtin "ValueError.__init__") [] (backTo pos (starEach (e :: es) X.env)) []) _ _ _
  refine PyProof.Rows.callWith_method1 (thn (ha.run pos pins _ σ H _ (I.tok _) h) fun us s1 ⟨vs, H1, I1, r1, a, C, ws, ev, hl, T, ea, q⟩ => ?_) he hpl
  subst ev
  cases r1 with
  | @cons _ u0 _ ur ra rw' =>
    obtain rfl : u0 = Value.ref a := ra
    have hlen : ur.length ≤ sizeLine := by
      rw [← Paired.length rw', sizeLine_eq]
      omega
    exact oinit_ok T I1 ea hlen fun s' J => ⟨.non, H1, J, rfl, q⟩
end
def spX (K : PySem.W.Frag) (C : Addr) (m : Nat) (ns : List Str) : Sp := fun vs H Q _ => ∃ (a : Addr) (ws : List V), vs = .ref a :: ws ∧ ws.length = m ∧ H a = some (exo a C none) ∧
  ∀ d H', H d = none → d ≠ a → H' a = some (exo a C (some d)) → H' d = some (exd d (ns.zip ws.reverse)) → (∀ b o, H b = some o → b ≠ a → H' b = some o) → Q .non H'
section
variable {P : Program} {w : World} {K : PySem.W.Frag} {mg : Str → Option Value} {base : Heap}
theorem ok_xinit1 {C f : Addr} {fd : FuncData} {qual fl msg : Str} {st : Stmt} (Fn : Fun K "__init__" qual st f fd) (S : FnScope ["self", fl] ["self", fl] (defScope st)) (T : OexC K C) (hno : PySem.W.findIn K (.ref C) fl = some none)
    (hb : ∀ (cdv : Value) (A : Around) (outer : List Env) (s : Shared) (H : Hp) (E : XK), PSs (cxOf (L2.CX P w) P w K mg base ["self", fl] qual (defScope st) f cdv A outer s H E) (defBody st) (tSeq (tDrop (tVeI K (tCons (tVar 0) (tCons (tC (.str msg)) tNil)))) (tOst K fl (tVar 0) (tVar 1)))) :
    FnOk P w K mg base (L2.CX P w) 1 f fd ["self", fl] (spX K C 1 [fl]) := by
  refine Fn.okX S (fun vs H Q E h => ?_) fun cdv A outer s H vs Q E hr h => ⟨_, hb cdv A outer s H E, ?_⟩
  · obtain ⟨a, ws, rfl, l, _⟩ := h
    simp [l]
  · obtain ⟨a, ws, rfl, l, ha, k⟩ := h
    match ws, l, k with
    | [x], _, k =>
      refine ⟨_, rfl, a, C, [.str msg], rfl, by show 1 ≤ 1000; omega, T, ha, ?_⟩
      refine ⟨_, rfl, _, rfl, a, C, rfl, T, hno, .inl ⟨ha, fun d hd ne => ?_⟩⟩
      refine k d _ hd ne upd_same ?_ fun b o e hb => ?_
      · rw [upd_ne ne, upd_same]; rfl
      · rw [upd_ne hb, upd_ne (ne_of_none e hd)]; exact e
end
def sRaise (c : Nat) (f : Sl → R D) : SF := fun σ => rS (f σ) σ fun d => match d with
  | .tup ds => if (cleanL ds && noFrzL ds) = true then .er c ds.reverse σ else .bad
  | _ => .bad
def sRaise0 (c : Nat) : SF := fun σ => .er c [] σ
theorem Reps.rev {g : Gv} {Z : Addr → Prop} {H : Hp} : ∀ {ds : List D} {vs : List V}, Reps g Z H ds vs [] → Reps g Z H ds.reverse vs.reverse [] := by
  have app : ∀ {ds es : List D} {vs us : List V}, Reps g Z H ds vs [] → Reps g Z H es us [] → Reps g Z H (ds ++ es) (vs ++ us) [] := by
    intro ds
    induction ds with
    | nil =>
      intro es vs us h h2
      generalize hf : ([] : List Addr) = fp at h
      cases h
      exact h2
    | cons d ds ih =>
      intro es vs us h h2
      generalize hf : ([] : List Addr) = fp at h
      cases h with
      | cons a b =>
        obtain ⟨e1, e2⟩ := List.append_eq_nil_iff.mp hf.symm
        subst e1
        subst e2
        exact .cons (f := []) (fs := []) a (ih b h2)
  intro ds
  induction ds with
  | nil =>
    intro vs h
    generalize hf : ([] : List Addr) = fp at h
    cases h
    exact .nil
  | cons d ds ih =>
    intro vs h
    generalize hf : ([] : List Addr) = fp at h
    cases h with
    | cons a b =>
      obtain ⟨e1, e2⟩ := List.append_eq_nil_iff.mp hf.symm
      subst e1
      subst e2
      rw [List.reverse_cons, List.reverse_cons]
      exact app (ih b) (.cons (f := []) (fs := []) a .nil)
theorem Reps.len {g : Gv} {Z : Addr → Prop} {H : Hp} : ∀ {ds : List D} {vs : List V} {fp : List Addr}, Reps g Z H ds vs fp → vs.length = ds.length
  | _, _, _, .nil => rfl
  | _, _, _, .cons _ h => by simp [Reps.len h]
section
variable {X : Cx} {g : Gv} {W : L2.WX} {e : Expr} {es : List Expr} {f : Sl → R D} {x : Bool} {pos p pos' : Pos} {n : Str} {c : Nat}
theorem ss_raise {C fI : Addr} {fd : FuncData} {ps ns : List Str} {m : Nat} (hc : X.calm = true) (tk : Takes X W) (T : XcT X.K X.mg n C) (iC : PySem.W.findIn X.K (.ref C) "__init__" = some (some (.ref fI))) (tI : PySem.W.typeIn X.K (.ref fI) = some (.type "function"))
    (F1 : FnOk X.prog X.w X.K X.mg X.base (L2.CX X.prog X.w) 1 fI fd ps (spX X.K C m ns)) (hb : Binds X.K fd ps []) (hr : Room 2 X.A) (hcl : g.cls c = some (C, ns)) (hns : ns.length = m) (hm0 : ns ≠ []) (hm1 : m ≤ 900) (hp : Passes (L2.CX X.prog X.w) X (fun _ _ _ => False))
    (ha : PA X (e :: es) (tIA g W x f)) (hlen : ∀ σ ds, f σ = .ok (.tup ds) → ds.length = m)
    (hg : Gl X n := by rfl) (hdb : (n == ("__debug__" : Str)) = false := by decide) (he : starEach (e :: es) X.env = (false, eval e X.env) :: starEach es X.env := by exact starE (by rfl)) (hpl : (backTo pos (starEach es X.env)).any (·.1) = false := by rfl) :
    PS X (.Raise (some (.Call (.Name n p) (e :: es) [] pos)) none pos') (tS g W (sRaise c f)) := by
  refine (ps_raise hc tk (pmk_oex (dvs := []) T.T iC tI F1 hr hb .nil hp hg T.mgC ha hdb he hpl)).imp fun E σ H q => ?_
  obtain ⟨H0, Z0, Z, fps, σl, ss, o⟩ := q
  refine ⟨H0, Z, fps, σl, ss.sr, ?_⟩
  have o2 := OutS.rS ss (show OutS g W H0 Z0 Z H E (rS (f σl) σl _) from o)
  cases hf : f σl with
  | bad => rw [hf] at o2; exact o2
  | err c' fs => rw [hf] at o2; exact o2
  | ok d =>
    rw [hf] at o2
    have hl := hlen σl
    cases d with
    | tup ds =>
      have hl := hl ds hf
      by_cases hk : (cleanL ds && noFrzL ds) = true
      · have o3 : OutS g W H0 Z0 Z H E (.er c ds.reverse σl) := by
          have o4 : OutS g W H0 Z0 Z H E (if (cleanL ds && noFrzL ds) = true then .er c ds.reverse σl else .bad) := o2
          rw [if_pos hk] at o4; exact o4
        simp only [Bool.and_eq_true] at hk
        refine ⟨ds, rfl, fun vs H' Z' fp p => ⟨?_, fun a na => ?_⟩⟩
        · rw [p.rep.len, hl]; omega
        · have hfp := Reps.clean p.rep hk.1
          have rp := p.rep
          rw [hfp] at rp
          refine ⟨a, vs, by simp, by rw [rp.len, hl], upd_same, fun d H2 hd nda h1 h2 h3 => ⟨rfl, d, _, h1, h2, ?_, ?_⟩⟩
          · rw [upd_ne nda] at hd; exact hd
          · have hd' : H' d = none := by rw [upd_ne nda] at hd; exact hd
            have same : Same H' (upd (del H2 a) d (.xd (ns.zip vs.reverse))) := fun b o' eb => by
              have nb : b ≠ a := ne_of_none eb na
              rw [upd_ne (ne_of_none eb hd'), del_ne nb]
              exact h3 b o' (by rw [upd_ne nb]; exact eb) nb
            have sf : Same H (upd (del H2 a) d (.xd (ns.zip vs.reverse))) := same_trans p.same same
            have zf : Zx Z Z' H (upd (del H2 a) d (.xd (ns.zip vs.reverse))) := p.zx.trans p.same (.stay p.zx.inn same)
            refine o3 σ _ Z' fps _ _ (ss.step sf zf) (.of_zx sf zf) ⟨C, ns, hcl, rfl, .inr ⟨hm0, d, vs.reverse, rfl, upd_same, by rw [List.length_reverse, rp.len, hl, hns], ?_⟩⟩
            exact Reps.rev ((rp.same (fun _ z => z) same).unzone hk.2)
      · have o4 : OutS g W H0 Z0 Z H E (if (cleanL ds && noFrzL ds) = true then .er c ds.reverse σl else .bad) := o2
        rw [if_neg hk] at o4
        exact o4.elim
    | _ => exact o2.elim
theorem ss_raise0 {C : Addr} {bmB : List Value} {B newId initId : String} {msg : Str} {j : Nat} {p2 : Pos} (hc : X.calm = true) (tk : Takes X W) (F : ExcBaseFacts B newId initId bmB) (q : PySem.W.excIn X.K C bmB newId = true) (gC : X.mg n = some (.ref C)) (kC : PySem.W.keepIn X.K (.ref C) = true)
    (h3 : PySem.W.subIn X.K (.ref C) (.type "BaseException") = some true) (h4 : PySem.W.typeIn X.K (.ref C) = some (.type "type")) (hcl : g.cls c = some (C, [])) (hg : Gl X n := by rfl) (hdb : (n == ("__debug__" : Str)) = false := by decide) :
    PS X (.Raise (some (.Call (.Name n p) [.Constant (.str msg) j p2] [] pos)) none pos') (tS g W (sRaise0 c)) := by
  refine (ps_raise hc tk (pmk_own F q gC kC (raises_own h3 h4) hg hdb)).imp fun E σ H r => ?_
  obtain ⟨H0, Z0, Z, fps, σl, ss, o⟩ := r
  have o3 : OutS g W H0 Z0 Z H E (.er c [] σl) := o
  exact o3 σ H Z fps _ _ ss .refl ⟨C, [], hcl, rfl, .inl ⟨rfl, rfl, rfl⟩⟩
end
end DI
namespace DI
open PySem PySem.Spec PyProof.Rows L2
mutual
def noX : D → Bool
  | .non => true | .bl _ => true | .int _ => true | .str _ => true
  | .tup xs => noXL xs
  | .lst _ xs => noXL xs
  | .dct _ kvs => noXK kvs
  | .obj c fs => decide (20 ≤ c) && noXL fs
def noXL : List D → Bool
  | [] => true
  | x :: xs => noX x && noXL xs
def noXK : List (NestedKey × D) → Bool
  | [] => true
  | (_, x) :: xs => noX x && noXK xs
end
theorem noXK_map : ∀ kvs : List (NestedKey × D), noXK kvs = noXL (kvs.map (·.2))
  | [] => rfl
  | (_, x) :: xs => by rw [noXK, List.map_cons, noXL, noXK_map xs]
abbrev Gv.at (g : Gv) (a : Addr) (c : Nat) (d : Option Addr) : Gv := ⟨g.P, g.w, g.K, g.cls, g.ins, some (a, c, d), g.pin, g.tab, g.opq⟩
section
variable {g : Gv} {Z Z' Z1 : Addr → Prop} {H H' H0 : Hp} {a : Addr} {c : Nat} {d0 : Option Addr}
mutual
theorem Rep.uncur (hc : c < 20) : ∀ {d : D} {v : V} {fp : List Addr}, Rep (g.at a c d0) Z H d v fp → noX d = true → Rep g Z H d v fp
  | _, _, _, .non, _ => .non
  | _, _, _, .bl b, _ => .bl b
  | _, _, _, .int i, _ => .int i
  | _, _, _, .str x, _ => .str x
  | _, _, _, .tup h hs, q => .tup h (Reps.uncur hc hs (by rw [noX] at q; exact q))
  | _, _, _, .lst h hs w, q => .lst h (Reps.uncur hc hs (by rw [noX] at q; exact q)) w
  | _, _, _, .lstR h hs, q => .lstR h (Reps.uncur hc hs (by rw [noX] at q; exact q))
  | _, _, _, .dK h e hs w, q => .dK h e (Reps.uncur hc hs (by rw [noX, noXK_map] at q; exact q)) w
  | _, _, _, .dN h e ne hk hs w, q => .dN h e ne hk (Reps.uncur hc hs (by rw [noX, noXK_map] at q; exact q)) w
  | _, _, _, .exc0 e, q => by
    cases e
    simp only [noX, Bool.and_eq_true, decide_eq_true_eq] at q
    omega
  | _, _, _, .excD e _ _ _ _, q => by
    cases e
    simp only [noX, Bool.and_eq_true, decide_eq_true_eq] at q
    omega
  | _, _, _, .ins e h z l hs, q => .ins e h z l (Reps.uncur hc hs (by rw [noX] at q; exact (Bool.and_eq_true_iff.mp q).2))
  | _, _, _, .box b h e hs z, q => .box b h e (Reps.uncur hc hs (by
    rw [noX, noXL, noXL, Bool.and_true, noX, noXK_map] at q; exact (Bool.and_eq_true_iff.mp q).2)) z
  | _, _, _, .opq e i n c p, q => .opq e i n c p
theorem Reps.uncur (hc : c < 20) : ∀ {ds : List D} {vs : List V} {fp : List Addr}, Reps (g.at a c d0) Z H ds vs fp → noXL ds = true → Reps g Z H ds vs fp
  | _, _, _, .nil, _ => .nil
  | _, _, _, .cons h hs, q => by
    rw [noXL, Bool.and_eq_true] at q
    exact .cons (Rep.uncur hc h q.1) (Reps.uncur hc hs q.2)
end
mutual
theorem Rep.addcur (hg : g.cur = none) : ∀ {d : D} {v : V} {fp : List Addr}, Rep g Z H d v fp → Rep (g.at a c d0) Z H d v fp
  | _, _, _, .non => .non
  | _, _, _, .bl b => .bl b
  | _, _, _, .int i => .int i
  | _, _, _, .str x => .str x
  | _, _, _, .tup h hs => .tup h (Reps.addcur hg hs)
  | _, _, _, .lst h hs w => .lst h (Reps.addcur hg hs) w
  | _, _, _, .lstR h hs => .lstR h (Reps.addcur hg hs)
  | _, _, _, .dK h e hs w => .dK h e (Reps.addcur hg hs) w
  | _, _, _, .dN h e ne hk hs w => .dN h e ne hk (Reps.addcur hg hs) w
  | _, _, _, .exc0 e => by rw [hg] at e; cases e
  | _, _, _, .excD e _ _ _ _ => by rw [hg] at e; cases e
  | _, _, _, .ins e h z l hs => .ins e h z l (Reps.addcur hg hs)
  | _, _, _, .box b h e hs z => .box b h e (Reps.addcur hg hs) z
  | _, _, _, .opq e i n c p => .opq e i n c p
theorem Reps.addcur (hg : g.cur = none) : ∀ {ds : List D} {vs : List V} {fp : List Addr}, Reps g Z H ds vs fp → Reps (g.at a c d0) Z H ds vs fp
  | _, _, _, .nil => .nil
  | _, _, _, .cons h hs => .cons (Rep.addcur hg h) (Reps.addcur hg hs)
end
theorem SR.addcur (hg : g.cur = none) {fps : List (List Addr)} {σl : Sl} {σ : L2.St} (r : SR g H0 Z fps σl σ H) : SR (g.at a c d0) H0 Z fps σl σ H :=
  ⟨r.len, r.lenf, fun i d e => by
    obtain ⟨v, fp, e1, e2, rp⟩ := r.slot i d e
    exact ⟨v, fp, e1, e2, rp.addcur hg⟩, r.gone, r.nd, r.own, r.z, r.same⟩
def noXS (σ : Sl) : Bool := σ.all fun x => match x with
  | some d => noX d
  | none => true
theorem SR.uncur (hc : c < 20) {fps : List (List Addr)} {σl : Sl} {σ : L2.St} (r : SR (g.at a c d0) H0 Z fps σl σ H) (q : noXS σl = true) : SR g H0 Z fps σl σ H :=
  ⟨r.len, r.lenf, fun i d e => by
    obtain ⟨v, fp, e1, e2, rp⟩ := r.slot i d e
    have := List.all_eq_true.mp q (some d) (List.mem_of_getElem? e)
    exact ⟨v, fp, e1, e2, rp.uncur hc this⟩, r.gone, r.nd, r.own, r.z, r.same⟩
end
def cx : Option D → Option D
  | some d => if noX d = true then some d else none
  | none => none
def clearX (σ : Sl) : Sl := σ.map cx
def unbind (i : Nat) : RS → RS
  | .nx σ => .nx (clearX (σ.set i none))
  | .rt d => if noX d = true then .rt d else .bad
  | .bk σ => .bk (clearX (σ.set i none))
  | .ct σ => .ct (clearX (σ.set i none))
  | _ => .bad
def zx (σl : Sl) (fps : List (List Addr)) : List (List Addr) := List.zipWith (fun x f => if (cx x).isSome = true then f else []) σl fps
theorem zx_sub : ∀ (σl : Sl) (fps : List (List Addr)), (zx σl fps).flatten.Sublist fps.flatten
  | [], fps => by unfold zx; simp
  | _ :: _, [] => by unfold zx; simp
  | x :: σl, f :: fps => by
    have ih := zx_sub σl fps
    unfold zx at ih ⊢
    rw [List.zipWith_cons_cons, List.flatten_cons, List.flatten_cons]
    refine List.Sublist.append ?_ ih
    split
    · exact List.Sublist.refl _
    · exact List.nil_sublist _
theorem cx_some {x : Option D} {d : D} (h : cx x = some d) : x = some d ∧ noX d = true := by
  cases x with
  | none => cases h
  | some e =>
    have h : (if noX e = true then some e else none) = some d := h
    by_cases q : noX e = true
    · rw [if_pos q] at h; cases h; exact ⟨rfl, q⟩
    · rw [if_neg q] at h; cases h
theorem SR.clear {g : Gv} {Z : Addr → Prop} {H H0 : Hp} {a : Addr} {c : Nat} {d0 : Option Addr} (hc : c < 20) {fps : List (List Addr)} {σl : Sl} {σ : L2.St} (r : SR (g.at a c d0) H0 Z fps σl σ H) : SR g H0 Z (zx σl fps) (clearX σl) σ H where
  len := by unfold clearX; rw [List.length_map]; exact r.len
  lenf := by unfold zx; rw [List.length_zipWith, r.len, r.lenf, Nat.min_self]
  slot := fun i d e => by
    unfold clearX at e
    rw [List.getElem?_map] at e
    cases hx : σl[i]? with
    | none => rw [hx] at e; cases e
    | some x =>
      rw [hx] at e
      obtain ⟨rfl, q⟩ := cx_some (Option.some.inj e)
      obtain ⟨v, fp, e1, e2, rp⟩ := r.slot i d hx
      refine ⟨v, fp, e1, ?_, rp.uncur hc q⟩
      unfold zx
      rw [List.getElem?_zipWith, hx, e2]
      simp [cx, q]
  gone := fun i e => by
    unfold clearX at e
    rw [List.getElem?_map] at e
    cases hx : σl[i]? with
    | none => rw [hx] at e; cases e
    | some x =>
      rw [hx] at e
      have hl : i < fps.length := by
        rw [r.lenf, ← r.len]
        exact (List.getElem?_eq_some_iff.mp hx).1
      unfold zx
      rw [List.getElem?_zipWith, hx, List.getElem?_eq_getElem hl]
      have e2 : cx x = none := Option.some.inj e
      simp [e2]
  nd := r.nd.sublist (zx_sub σl fps)
  own := fun b hb => r.own b ((zx_sub σl fps).subset hb)
  z := r.z
  same := r.same
def sTryA (i : Nat) (k y : Nat → Bool) (b h : SF) : SF := fun σ => match b σ with
  | .er c fs σ' => if k c = true then (if y c = true then unbind i (h (σ'.set i (some (.obj c fs)))) else .bad) else .er c fs σ'
  | r => r
section
variable {X : Cx} {g : Gv} {W : L2.WX} {fb fh : SF} {n x : Str} {i : Nat} {cEx : Value} {body suite : List Stmt} {b₀ : Stmt} {np pos pos' : Pos}
theorem SS.addcur {g : Gv} {H0 H : Hp} {Z0 Z : Addr → Prop} {fps : List (List Addr)} {σl : Sl} {σ : L2.St} {a : Addr} {c : Nat} {d0 : Option Addr} (hg : g.cur = none) (s : SS g H0 Z0 Z fps σl σ H) : SS (g.at a c d0) H0 Z0 Z fps σl σ H := ⟨s.sr.addcur hg, s.z0, s.zn, ⟨s.gh.pin, s.gh.tab, s.gh.t0⟩⟩
theorem Gh.un {g : Gv} {H0 H : Hp} {Z : Addr → Prop} {σ : L2.St} {a : Addr} {c : Nat} {d0 : Option Addr} (h : Gh (g.at a c d0) H0 Z σ H) : Gh g H0 Z σ H := ⟨h.pin, h.tab, h.t0⟩
theorem SS.uncur {g : Gv} {H0 H : Hp} {Z0 Z : Addr → Prop} {fps : List (List Addr)} {σl : Sl} {σ : L2.St} {a : Addr} {c : Nat} {d0 : Option Addr} (hc : c < 20) (s : SS (g.at a c d0) H0 Z0 Z fps σl σ H) (q : noXS σl = true) : SS g H0 Z0 Z fps σl σ H := ⟨s.sr.uncur hc q, s.z0, s.zn, s.gh.un⟩
theorem exr_rep {a : Addr} {c : Nat} {fs : List D} {cls : Value} {d : Option Addr} {H : Hp} {Z : Addr → Prop} (hg : g.cur = none) (e : ExR g c fs cls d H) : Rep (g.at a c d) Z H (.obj c fs) (.ref a) [] := by
  obtain ⟨C, ns, h1, rfl, ⟨rfl, rfl, rfl⟩ | ⟨hn, dd, vs, rfl, h2, h3, h4⟩⟩ := e
  · exact .exc0 rfl
  · exact .excD rfl h1 h2 h3 ((h4.same (fun _ z => z.elim) (same_refl H)).addcur hg)
theorem ss_try_as (k y : Nat → Bool) (hg : g.cur = none) (hpn : g.pin = none) (h20 : ∀ c, y c = true → c < 20) (hs : X.stack = X.env :: X.outer) (hf : X.env.frame = some X.env.locals) (hN : X.N.Nodup) (hi : X.N[i]? = some n) (hln : X.env.kindOf n = some .local) (hc : Names X x cEx) (tk : Takes X W)
    (hm : ∀ c C ns, g.cls c = some (C, ns) → PySem.W.exmOne X.K (.ref C) cEx = some (k c))
    (hb : ∀ (W' : L2.WX) (pn : List (Addr × Obj)) (xe : Value → Shared → Prop), Takes (X.tr pn xe) W' → PassesOwn (model X.prog X.w) X.A X.env xe → PSs (X.tr pn xe) body (tS g W' fb))
    (hh : ∀ (a : Addr) (oe : Obj) (d : Option Addr) (pn : List (Addr × Obj)) (c : Nat) (C : Addr) (ns : List Str), g.cls c = some (C, ns) → y c = true → (ns = [] → d = none) → Zc (.ref C) d oe → (∃ vs, oe.data = .fields vs) → PSs (X.suite a ((a, oe) :: pn)) (b₀ :: suite) (tS (g.at a c d) WF fh)) :
    PS X (.Try body [.ExceptHandler (some (.Name x np)) (some n) (b₀ :: suite) pos'] [] [] pos) (tS g W (sTryA i k y fb fh)) := by
  refine (ps_try_as (tb := fun W' => tS g W' fb) (ts := fun a cls d D σ H => ∃ c C ns, g.cls c = some (C, ns) ∧ y c = true ∧ (ns = [] → d = none) ∧ cls = .ref C ∧ tS (g.at a c d) WF fh D σ H) hs hf hN hi hln hc tk hb ?_).imp fun E σ H q => ?_
  · intro a oe cls d pn hz hd
    refine ⟨fun pins s σ H Q I h => ?_⟩
    obtain ⟨c, C, ns, h1, h2, hdn, rfl, h3⟩ := h
    exact (hh a oe d pn c C ns h1 h2 hdn hz hd).run pins s σ H Q I h3
  · obtain ⟨H0, Z0, Z, fps, σl, ss, o⟩ := q
    refine ⟨H0, Z0, Z, fps, σl, ss, ?_⟩
    unfold sTryA at o
    cases hb : fb σl with
    | nx σ1 => rw [hb] at o; exact o
    | rt d => rw [hb] at o; exact o
    | bk σ1 => rw [hb] at o; exact o
    | ct σ1 => rw [hb] at o; exact o
    | bad => rw [hb] at o; exact o
    | er c fs σ1 =>
      rw [hb] at o
      simp only at o
      intro σ' H' Z' fps' cls d s1 ev ex
      obtain ⟨C, ns, h1, h2, alt⟩ := id ex
      have hdn : ns = [] → d = none := fun e => by
        rcases alt with ⟨_, _, e3⟩ | ⟨e1, _⟩
        · exact e3
        · exact absurd e e1
      refine ⟨k c, by rw [h2]; exact hm c C ns h1, fun hk a na => ?_, fun hk => ?_⟩
      · rw [if_pos hk] at o
        obtain ⟨hy, o⟩ := OutS.guard o
        refine ⟨c, C, ns, h1, hy, hdn, h2, ?_⟩
        have hc20 := h20 c hy
        have rp : Rep (g.at a c d) Z' H' (.obj c fs) (.ref a) [] := exr_rep hg ex
        have s2 : SS (g.at a c d) H0 Z0 Z' fps' σ1 σ' H' := s1.addcur hg
        refine ⟨H0, Z0, Z', _, _, ⟨s2.sr.bind0 i rp, s2.z0, s2.zn, s2.gh.set (.inl hpn)⟩, ?_⟩
        cases hh : fh (σ1.set i (some (.obj c fs))) with
        | nx σ2 =>
          rw [hh] at o
          have o : OutS g W H0 Z0 Z H E (.nx (clearX (σ2.set i none))) := o
          intro σ3 H3 Z3 fps3 s3 e3
          have s4 : SR (g.at a c d) H0 Z3 (fps3.set i []) (σ2.set i none) (σ3.set i none) H3 := s3.sr.drop2 i
          exact o _ H3 Z3 _ ⟨s4.clear hc20, s3.z0, s3.zn, s3.gh.un.set (.inl hpn)⟩ (ev.trans e3)
        | rt dd =>
          rw [hh] at o
          have o : OutS g W H0 Z0 Z H E (if noX dd = true then .rt dd else .bad) := o
          obtain ⟨hx, o⟩ := OutS.guard o
          refine RtOk.of (g := g.at a c d) hpn fun v H3 Z3 fp p tz => ?_
          exact RtOk.n o hpn v H3 Z3 fp ⟨p.same, p.zx, p.rep.uncur hc20 hx, p.own⟩ tz
        | bk σ2 =>
          rw [hh] at o
          have o : OutS g W H0 Z0 Z H E (.bk (clearX (σ2.set i none))) := o
          intro σ3 H3 Z3 fps3 s3 e3
          have s4 : SR (g.at a c d) H0 Z3 (fps3.set i []) (σ2.set i none) (σ3.set i none) H3 := s3.sr.drop2 i
          exact o _ H3 Z3 _ ⟨s4.clear hc20, s3.z0, s3.zn, s3.gh.un.set (.inl hpn)⟩ (ev.trans e3)
        | ct σ2 =>
          rw [hh] at o
          have o : OutS g W H0 Z0 Z H E (.ct (clearX (σ2.set i none))) := o
          intro σ3 H3 Z3 fps3 s3 e3
          have s4 : SR (g.at a c d) H0 Z3 (fps3.set i []) (σ2.set i none) (σ3.set i none) H3 := s3.sr.drop2 i
          exact o _ H3 Z3 _ ⟨s4.clear hc20, s3.z0, s3.zn, s3.gh.un.set (.inl hpn)⟩ (ev.trans e3)
        | er c' fs' σ2 => rw [hh] at o; exact (show False from o).elim
        | bad => rw [hh] at o; exact (show False from o).elim
      · rw [if_neg (by rw [hk]; decide)] at o
        exact o σ' H' Z' fps' cls d s1 ev ex
def eXi (k : Nat → Bool) (e : Sl → R D) : Sl → R D := fun σ => (e σ).bind fun d => match d with
  | .obj c fs => if c < 20 then .ok (.bl (k c)) else .bad
  | _ => .bad
theorem out_obj {Z : Addr → Prop} {H : Hp} {a : Addr} {c : Nat} {d : Option Addr} {c' : Nat} {fs : List D} {v : V} {fp : List Addr} (r : Rep (g.at a c d) Z H (.obj c' fs) v fp) (hne : g.ins c' = none) : v = .ref a ∧ c' = c ∧ fp = [] ∧ ((d = none ∧ fs = []) ∨ ∃ dd C ns vs, d = some dd ∧ g.cls c = some (C, ns) ∧ H dd = some (.xd (ns.zip vs)) ∧ Reps (g.at a c d) Z H fs vs []) := by
  cases r with
  | exc0 e => cases e; exact ⟨rfl, rfl, rfl, .inl ⟨rfl, rfl⟩⟩
  | excD e e2 h l hs => cases e; exact ⟨rfl, rfl, rfl, .inr ⟨_, _, _, _, rfl, e2, h, hs⟩⟩
  | ins e h z l hs => rw [show g.ins c' = some _ from e] at hne; cases hne
  | box e h z l hs => rw [show g.ins boxC = some _ from e] at hne; cases hne
  | opq _ e _ _ _ => rw [show g.ins c' = some _ from e] at hne; cases hne
end
end DI
namespace DI
open PySem PySem.Spec PyProof.Rows L2
structure XcA (K : PySem.W.Frag) (mg : Str → Option Value) (n qual : Str) (st : Stmt) (ps ns : List Str) (C fI : Addr) (fd : FuncData) : Prop where
  T : XcT K mg n C
  iC : PySem.W.findIn K (.ref C) "__init__" = some (some (.ref fI))
  tI : PySem.W.typeIn K (.ref fI) = some (.type "function")
  Fn : Fun K "__init__" qual st fI fd
  hb : Binds K fd ps []
  no : ∀ f ∈ ns, PySem.W.findIn K (.ref C) f = some none
  xf : XfC K C
def XcE (K : PySem.W.Frag) (mg : Str → Option Value) (cE : Nat → Option (Addr × List Str)) (n qual : Str) (st : Stmt) (ps ns : List Str) (c : Nat) : Prop := ∃ C fI fd, XcA K mg n qual st ps ns C fI fd ∧ cE c = some (C, ns)
structure Xc0 (K : PySem.W.Frag) (mg : Str → Option Value) (n : Str) (C : Addr) : Prop where
  ex : PySem.W.excIn K C [Value.type "ValueError", Value.type "Exception", Value.type "BaseException", Value.type "object"] "ValueError.__new__" = true
  mgC : mg n = some (.ref C)
  kC : PySem.W.keepIn K (.ref C) = true
  h3 : PySem.W.subIn K (.ref C) (.type "BaseException") = some true
  h4 : PySem.W.typeIn K (.ref C) = some (.type "type")
  ec : ExcC K C
def XcN (K : PySem.W.Frag) (mg : Str → Option Value) (cE : Nat → Option (Addr × List Str)) (n : Str) (c : Nat) : Prop := ∃ C, Xc0 K mg n C ∧ cE c = some (C, [])
def XcM (K : PySem.W.Frag) (mg : Str → Option Value) (cE : Nat → Option (Addr × List Str)) (n : Str) (k : Nat → Bool) : Prop := ∃ C, mg n = some (.ref C) ∧ ∀ c C' ns, cE c = some (C', ns) → PySem.W.exmOne K (.ref C') (.ref C) = some (k c)
def XcI (K : PySem.W.Frag) (mg : Str → Option Value) (cE : Nat → Option (Addr × List Str)) (n : Str) (k : Nat → Bool) : Prop := ∃ C, mg n = some (.ref C) ∧ ∀ c C' ns, cE c = some (C', ns) → PySem.W.kitOne K (.ref C') (.ref C) = some (k c)
def XcV (K : PySem.W.Frag) (cE : Nat → Option (Addr × List Str)) (T : String) : Prop := ∀ c C' ns, cE c = some (C', ns) → PySem.W.kitOne K (.ref C') (.type T) = some true
def tabE : List (Nat × Addr × List Str) → Nat → Option (Addr × List Str)
  | [], _ => none
  | (k, p) :: r, c => if c = k then some p else tabE r c
theorem tabE_all {P : Nat → Addr → List Str → Prop} : ∀ {l : List (Nat × Addr × List Str)}, (∀ t ∈ l, P t.1 t.2.1 t.2.2) → ∀ c C ns, tabE l c = some (C, ns) → P c C ns
  | [], _, c, C, ns, h => by cases h
  | (k, p) :: r, a, c, C, ns, h => by
    rw [tabE] at h
    by_cases e : c = k
    · rw [if_pos e] at h
      cases h
      rw [e]
      exact a _ List.mem_cons_self
    · rw [if_neg e] at h
      exact tabE_all (fun t ht => a t (List.mem_cons_of_mem _ ht)) c C ns h
theorem xc_eq {cE : Nat → Option (Addr × List Str)} {c : Nat} {C C' : Addr} {ns ns' : List Str} (h : cE c = some (C, ns)) (h' : cE c = some (C', ns')) : C' = C ∧ ns' = ns := by
  have e := h.symm.trans h'
  cases e
  exact ⟨rfl, rfl⟩
def oneOfN (l : List Nat) (c : Nat) : Bool := l.contains c
section
variable {X : Cx} {g : Gv} {W : L2.WX} {e : Expr} {es : List Expr} {f : Sl → R D} {x : Bool} {pos p pos' : Pos} {n : Str} {c : Nat}
theorem t_raise {qual : Str} {st : Stmt} {ps ns : List Str} (m : Nat) (h : XcE X.K X.mg g.cls n qual st ps ns c) (ok : ∀ {C fI : Addr} {fd : FuncData}, XcA X.K X.mg n qual st ps ns C fI fd → FnOk X.prog X.w X.K X.mg X.base (L2.CX X.prog X.w) 1 fI fd ps (spX X.K C m ns)) (hr : Room 2 X.A) (tk : Takes X W)
    (ha : PA X (e :: es) (tIA g W x f)) (hlen : ∀ σ ds, f σ = .ok (.tup ds) → ds.length = m) (hns : ns.length = m := by rfl) (hm0 : ns ≠ [] := by decide) (hm1 : m ≤ 900 := by decide) (hc : X.calm = true := by rfl)
    (hg : Gl X n := by rfl) (hdb : (n == ("__debug__" : Str)) = false := by decide) (he : starEach (e :: es) X.env = (false, eval e X.env) :: starEach es X.env := by exact starE (by rfl)) (hpl : (backTo pos (starEach es X.env)).any (·.1) = false := by rfl) :
    PS X (.Raise (some (.Call (.Name n p) (e :: es) [] pos)) none pos') (tS g W (sRaise c f)) := by
  obtain ⟨C, fI, fd, a, hcl⟩ := h
  exact ss_raise hc tk a.T a.iC a.tI (ok a) a.hb hr hcl hns hm0 hm1 passL ha hlen hg hdb he hpl
theorem t_raise0 {msg : Str} {j : Nat} {p2 : Pos} (h : XcN X.K X.mg g.cls n c) (tk : Takes X W) (hc : X.calm = true := by rfl) (hg : Gl X n := by rfl) (hdb : (n == ("__debug__" : Str)) = false := by decide) :
    PS X (.Raise (some (.Call (.Name n p) [.Constant (.str msg) j p2] [] pos)) none pos') (tS g W (sRaise0 c)) := by
  obtain ⟨C, a, hcl⟩ := h
  exact ss_raise0 hc tk F.excBase_ValueError a.ex a.mgC a.kC a.h3 a.h4 hcl hg hdb
theorem t_try_as {fb fh : SF} {nm xn : Str} {body suite : List Stmt} {b₀ : Stmt} {np : Pos} (i : Nat) (k y : Nat → Bool) (hm : XcM X.K X.mg g.cls xn k) (h20 : ∀ c, y c = true → c < 20) (nd : X.N.Nodup) (tk : Takes X W)
    (hb : ∀ (W' : L2.WX) (pn : List (Addr × Obj)) (xe : Value → Shared → Prop), Takes (X.tr pn xe) W' → PassesOwn (model X.prog X.w) X.A X.env xe → PSs (X.tr pn xe) body (tS g W' fb))
    (hh : ∀ (a : Addr) (oe : Obj) (d : Option Addr) (pn : List (Addr × Obj)) (c : Nat) (C : Addr) (ns : List Str), g.cls c = some (C, ns) → y c = true → (ns = [] → d = none) → Zc (.ref C) d oe → (∃ vs, oe.data = .fields vs) → PSs (X.suite a ((a, oe) :: pn)) (b₀ :: suite) (tS (g.at a c d) WF fh))
    (hg : g.cur = none := by rfl) (hpn : g.pin = none := by rfl) (hs : X.stack = X.env :: X.outer := by rfl) (hf : X.env.frame = some X.env.locals := by rfl) (hi : X.N[i]? = some nm := by rfl) (hln : X.env.kindOf nm = some .local := by rfl) (hgl : Gl X xn := by rfl) (hdb : (xn == ("__debug__" : Str)) = false := by decide) :
    PS X (.Try body [.ExceptHandler (some (.Name xn np)) (some nm) (b₀ :: suite) pos'] [] [] pos) (tS g W (sTryA i k y fb fh)) := by
  obtain ⟨C, hmg, hex⟩ := hm
  exact ss_try_as k y hg hpn h20 hs hf nd hi hln ⟨hgl, hdb, .inl hmg⟩ tk hex hb hh
end
def spLaw (K : PySem.W.Frag) : Sp := fun vs H Q _ => ∃ (a : Addr) (ns : List Int), vs = [.ref a] ∧ SqL K H a (ns.map V.int) ∧ Only H ∧ ns.length ≤ 63 ∧ ∀ v H', v = V.bl true → Q v H'
theorem FnOk.imp {P : Program} {w : World} {K : PySem.W.Frag} {mg : Str → Option Value} {base : Heap} {CX : CXT} {k : Nat} {f : Addr} {fd : FuncData} {ps : List Str} {sp sp' : Sp} (F : FnOk P w K mg base CX k f fd ps sp) (h : ∀ vs H Q E, sp' vs H Q E → sp vs H Q E) : FnOk P w K mg base CX k f fd ps sp' :=
  ⟨fun vs H Q E q => F.len vs H Q E (h vs H Q E q), fun A outer s H args us vs Q E r e b v q => F.run A outer s H args us vs Q E r e b v (h vs H Q E q)⟩
theorem sp_law {g : Gv} {h : List D → R D} (hh : ∀ ns : List Int, ns.length ≤ 63 → h [.lst false (ns.map D.int)] = .ok (.bl true)) : ∀ vs H Q E, spLaw g.K vs H Q E → spI g 1 h vs H Q E := by
  intro vs H Q E q
  obtain ⟨a, ns, rfl, hS, hO, hl, k⟩ := q
  refine ⟨fun _ => False, [.lst false (ns.map D.int)], fun _ z => z.elim, ?_, rfl, ?_⟩
  · have rs : Reps g (fun _ => False) H (ns.map D.int) (ns.map V.int) [] := by
      clear hS hl
      induction ns with
      | nil => exact .nil
      | cons n r ih => exact .cons (f := []) (fs := []) (.int n) ih
    refine .cons (f := []) (fs := []) (.lstR ?_ rs) .nil
    rcases hS with (q | q) | q
    · rcases hO a with e | ⟨o, xs, e⟩
      · rw [e] at q; cases q
      · rw [e] at q; cases q
    · exact .inl q
    · exact .inr q
  · rw [hh ns hl]
    intro v H' Z' fp p
    exact k v H' (rep_bl p.rep).1
end DI
namespace DI
open PySem PySem.Spec PyProof.Rows L2
noncomputable def eLR (f : Sl → R D) : Sl → R D := fun σ => (f σ).bind fun x => (intOf x).bind fun n => if small62 n = true ∧ n.toNat ≤ sizeLine then .ok (.lst true (rngL 0 n.toNat)) else .bad
section
variable {X : Cx} {g : Gv} {W : L2.WX} {e : Expr} {f : Sl → R D} {x : Bool} {pos p p2 pos2 : Pos}
theorem z_lrg (ha : PE X e (tI g W x f)) (hm : X.mg "list" = none) (hm2 : X.mg "range" = none) (hc : X.calm = true := by rfl) (hg : Gl X "list" := by rfl) (hg2 : Gl X "range" := by rfl) (na : starEach [e] X.env = (false, eval e X.env) :: starEach [] X.env := by exact starE (by rfl))
    (nb : starEach [.Call (.Name "range" p2) [e] [] pos2] X.env = (false, eval (.Call (.Name "range" p2) [e] [] pos2) X.env) :: starEach [] X.env := by exact starE (by rfl)) :
    PE X (.Call (.Name "list" p) [.Call (.Name "range" p2) [e] [] pos2] [] pos) (tI g W true (eLR f)) := (pe_listRg hc hg hm (prg_1 hg2 hm2 ha na) nb).imp fun σ H Q q => by
  obtain ⟨H0, Z, fps, σl, sr, o⟩ := q
  refine ⟨H0, Z, fps, σl, sr, o.bind.imp fun x o v H1 Z1 fp p => ?_⟩
  cases x with
  | int n =>
    have o1 : Out g W Z σ H (if small62 n = true ∧ n.toNat ≤ sizeLine then R.ok (D.lst true (rngL 0 n.toNat)) else .bad) _ := o
    obtain ⟨hn, o2⟩ := Out.guard o1
    have o3 : ∀ (v : V) (H' : Hp) (Z' : Addr → Prop) (fp : List Addr), PostE g true Z Z' H H' (D.lst true (rngL 0 n.toNat)) v fp → Q v H' := o2
    obtain ⟨b1, b2⟩ := small62_iff hn.1
    cases p.rep
    refine ⟨n, rfl, ⟨by omega, by omega, b1, b2, by rw [Int.sub_zero]; have := hn.2; rw [sizeLine_eq] at this; omega⟩, fun q hq => ?_⟩
    have rs : Reps g Z1 (upd H1 q (.lst (rgV 0 n))) (rngL 0 n.toNat) (rgV 0 n) [] := by
      generalize upd H1 q (.lst (rgV 0 n)) = Hq
      unfold rngL rgV
      rw [Int.sub_zero]
      generalize List.range n.toNat = l
      induction l with
      | nil => exact .nil
      | cons k l ih => exact .cons (f := []) (fs := []) (.int _) ih
    have nz : ¬ Z1 q := fun z => p.zx.inn q z hq
    refine o3 (.ref q) _ Z1 [q] ⟨same_trans p.same (same_upd hq), p.zx.trans p.same (.stay p.zx.inn (same_upd hq)), .lst upd_same rs own_new, fun _ => ⟨by simp, fun a ha => ?_⟩⟩
    rw [List.mem_singleton.mp ha]
    exact ⟨same_none p.same hq, nz⟩
  | _ => exact (show False from o).elim
end
end DI
namespace DI
open PySem PySem.Spec PyProof.Rows L2
end DI
namespace DI
open PySem PySem.Spec PyProof.Rows L2
section
variable {prog : Program} {w : World} {K : Type} [DecidableEq K] {knd : HeapKind prog w K} {A : Around} {E : Value → Shared → Prop} {s : Shared}
theorem disp_at {ev : Env} {ks : List (Option Expr)} {ws : List Expr} {p : Pos} {prs : List (Sem Value × Sem Value)} {R : Value → Shared → Prop} (hu : knd.room A) (sh : (evalEachOpt ks ev).zip ((evalEach ws ev).map fun v => do let x ← v; standAt p; pure x) = prs.map fun q => (some q.1, q.2)) (ne : prs ≠ []) (few : prs.length ≤ 15)
    (k : wpAny (model prog w) A (evalPairs prs) (fun vs t => ∃ ps, CarriesH knd t.heap vs ps ∧ t.heap.DictOfH knd s.heap.objs.size [] ∧ ∀ h' tk, h'.DictOfH knd s.heap.objs.size (storedAllH [] ps) → Heap.SameBut s.heap.objs.size t.heap h' → R (.ref s.heap.objs.size) { t with heap := h', toks := tk }) E { s with heap := s.heap.push { cls := .type "dict", data := .dict #[] } }) : wpAny (model prog w) A (eval (.Dict ks ws p) ev) R E s := by
  have few' : prs.length ≤ 15 := few
  rw [arm_eval_Dict]; rw [sh]; rw [dictDisplay_pairs prs ne (by omega)]
  refine wpAny_bind (wpAny_standAt (wpAny_bind ?_))
  refine wpAny_subDictH (knd := knd) (Q := fun d t => wpAny (model prog w) A (pure (Value.ref d)) R E t) hu few (wpAny_mono k (fun vs t q => ?_) fun _ _ e => e)
  obtain ⟨ps, hc, hm, hq⟩ := q
  exact ⟨ps, hc, hm, fun h' tk a b => wpAny_pure (hq h' tk a b)⟩
end
section
variable {X : Cx} {g : Gv} {W : L2.WX} {e k : Expr} {fe fk : Sl → R D} {pos : Pos} {b b' : Bool}
theorem vv1 {v u : V} {ws : List (Value × Value)} (r : VV [(v, u)] ws) : ∃ a b, ws = [(a, b)] ∧ RelV v a ∧ RelV u b := by
  cases r with
  | @cons p q ps qs h t =>
    cases t
    obtain ⟨a, b⟩ := q
    exact ⟨a, b, rfl, h.1, h.2⟩
def dispN (k v : D) : R D :=
  match key k with
  | some q => if (isTupKey q = true ∧ q.depth ≤ 8) ∧ clean v = true then .ok (.dct true [(q, v)]) else .bad
  | none => .bad
theorem se_dispN (G : Gof g X) (hu : X.A.units + 70 < cLine) (hk : PE X k (tI g W b fk)) (he : PE X e (tI g W b' fe)) : PE X (.Dict [some k] [e] pos) (tI g W true fun σ => (fk σ).bind fun x => (fe σ).bind fun y => dispN x y) := by
  refine ⟨fun pins s σ H Q I q => ?_⟩
  obtain ⟨H0, Z, fps, σl, sr, o⟩ := q
  have nl : H s.heap.objs.size = none := I.hok.fresh (Nat.le_refl _)
  have I1 := I.laid (a := s.heap.objs.size) (o := .dK []) (h' := s.heap.push { cls := .type "dict", data := .dict #[] }) (t' := s.toks) (fun _ _ q => Heap.get?_push_of_some _ q) (Nat.le_refl _) (dk_empty s.heap I.big)
  refine disp_at (knd := nestedKind X.prog X.w) (prs := pairTrees [some k] [e] X.env pos) (show X.A.units + 8 < cLine by omega) (zip_pairTrees _ _ _ _ rfl rfl) (by intro h; cases h) (show 1 ≤ 15 by decide) ?_
  generalize s.heap.objs.size = l at *
  have s0 := same_upd (o := .dK []) nl
  have z0 : Zx Z Z H (upd H l (.dK [])) := .stay sr.z s0
  refine thn ((pps_cons hk he pps_nil).run pins _ σ _ (fun ps H2 => ∃ vx vy x y q Z2 fx, ps = [(vx, vy)] ∧ H2 l = some (.dK []) ∧ key x = some q ∧ isTupKey q = true ∧ q.depth ≤ 8 ∧ Rep g Z2 H2 x vx fx ∧ Rep g Z2 H2 y vy [] ∧ ¬ Z2 l ∧
    ∀ u, Rep g Z2 (upd H2 l u) (.dct true [(q, y)]) (.ref l) [l] → Q (.ref l) (upd H2 l u)) I1 ?_) fun ws s2 ⟨ps, H2, I2, rel, vx, vy, x, y, q, Z2, fx, ep, hl2, hq, ht, hd8, rx, ry, nz, qq⟩ => ?_
  · refine ⟨H0, Z, fps, σl, sr.step s0 z0, o.bind.step s0 z0 fun x o vx H1 Z1 fx p1 => ?_⟩
    have sr1 := (sr.step s0 z0).step p1.same p1.zx
    refine ⟨H0, Z1, fps, σl, sr1, o.bind.step (same_trans s0 p1.same) (z0.trans s0 p1.zx) fun y o vy H2 Z2 fy p2 => ?_⟩
    have s2 := same_trans (same_trans s0 p1.same) p2.same
    have z2 := (z0.trans s0 p1.zx).trans (same_trans s0 p1.same) p2.zx
    have hl2 : H2 l = some (.dK []) := p2.same _ _ (p1.same _ _ upd_same)
    have o : Out g W Z σ H (dispN x y) _ := o
    unfold dispN at o
    cases hq : key x with
    | none => rw [hq] at o; exact o.elim
    | some q =>
      rw [hq] at o
      obtain ⟨⟨⟨ht, hd⟩, hc⟩, o⟩ := Out.guard o
      have nz : ¬ Z2 l := fun z => by
        rcases z2.new l z with q | q
        · exact sr.z l q nl
        · exact p2.zx.inn l z (by
            rcases p2.zx.new l z with w | w
            · rcases p1.zx.new l w with w' | w'
              · exact absurd nl (sr.z l w')
              · rw [upd_same] at w'; cases w'
            · rw [p1.same _ _ upd_same] at w; cases w)
      refine ⟨vx, vy, x, y, q, Z2, _, rfl, hl2, hq, ht, hd, p1.rep.same p2.zx.le p2.same, p2.rep.to0 hc, nz, fun u r => ?_⟩
      exact o _ _ Z2 [l] ⟨same_updO s2 nl, ⟨z2.le, z2.new, fun a z => upd_some (z2.inn a z)⟩, r, fun _ => ⟨by simp, fun a ha => by rw [List.mem_singleton.mp ha]; exact ⟨nl, nz⟩⟩⟩
  · subst ep
    obtain ⟨bq, rfl⟩ := tup_rep rx hq ht
    obtain ⟨wk, wv, rfl, h1, h2⟩ := vv1 rel
    cases (show wk = Value.ref bq from h1)
    have ow : Owd g.P g.w l (H2 l) := .inr (.inl ⟨[], hl2⟩)
    have krx : KRep g.K H2 q (.ref bq) := rx.krep hq
    have hkey : (nestedKind X.prog X.w).is s2.heap q bq := ⟨KRep.is (v := .ref bq) (u := .ref bq) I2 (by rw [G.K]; exact krx) rfl, hd8⟩
    have rd : Rep g Z2 H2 (.dct true []) (.ref l) [l] := .dK (kv := []) hl2 rfl .nil own_new
    obtain ⟨a', xs, ys, ea, nv, mu⟩ := nv_of G I2 rd (fun p hp => nomatch hp)
    cases ea
    have exs : xs = [] := by
      have := nv.keys
      simpa using this
    subst exs
    have eys : ys = [] := by
      have := nv.pair
      cases this; rfl
    subst eys
    refine ⟨[(q, bq, wv)], ⟨rfl, rfl, hkey, True.intro⟩, by rw [G.P, G.w]; exact nv.dict, fun h' tk dd' hs => ?_⟩
    obtain ⟨ob, es, ep, h1, h2', h3, h4, h5, h6⟩ := dd'
    have kp := kp_upd (Z := Z2) (fp := []) (u := rawN g.P g.w l ob [(q, bq, vy)]) ow nz (fun h => nomatch h)
    refine ⟨.ref l, _, d_write (ob := rawN g.P g.w l ob [(q, bq, vy)]) I2 mu hs ⟨ob, h1⟩ ?_, rfl, qq _ ?_⟩
    · refine ⟨⟨by rw [sizeLine_eq]; simp, nv.nosys, by simp, [(q, bq, wv)], .cons ⟨rfl, rfl, h2⟩ .nil, es, ep, h1, h2', h3, by rw [← G.P, ← G.w]; exact h4⟩, ⟨ob, h1⟩, fun g1 g2 φ kk => ?_⟩
      obtain ⟨l1, l2, l3, y, l4, es1, ep1, e1, e2, e3, e4⟩ := φ
      exact ⟨l1, l2, l3, y, l4, es1, ep1, kk _ e1, e2, e3, e4⟩
    · exact .dN upd_same rfl (by simp) (fun p hp => by rw [List.mem_singleton.mp hp]; exact ⟨krx.keep kp.tup, hd8⟩) (.cons (f := []) (fs := []) (ry.keep (fun _ z => z) kp) .nil) own_new
def eDN1 (fk fe : Sl → R D) : Sl → R D := fun σ => (fk σ).bind fun x => (fe σ).bind fun y => dispN x y
theorem z_dN1 (hu : X.A.units + 70 < cLine) (G : Gof g X) (hk : PE X k (tI g W b fk)) (he : PE X e (tI g W b' fe)) : PE X (.Dict [some k] [e] pos) (tI g W true (eDN1 fk fe)) := se_dispN G hu hk he
end
end DI
namespace DI
open PySem PySem.Spec PyProof.Rows L2
section
variable {X : Cx} {g : Gv} {W : L2.WX} {e : Expr} {es : List Expr} {f : Sl → R D} {x : Bool} {pos p p2 pos2 : Pos} {n : Str}
theorem call_list_txt (hc : X.calm = true) : CallR X (.type "list") (fun xs H Q => ∃ z, xs = [V.str z] ∧ z.length ≤ sizeLine ∧ ∀ q, H q = none → Q (.ref q) (upd H q (.lst (chV z)))) := by
  intro pins s σ H xs us Q I r h
  obtain ⟨z, rfl, hl, q⟩ := h
  obtain ⟨u, rfl, rx⟩ := vals1 r
  obtain ⟨t, rfl⟩ := rx
  have hz : z.cps.size ≤ sizeLine := hl
  refine call_list_str (hn := hz) (I.ok.hd hc) z t fun h' tk acc' c' hkeep hS hacc => ?_
  have el : acc'.toList.length = acc'.size := by simp
  have ec : (chV z).length = z.cps.size := by unfold chV; simp
  refine ⟨.ref s.heap.objs.size, upd H s.heap.objs.size (.lst (chV z)), I.laid hkeep (Nat.le_refl _) (show ObjOk X.prog X.w _ _ _ (.lst (chV z)) from ⟨by rw [ec]; exact hz, acc'.toList, c', ?_, ?_⟩), rfl, q _ (I.hok.fresh (Nat.le_refl _))⟩
  · refine vals_of_at (by rw [ec, el, hacc.1]) fun j y w h1 h2 => ?_
    unfold chV at h1
    obtain ⟨c, tk2, hc1, rfl⟩ := hacc.2 j w (by rw [← Array.getElem?_toList]; exact h2)
    rw [List.getElem?_map, Array.getElem?_toList, hc1] at h1
    cases h1
    exact ⟨tk2, rfl⟩
  · rw [Array.toArray_toList]; exact hS
def liD : List D → R D
  | [.lst _ xs] => if cleanL xs = true then .ok (.lst true xs) else .bad
  | [.tup xs] => if cleanL xs = true then .ok (.lst true xs) else .bad
  | [.str z] => if z.length ≤ sizeLine then .ok (.lst true (z.cps.toList.map oneOf)) else .bad
  | _ => .bad
theorem opc_li (G : Gof g X) : OpC g W true (fun xs H Q => (∃ p ys, xs = [.ref p] ∧ (SqL X.K H p ys ∨ SqT X.K H p ys) ∧ ∀ l, H l = none → Q (.ref l) (upd H l (.lst ys))) ∨ ∃ z, xs = [V.str z] ∧ z.length ≤ sizeLine ∧ ∀ q, H q = none → Q (.ref q) (upd H q (.lst (chV z)))) liD := by
  intro Z σ H ds vs fp Q hz r o
  by_cases hs : ∃ z, ds = [.str z]
  · obtain ⟨z, rfl⟩ := hs
    obtain ⟨v, rfl, rx⟩ := reps1 r
    obtain ⟨hl, o⟩ := Out.guard (show Out g W Z σ H (if z.length ≤ sizeLine then R.ok (D.lst true (z.cps.toList.map oneOf)) else .bad) _ from o)
    obtain ⟨rfl, _⟩ := rep_str rx
    exact .inr ⟨z, rfl, hl, fun p hp => o _ _ Z [p] (post_new hz hp (.lst upd_same (reps_chars _) own_new) (.inr rfl))⟩
  · refine .inl (opc_list (W := W) G Z σ H ds vs fp Q hz r ?_)
    cases ds with
    | nil => exact o.elim
    | cons x r' =>
      cases r' with
      | nil =>
        cases x with
        | str z => exact absurd ⟨z, rfl⟩ hs
        | _ => exact o
      | cons y r' => cases x <;> exact o.elim
noncomputable def eLi (f : Sl → R D) : Sl → R D := fun σ => (f σ).bind fun r => (tupOf r).bind fun ds => liD ds
theorem z_li (hc : X.calm = true) (G : Gof g X) (ha : PA X (e :: es) (tIA g W x f)) (hm : X.mg "list" = none) (hg : Gl X "list" := by rfl) (he : starEach (e :: es) X.env = (false, eval e X.env) :: starEach es X.env := by exact starE (by rfl)) (hpl : (backTo pos (starEach es X.env)).any (·.1) = false := by rfl) :
    PE X (.Call (.Name "list" p) (e :: es) [] pos) (tI g W true (eLi f)) := se_callTy (call_list_of.or (call_list_txt hc)) (opc_li G) hg hm (by decide +kernel) ha (by decide) (by decide) he hpl
end
def rIsX (K : PySem.W.Frag) (C a : Addr) (d : Option Addr) : List V → Hp → VK → Prop := fun xs H Q => ∃ (c : V) (b : Bool), xs = [.ref a, c] ∧ (∀ dd, d = some dd → ∃ fs, H dd = some (.xd fs)) ∧
  ((∃ cv : Value, (∀ u, RelV c u → u = cv) ∧ PySem.W.kitOne K (.ref C) cv = some b) ∨ ∃ (T : Addr) (cs : List Addr), c = .ref T ∧ H T = some (.tup (cs.map V.ref)) ∧ PySem.W.kitAny K (.ref C) (cs.map Value.ref) = some b) ∧ Q (.bl b) H
theorem vals_refs_eq : ∀ (cs : List Addr) {us : List Value}, Vals (cs.map V.ref) us → us = cs.map Value.ref
  | [], us, h => by cases h; rfl
  | c :: cs, us, h => by
    cases h with
    | cons r t => rw [vals_refs_eq cs t]; cases r; rfl
theorem call_isX {X : Cx} {a C : Addr} {d : Option Addr} {oe : Obj} {pn : List (Addr × Obj)} (T : ExcC X.K C) (hz : Zc (.ref C) d oe) (hf : ∃ vs, oe.data = .fields vs) : CallR (X.suite a ((a, oe) :: pn)) (.builtin "isinstance") (rIsX X.K C a d) := by
  intro pins s σ H xs us Q I r h
  obtain ⟨c, b, rfl, hd, hc, q⟩ := h
  obtain ⟨u0, u1, rfl, rx, rt⟩ := vals2 r
  cases rx
  obtain ⟨hget, _⟩ := I.pin (a, oe) (List.mem_append.mpr (.inl List.mem_cons_self))
  obtain ⟨vs, hv⟩ := hf
  have nc : PySem.W.notCls oe = true := by unfold PySem.W.notCls; rw [hv]
  have J : ∃ od, PySem.W.InstAt s.heap a oe C od := by
    obtain ⟨h1, h2⟩ := hz
    cases d with
    | none => exact ⟨none, hget, h1, nc, by rw [h2]; exact True.intro⟩
    | some dd =>
      obtain ⟨fs, hx⟩ := hd dd rfl
      have hx : ObjOk X.prog X.w H s.heap dd (.xd fs) := I.hok dd _ hx
      obtain ⟨mA, hns, hr⟩ := hx
      obtain ⟨od, ho, hl⟩ := lookIn_ns hns
      exact ⟨some od, hget, h1, nc, by rw [h2]; exact ho⟩
  obtain ⟨od, J⟩ := J
  have hcl : (PySem.W.clsIn X.K C).isSome = true := by
    have := T.hd
    unfold PySem.W.hasDictIn at this
    obtain ⟨cd, hc, _⟩ := PySem.W.any_some this
    rw [hc]; rfl
  have Z := PySem.W.kitx_exc (x := a) (ox := oe) (od := od) hcl T.hg T.hk T.hs T.ha T.hn T.ht T.hm
  rcases hc with ⟨cv, hcv, e⟩ | ⟨T', cs, rfl, hT, e⟩
  · have ec := hcv _ rt
    subst ec
    exact PySem.W.kia_one Z I.kIn J e (fun z => nomatch z) fun tk => ⟨.bl b, H, I.kept (t' := tk) fun _ _ z => z, rfl, q⟩
  · cases rt
    obtain ⟨_, its, vi, ho⟩ := (show ObjOk X.prog X.w H s.heap T' (.tup (cs.map V.ref)) from I.hok T' _ hT)
    obtain ⟨⟨oc, odd, oda, osl⟩, ho, hc1, n, hc2⟩ := ho
    dsimp only at hc1 hc2
    subst hc1 hc2
    have ei := vals_refs_eq cs vi
    subst ei
    exact PySem.W.kia_tup Z I.kIn J ho e (fun z => nomatch z) fun tk => ⟨.bl b, H, I.kept (t' := tk) fun _ _ z => z, rfl, q⟩
section
variable {X : Cx} {g : Gv} {W : L2.WX} {x : Expr} {fx : Sl → R D} {bo : Bool} {pos p p3 : Pos} {a : Addr} {oe : Obj} {pn : List (Addr × Obj)} {c : Nat} {d : Option Addr} {C : Addr} {ns : List Str}
theorem isx_dict {Z Z' : Addr → Prop} {H H' : Hp} {fs : List D} {v : V} {fp : List Addr} {c' : Nat} (hins : g.ins c' = none) (r : Rep (g.at a c d) Z H (.obj c' fs) v fp) : v = .ref a ∧ c' = c ∧ fp = [] ∧ ∀ dd, d = some dd → ∃ fs, H dd = some (.xd fs) := by
  obtain ⟨e1, e2, e3, ⟨rfl, rfl⟩ | ⟨dd, C2, ns2, vs, rfl, e4, h2, hs⟩⟩ := out_obj r hins
  · exact ⟨e1, e2, e3, fun dd h => nomatch h⟩
  · exact ⟨e1, e2, e3, fun dd h => by cases h; exact ⟨_, h2⟩⟩
theorem se_xX {ce : Expr} {tc : TE} (k : Nat → Bool) (hc : c < 20) (T : ExcC X.K C) (hz : Zc (.ref C) d oe) (hd : ∃ vs, oe.data = .fields vs) (hins : ∀ c, c < 20 → g.ins c = none)
    (he : PE (X.suite a ((a, oe) :: pn)) x (tI (g.at a c d) W bo fx)) (hm : X.mg "isinstance" = none) (hN : PE (X.suite a ((a, oe) :: pn)) ce tc)
    (hcv : ∀ σ H Q, (∀ v H', Same H H' → (∀ H'', Same H' H'' → ((∃ cv : Value, (∀ u, RelV v u → u = cv) ∧ PySem.W.kitOne X.K (.ref C) cv = some (k c)) ∨ ∃ (T : Addr) (cs : List Addr), v = .ref T ∧ H'' T = some (.tup (cs.map V.ref)) ∧ PySem.W.kitAny X.K (.ref C) (cs.map Value.ref) = some (k c))) → Q v H') → tc σ H Q) (hg : Gl X "isinstance" := by rfl)
    (hst : starEach [x, ce] X.env = (false, eval x X.env) :: starEach [ce] X.env := by exact starE (by rfl)) (hst2 : starEach [ce] X.env = (false, eval ce X.env) :: starEach [] X.env := by exact starE (by rfl)) (hpl : (backTo pos (starEach [ce] X.env)).any (·.1) = false := by rfl) :
    PE (X.suite a ((a, oe) :: pn)) (.Call (.Name "isinstance" p) [x, ce] [] pos) (tI (g.at a c d) W true (eXi k fx)) :=
  (pe_callB (call_isX T hz hd) (X := X.suite a ((a, oe) :: pn)) hg hm (by decide +kernel) (pa_cons he (pa_cons hN pa_nil hst2) hst) (by decide) (by decide) hst hpl).imp fun σ H Q q => by
  obtain ⟨H0, Z, fps, σl, sr, o⟩ := q
  refine ⟨H0, Z, fps, σl, sr, o.bind.imp fun y o v H1 Z1 fp q1 => ?_⟩
  cases y with
  | obj c' fs =>
    have o1 : Out (g.at a c d) W Z σ H (if c' < 20 then R.ok (D.bl (k c')) else .bad) _ := o
    obtain ⟨hn, o2⟩ := Out.guard o1
    have o3 : ∀ (v : V) (H' : Hp) (Z' : Addr → Prop) (fp : List Addr), PostE (g.at a c d) true Z Z' H H' (D.bl (k c')) v fp → Q v H' := o2
    obtain ⟨rfl, rfl, rfl, hx⟩ := isx_dict (Z' := Z1) (H' := H1) (hins c' hn) q1.rep
    refine hcv σ H1 _ fun v2 H2 s2 hk => ?_
    refine ⟨v2, k c', rfl, fun dd e => ?_, hk H2 (same_refl H2), o3 (V.bl (k c')) H2 Z1 [] ⟨same_trans q1.same s2, q1.zx.trans q1.same (.stay q1.zx.inn s2), .bl _, fun _ => ⟨List.nodup_nil, fun _ h => nomatch h⟩⟩⟩
    obtain ⟨fs, h⟩ := hx dd e
    exact ⟨fs, s2 _ _ h⟩
  | _ => exact (show False from o).elim
theorem z_xX {n : Str} (k : Nat → Bool) (h : XcI X.K X.mg g.cls n k) (hcl : g.cls c = some (C, ns)) (hc : c < 20) (T : ExcC X.K C) (hz : Zc (.ref C) d oe) (hd : ∃ vs, oe.data = .fields vs) (hins : ∀ c, c < 20 → g.ins c = none)
    (he : PE (X.suite a ((a, oe) :: pn)) x (tI (g.at a c d) W bo fx)) (hm : X.mg "isinstance" = none) (hg : Gl X "isinstance" := by rfl) (hg2 : Gl X n := by rfl) (hdb : (n == ("__debug__" : Str)) = false := by decide)
    (hst : starEach [x, .Name n p3] X.env = (false, eval x X.env) :: starEach [.Name n p3] X.env := by exact starE (by rfl)) (hst2 : starEach [.Name n p3] X.env = (false, eval (.Name n p3) X.env) :: starEach [] X.env := by exact starE (by rfl)) (hpl : (backTo pos (starEach [.Name n p3] X.env)).any (·.1) = false := by rfl) :
    PE (X.suite a ((a, oe) :: pn)) (.Call (.Name "isinstance" p) [x, .Name n p3] [] pos) (tI (g.at a c d) W true (eXi k fx)) := by
  obtain ⟨C', hmg, hk⟩ := h
  refine se_xX k hc T hz hd hins he hm (pe_glob (X := X.suite a ((a, oe) :: pn)) (v := .ref C') hg2 hmg rfl hdb) (fun σ H Q q => ?_) hg hst hst2 hpl
  exact q _ H (same_refl H) fun H'' _ => .inl ⟨.ref C', fun u r => r, hk c C ns hcl⟩
theorem z_xXv {ty : String} {n : Str} (h : XcV X.K g.cls ty) (hcl : g.cls c = some (C, ns)) (hc : c < 20) (T : ExcC X.K C) (hz : Zc (.ref C) d oe) (hd : ∃ vs, oe.data = .fields vs) (hins : ∀ c, c < 20 → g.ins c = none)
    (he : PE (X.suite a ((a, oe) :: pn)) x (tI (g.at a c d) W bo fx)) (hm : X.mg "isinstance" = none) (hm2 : X.mg n = none) (hb : bootBuiltins n = some (.type ty) := by decide +kernel) (hn : n ≠ "__name__" := by decide) (hg : Gl X "isinstance" := by rfl) (hg2 : Gl X n := by rfl) (hdb : (n == ("__debug__" : Str)) = false := by decide)
    (hst : starEach [x, .Name n p3] X.env = (false, eval x X.env) :: starEach [.Name n p3] X.env := by exact starE (by rfl)) (hst2 : starEach [.Name n p3] X.env = (false, eval (.Name n p3) X.env) :: starEach [] X.env := by exact starE (by rfl)) (hpl : (backTo pos (starEach [.Name n p3] X.env)).any (·.1) = false := by rfl) :
    PE (X.suite a ((a, oe) :: pn)) (.Call (.Name "isinstance" p) [x, .Name n p3] [] pos) (tI (g.at a c d) W true (eXi (fun _ => true) fx)) := by
  refine se_xX (fun _ => true) hc T hz hd hins he hm (pe_bltn (X := X.suite a ((a, oe) :: pn)) hg2 hm2 hb (v := .ty ty) rfl hn hdb) (fun σ H Q q => ?_) hg hst hst2 hpl
  exact q _ H (same_refl H) fun H'' _ => .inl ⟨.type ty, fun u r => r, h c C ns hcl⟩
def tCs (cs : List Addr) : TA := fun _ H Q => Q (cs.map V.ref) H
theorem pa_cs0 : PA X [] (tCs []) := pa_nil
theorem pa_cs {n : Str} {es : List Expr} {cs : List Addr} {C : Addr} (hmg : X.mg n = some (.ref C)) (t : PA X es (tCs cs)) (hg : Gl X n := by rfl) (hdb : (n == ("__debug__" : Str)) = false := by decide) (hst : starEach (.Name n p :: es) X.env = (false, eval (.Name n p) X.env) :: starEach es X.env := by exact starE (by rfl)) : PA X (.Name n p :: es) (tCs (C :: cs)) :=
  pa_cons (pe_glob (v := .ref C) hg hmg rfl hdb) t hst
def oneOf2 (k l : Nat → Bool) (c : Nat) : Bool := k c || l c
theorem z_xX2 {n m : Str} {j : Nat} {pt p4 : Pos} (k l : Nat → Bool) (h : XcI X.K X.mg g.cls n k) (h' : XcI X.K X.mg g.cls m l) (hcl : g.cls c = some (C, ns)) (hc : c < 20) (T : ExcC X.K C) (hz : Zc (.ref C) d oe) (hd : ∃ vs, oe.data = .fields vs) (hins : ∀ c, c < 20 → g.ins c = none)
    (he : PE (X.suite a ((a, oe) :: pn)) x (tI (g.at a c d) W bo fx)) (hm : X.mg "isinstance" = none) (hg : Gl X "isinstance" := by rfl) (hg2 : Gl X n := by rfl) (hg3 : Gl X m := by rfl) (hdb : (n == ("__debug__" : Str)) = false := by decide) (hdb2 : (m == ("__debug__" : Str)) = false := by decide)
    (hs1 : starEach [.Name n p3, .Name m p4] X.env = (false, eval (.Name n p3) X.env) :: starEach [.Name m p4] X.env := by exact starE (by rfl)) (hs2 : starEach [.Name m p4] X.env = (false, eval (.Name m p4) X.env) :: starEach [] X.env := by exact starE (by rfl))
    (hst : starEach [x, .Tuple [.Name n p3, .Name m p4] j pt] X.env = (false, eval x X.env) :: starEach [.Tuple [.Name n p3, .Name m p4] j pt] X.env := by exact starE (by rfl)) (hst2 : starEach [.Tuple [.Name n p3, .Name m p4] j pt] X.env = (false, eval (.Tuple [.Name n p3, .Name m p4] j pt) X.env) :: starEach [] X.env := by exact starE (by rfl)) (hpl : (backTo pos (starEach [.Tuple [.Name n p3, .Name m p4] j pt] X.env)).any (·.1) = false := by rfl) :
    PE (X.suite a ((a, oe) :: pn)) (.Call (.Name "isinstance" p) [x, .Tuple [.Name n p3, .Name m p4] j pt] [] pos) (tI (g.at a c d) W true (eXi (oneOf2 k l) fx)) := by
  obtain ⟨C1, hmg, hk⟩ := h
  obtain ⟨C2, hmg2, hk2⟩ := h'
  refine se_xX (oneOf2 k l) hc T hz hd hins he hm (pe_tup (pa_cs (X := X.suite a ((a, oe) :: pn)) hmg (pa_cs (X := X.suite a ((a, oe) :: pn)) hmg2 pa_cs0 hg3 hdb2 hs2) hg2 hdb hs1)) (fun σ H Q q => ?_) hg hst hst2 hpl
  refine ⟨by rw [sizeLine_eq]; show 2 ≤ _; decide, fun T' hT => q _ _ (same_upd hT) fun H'' s => .inr ⟨T', [C1, C2], rfl, s _ _ upd_same, ?_⟩⟩
  have e1 := hk c C ns hcl
  have e2 := hk2 c C ns hcl
  show PySem.W.kitAny X.K (.ref C) [.ref C1, .ref C2] = some (k c || l c)
  unfold PySem.W.kitAny
  rw [e1]
  cases hkc : k c with
  | true => rfl
  | false =>
    unfold PySem.W.kitAny
    rw [e2]
    cases hlc : l c with
    | true => rfl
    | false => rfl
end
end DI
namespace DI
open PySem PySem.Spec PyProof.Rows L2
section
variable {g : Gv} {Z : Addr → Prop} {H : Hp}
variable {X : Cx} {W : L2.WX} {e e2 : Expr} {fe fk : Sl → R D} {i : Nat} {x : Str} {p pos spos apos cpos : Pos} {b b' : Bool}
theorem lst_write {H0 : Hp} {Z0 : Addr → Prop} {fps : List (List Addr)} {σl : Sl} {σ : L2.St} {E : Ends} {l : Addr} {vs vs' : List V} {xs' : List D} (ss : SS g H0 Z0 Z fps σl σ H) (e1 : σ[i]? = some (some (.ref l))) (e2 : fps[i]? = some [l]) (hl : H l = some (.lst vs)) (rs : Reps g Z H xs' vs' [])
    (o : OutS g W H0 Z0 Z H E (.nx (σl.set i (some (.lst true xs'))))) : E.nx σ (upd H l (.lst vs')) := by
  have own := ss.sr.own l (mem_at e2 l List.mem_cons_self)
  have ap := mem_apart ss.sr.nd e2 l List.mem_cons_self
  have ow : Owd g.P g.w l (H l) := .inl ⟨vs, hl⟩
  have rep2 : Rep g Z (upd H l (.lst vs')) (.lst true xs') (.ref l) [l] := .lst upd_same (rs.keep (fun _ z => z) (kp_upd ow own.1 (fun h => nomatch h))) own_new
  have r2 := ss.sr.put (i := i) (same_updO ss.sr.same own.2.1) (fun _ z => z) (fun a z => upd_some (ss.sr.z a z)) (kp_upd ow own.1 ap) (fun a ha => (ss.sr.own a (mem_set0 ha)).1) rep2 (by simp)
    (fun a ha => by rw [List.mem_singleton.mp ha]; exact ⟨ap, own.1, own.2.1⟩)
  rw [set_self e1] at r2
  exact o σ _ Z _ ⟨r2, ss.z0, ss.zn, ss.gh.ev (.upd ow own.1)⟩ (.upd ow own.1)
theorem lst_slot {H0 : Hp} {Z0 : Addr → Prop} {fps : List (List Addr)} {σl : Sl} {σ : L2.St} {xs : List D} (ss : SS g H0 Z0 Z fps σl σ H) (e0 : (getS σl i).bind lstOf = .ok xs) (hc : cleanL xs = true) : ∃ l vs, σ[i]? = some (some (.ref l)) ∧ fps[i]? = some [l] ∧ H l = some (.lst vs) ∧ Reps g Z H xs vs [] := by
  obtain ⟨v, fp, e1, e2, rp⟩ := ss.sr.slot i _ (getS_ok (lstOf_ok e0))
  obtain ⟨l, vs, fs, rfl, hl, rs, rfl⟩ := rep_own rp
  have hf := Reps.clean rs hc
  subst hf
  exact ⟨l, vs, e1, e2, hl, rs⟩
end
end DI
namespace DI
open PySem PySem.Spec PyProof.Rows L2
end DI
set_option maxHeartbeats 1000000
namespace ZQ
open PySem
open PySem.Sem (wp)
abbrev Z5 (h : Heap) (z TI TO : Addr) (f0 : Value) (f : Bool) : Prop := h.get? z = some { cls := .type "zip", dict := none, data := .fields #[f0, .bool f, .bool false, .ref TI, .ref TO], slots := #[] }
end ZQ
set_option maxHeartbeats 1000000
namespace ZQ
open PySem
open PySem.Sem (wp)
end ZQ
set_option maxHeartbeats 1000000
namespace ZQ
open PySem
open PySem.Sem (wp)
end ZQ
namespace DI
open PySem PySem.Spec PyProof.Rows L2 ZQ
end DI
namespace DI
open PySem PySem.Spec PyProof.Rows L2
end DI
namespace DI
open PySem PySem.Spec PyProof.Rows L2
def rOrdD (K : PySem.W.Frag) (f : PyData → PyData → Bool) : R2 := fun x y H Q => ∃ d e, Dp K H x d ∧ Dp K H y e ∧ SeqAt.shaped d = true ∧ SeqAt.shaped e = true ∧ PySem.W.alike d e = true ∧ d ≠ .none ∧ Q (.bl (f d e)) H
section
variable {X : Cx}
theorem shaped_dep {d : PyData} (h : SeqAt.shaped d = true) : d.depth ≤ 64 := by
  unfold SeqAt.shaped at h
  rw [Bool.and_eq_true, decide_eq_true_iff] at h
  exact h.2
theorem op_leO (hu : X.A.units + 64 < cLine) : OpR X (compareOp .LtE) (rOrdD X.K fun d e => !PySem.W.dataLt e d) := by
  intro pins s σ H x y v u Q I rx ry h
  obtain ⟨d, e, hd, he, sd, se, ha, hn, q⟩ := h
  obtain ⟨as, r1⟩ := Dp.reads I d x v hd rx
  obtain ⟨bs, r2⟩ := Dp.reads I e y u he ry
  have := shaped_dep sd
  exact PySem.W.le_data r1 r2 ha hn (by omega) ⟨.bl _, H, I, rfl, q⟩
def isPN : PyData → Bool
  | .none => true
  | _ => false
def ordD (neg : Bool) (x y : D) : R Bool :=
  match py x, py y with
  | some a, some b => if (SeqAt.shaped a && SeqAt.shaped b && PySem.W.alike a b && !isPN a) = true then .ok (if neg = true then !PySem.W.dataLt b a else PySem.W.dataLt a b) else .bad
  | _, _ => .bad
variable {g : Gv} {W : L2.WX}
theorem ordD_err {neg : Bool} {x y : D} : ∀ c fs, ordD neg x y ≠ .err c fs := fun c fs h => by
  unfold ordD at h
  split at h
  · split at h <;> cases h
  · cases h
theorem ordD_ok {neg : Bool} {x y : D} {b : Bool} (h : ordD neg x y = .ok b) : ∃ d e, py x = some d ∧ py y = some e ∧ SeqAt.shaped d = true ∧ SeqAt.shaped e = true ∧ PySem.W.alike d e = true ∧ d ≠ .none ∧ (if neg = true then !PySem.W.dataLt e d else PySem.W.dataLt d e) = b := by
  unfold ordD at h
  split at h
  · rename_i d e h1 h2
    split at h
    · rename_i hc
      simp only [Bool.and_eq_true, Bool.not_eq_true'] at hc
      cases h
      exact ⟨d, e, h1, h2, hc.1.1.1, hc.1.1.2, hc.1.2, fun q => by rw [q] at hc; exact absurd hc.2 (by decide), rfl⟩
    · cases h
  · cases h
theorem opd_leO (G : Gof g X) : OpD g W true (rOrdD X.K fun d e => !PySem.W.dataLt e d) (fun x y => blR (ordD true x y)) := by
  intro Z σ H x y v u fx fy Q hz rx ry o
  obtain ⟨b, h, q⟩ := Out.bl hz (fun c fs => ordD_err c fs) o
  obtain ⟨d, e, h1, h2, s1, s2, ha, hn, rfl⟩ := ordD_ok h
  rw [G.K]
  exact ⟨d, e, rx.dp h1, ry.dp h2, s1, s2, ha, hn, q⟩
def eLo (neg : Bool) (f k : Sl → R D) : Sl → R D := fun σ => (f σ).bind fun x => (k σ).bind fun y => blR (ordD neg x y)
variable {a b : Expr} {f k : Sl → R D} {x y : Bool} {pos : Pos}
end
end DI
namespace DI
open PySem PySem.Spec PyProof.Rows L2
section
variable {X : Cx} {g : Gv} {W : L2.WX}
theorem y_leO {a b : Expr} {f k : Sl → R D} {x y : Bool} {pos : Pos} (hu : X.A.units + 70 < cLine) (G : Gof g X) (h : PE X a (tI g W x f)) (h' : PE X b (tI g W y k)) : PT X (.Compare a [.LtE] [b] pos) (tIT g W (eLo true f k)) := st_cmp (op_leO (by omega)) (opd_leO G) h h' (nobehind b (by decide) (by decide))
end
end DI
set_option maxHeartbeats 1000000
namespace DI
open PySem PySem.Spec PyProof.Rows L2
inductive XR where
  | ok (d : D) (σ : Sl) | er (c : Nat) (fs : List D) (σ : Sl) | bad
abbrev XF := Sl → XR
section
variable {g : Gv} {W : L2.WX} {Z0 Z Z1 Z' : Addr → Prop} {H0 H H1 H' : Hp} {fps : List (List Addr)} {σl : Sl} {σ : L2.St}
def OutX (g : Gv) (W : L2.WX) (H0 : Hp) (Z0 Z : Addr → Prop) (H : Hp) (σ : L2.St) (r : XR) (P : D → Sl → Prop) : Prop :=
  match r with
  | .ok d σl => P d σl
  | .er c fs σl => ∀ H' Z' fps' cls d, SS g H0 Z0 Z' fps' σl σ H' → Ev g.tab Z Z' H H' → ExR g c fs cls d H' → W cls d σ H'
  | .bad => False
theorem OutX.pre {r : XR} {P P' : D → Sl → Prop} (e : Ev g.tab Z Z1 H H1) (hp : ∀ d σl, P d σl → P' d σl) (o : OutX g W H0 Z0 Z H σ r P) : OutX g W H0 Z0 Z1 H1 σ r P' := by
  cases r with
  | ok d σl => exact hp d σl o
  | er c fs σl => exact fun H' Z' fps' cls d s e' x => o H' Z' fps' cls d s (e.trans e') x
  | bad => exact o
theorem OutX.guard {c : Prop} [Decidable c] {r : XR} {P : D → Sl → Prop} (h : OutX g W H0 Z0 Z H σ (if c then r else .bad) P) : c ∧ OutX g W H0 Z0 Z H σ r P := by
  by_cases hc : c
  · rw [if_pos hc] at h; exact ⟨hc, h⟩
  · rw [if_neg hc] at h; exact h.elim
end
end DI
set_option maxHeartbeats 1000000
namespace DI
open PySem PySem.Spec PyProof.Rows L2
mutual
def noB : D → Bool
  | .non => true | .bl _ => true | .int _ => true | .str _ => true
  | .tup xs => noBL xs
  | .lst _ xs => noBL xs
  | .dct _ kvs => noBK kvs
  | .obj c fs => decide (c ≠ boxC) && noBL fs
def noBL : List D → Bool
  | [] => true
  | x :: xs => noB x && noBL xs
def noBK : List (NestedKey × D) → Bool
  | [] => true
  | (_, x) :: xs => noB x && noBK xs
end
def Gv.box (g : Gv) (a : Addr) : Gv := ⟨g.P, g.w, g.K, g.cls, fun c => if c = boxC then some (a, []) else g.ins c, g.cur, g.pin, g.tab, g.opq⟩
section
variable {g : Gv} {Z Z' Z1 : Addr → Prop} {H H' H0 : Hp} {a : Addr} {od : Obj} {kv : List (Key × V)}
def cb : Option D → Option D
  | some d => if noB d = true then some d else none
  | none => none
end
end DI
set_option maxHeartbeats 1000000
namespace DI
open PySem PySem.Spec PyProof.Rows L2
section
variable {X : Cx} {g : Gv} {W : L2.WX} {e a b : Expr} {f k : Sl → R D} {i : Nat} {x y : Bool} {pos p apos cpos : Pos} {n : Str}
def sPopN (i : Nat) : SF := fun σ => rS ((getS σ i).bind lstOf) σ fun xs => if cleanL xs = true ∧ xs ≠ [] then .nx (σ.set i (some (.lst true xs.dropLast))) else .bad
theorem t_popN (i : Nat) (hN : X.N[i]? = some n := by rfl) (hv : Vis X.env.scope n := by first | exact Or.inl rfl | exact Or.inr (Or.inl rfl) | exact Or.inr (Or.inr rfl)) (hd : (n == ("__debug__" : Str)) = false := by decide) (hcd : (n == ("__classdict__" : Str)) = false := by decide)
    (hbase : attributeBase (.Name n p) "pop" X.env (eval (.Name n p) X.env) = eval (.Name n p) X.env := by rfl)
    (hline : (apos.endLine == cpos.line) = true := by rfl)
    (hs : swapsWith (.Call (.Attribute (.Name n p) "pop" apos) [] [] cpos) none pos.line X.env = pure false := by rfl) :
    PS X (.Expr (.Call (.Attribute (.Name n p) "pop" apos) [] [] cpos) pos) (tS g W (sPopN i)) :=
  (ps_expr (pe_bm0 PySem.F.plainAttrs_list PySem.F.slot_list_pop PySem.F.type_list_pop mt_pop (pe_var hN hv hd hcd) hbase hline) hs).imp fun E σ H q => by
  obtain ⟨H0, Z0, Z, fps, σl, ss, o⟩ := q
  obtain ⟨xs, e0, o⟩ := (OutS.rS ss o).okOf fun c fs => lstOf_err getS_err
  obtain ⟨⟨hc, hn⟩, o9⟩ := OutS.guard o
  obtain ⟨l, vs, e1, e2, hl, rs⟩ := lst_slot ss e0 hc
  have len := rs.length
  have hne : vs.length - 1 < vs.length := by
    have : xs.length ≠ 0 := fun q => hn (List.length_eq_zero_iff.mp q)
    omega
  refine ⟨.ref l, e1, .inl ⟨rfl, vs, .inl (.inl hl)⟩, l, vs, vs[vs.length - 1], rfl, rfl, hl, List.getElem?_eq_getElem hne, ?_⟩
  refine lst_write ss e1 e2 hl ?_ o9
  rw [List.dropLast_eq_take, List.dropLast_eq_take, len]
  exact Reps.take0 _ rs
end
end DI
set_option maxHeartbeats 1000000
namespace DI
open PySem PySem.Spec PyProof.Rows L2
end DI
set_option maxHeartbeats 1000000
namespace DI
open PySem PySem.Spec PyProof.Rows L2
section
variable {P : Program} {w : World} {K : PySem.W.Frag} {mg : Str → Option Value} {base : Heap} {z : Str}
def DefOkD (P : Program) (w : World) (K : PySem.W.Frag) (mg : Str → Option Value) (base : Heap) (g : Gv) (k : Nat) (n : Str) (ps : List Str) (m : Nat) (z : Str) (h : List D → R D) : Prop :=
  ∃ f fd, mg n = some (.ref f) ∧ PySem.W.keepIn K (.ref f) = true ∧ Binds K fd ps [] ∧ (∃ ds, Vals [V.str z] ds ∧ Binds K fd ps ds) ∧ FnOk P w K mg base (L2.CX P w) k f fd ps (spI g m h)
theorem DefOkD.full {g : Gv} {k m : Nat} {n : Str} {ps : List Str} {h : List D → R D} (F : DefOkD P w K mg base g k n ps m z h) : DefOk P w K mg base g k n ps m h := by
  obtain ⟨f, fd, h1, h2, h3, _, h5⟩ := F
  exact ⟨f, fd, h1, h2, h3, h5⟩
end
end DI
set_option maxHeartbeats 3200000
namespace DI
open PySem PySem.Spec PyProof.Rows L2
instance instBEqKey' : BEq Key := instBEqOfDecidableEq
end DI
set_option maxHeartbeats 1000000
namespace DI
open PySem PySem.Spec PyProof.Rows L2
section
variable {X : Cx} {g : Gv} {W : L2.WX} {e c a : Expr} {fe fc fk : Sl → R D} {i : Nat} {x y z : Bool} {pos p apos cpos spos spos2 : Pos} {n : Str}
theorem nodup_at {α : Type} : ∀ {fps : List (List α)} {i : Nat} {fp : List α}, fps.flatten.Nodup → fps[i]? = some fp → fp.Nodup
  | [], _, _, _, e => by simp at e
  | f :: fs, 0, fp, h, e => by
    simp at e; subst e
    rw [List.flatten_cons] at h
    exact (List.nodup_append.mp h).1
  | f :: fs, i + 1, fp, h, e => by
    rw [List.flatten_cons] at h
    exact nodup_at (List.nodup_append.mp h).2.1 (by simpa using e)
end
end DI
set_option maxHeartbeats 1000000
namespace DI
open PySem PySem.Spec PyProof.Rows L2
end DI
namespace DI
open PySem PySem.Spec PyProof.Rows L2
end DI
set_option maxHeartbeats 1000000
namespace DI
open PySem PySem.Spec PyProof.Rows L2
end DI
namespace DI
open PySem PySem.Spec PyProof.Rows L2
end DI
set_option maxHeartbeats 1000000
namespace DI
open PySem PySem.Spec PyProof.Rows L2
end DI
namespace DI
open PySem PySem.Spec PyProof.Rows L2
end DI
set_option maxHeartbeats 1000000
namespace DI
open PySem PySem.Spec PyProof.Rows L2
end DI
set_option maxHeartbeats 1000000
namespace DI
open PySem PySem.Spec PyProof.Rows L2
end DI
namespace DI
open PySem PySem.Spec PyProof.Rows L2
end DI
set_option maxHeartbeats 1000000
namespace DI
open PySem PySem.Spec PyProof.Rows L2
abbrev Gv.np (g : Gv) : Gv := ⟨g.P, g.w, g.K, g.cls, g.ins, g.cur, none, none, g.opq⟩
abbrev Gv.pn (g : Gv) (a : Addr) : Gv := ⟨g.P, g.w, g.K, g.cls, g.ins, g.cur, some a, none, g.opq⟩
end DI
set_option maxHeartbeats 1000000
namespace DI
open PySem PySem.Spec PyProof.Rows L2
end DI
set_option maxHeartbeats 1000000
namespace DI
open PySem PySem.Spec PyProof.Rows L2
end DI
set_option maxHeartbeats 1000000
namespace DI
open PySem PySem.Spec PyProof.Rows L2 LamX NdefX
mutual
def plainT : D → Bool
  | .non => true
  | .bl _ => true
  | .int _ => true
  | .str _ => true
  | .tup xs => plainL xs
  | _ => false
def plainL : List D → Bool
  | [] => true
  | x :: xs => plainT x && plainL xs
end
section
variable {g g' : Gv} {Z Z' : Addr → Prop} {H H' : Hp}
mutual
theorem Rep.plain (hK : g'.K = g.K) (k : ∀ a vs, Rd H a (.tup vs) → Rd H' a (.tup vs)) : ∀ {d : D} {v : V} {fp : List Addr}, Rep g Z H d v fp → plainT d = true → Rep g' Z' H' d v fp
  | _, _, _, .non, _ => .non
  | _, _, _, .bl b, _ => .bl b
  | _, _, _, .int i, _ => .int i
  | _, _, _, .str x, _ => .str x
  | _, _, _, .tup h hs, c => .tup (by rw [hK]; exact sqT_keep (g := g) k h) (Reps.plain hK k hs (by rw [plainT] at c; exact c))
  | _, _, _, .lst _ _ _, c => by simp [plainT] at c
  | _, _, _, .lstR _ _, c => by simp [plainT] at c
  | _, _, _, .dK _ _ _ _, c => by simp [plainT] at c
  | _, _, _, .dN _ _ _ _ _ _, c => by simp [plainT] at c
  | _, _, _, .exc0 _, c => by simp [plainT] at c
  | _, _, _, .excD _ _ _ _ _, c => by simp [plainT] at c
  | _, _, _, .ins _ _ _ _ _, c => by simp [plainT] at c
  | _, _, _, .box _ _ _ _ _, c => by simp [plainT] at c
  | _, _, _, .opq _ _ _ _ _, c => by simp [plainT] at c
theorem Reps.plain (hK : g'.K = g.K) (k : ∀ a vs, Rd H a (.tup vs) → Rd H' a (.tup vs)) : ∀ {ds : List D} {vs : List V} {fp : List Addr}, Reps g Z H ds vs fp → plainL ds = true → Reps g' Z' H' ds vs fp
  | _, _, _, .nil, _ => .nil
  | _, _, _, .cons h hs, c => by
    rw [plainL, Bool.and_eq_true] at c
    exact .cons (Rep.plain hK k h c.1) (Reps.plain hK k hs c.2)
end
end
end DI
set_option maxHeartbeats 1000000
namespace DI
open PySem PySem.Spec PyProof.Rows L2 LamX NdefX
end DI
set_option maxHeartbeats 1000000
namespace DI
open PySem PySem.Spec PyProof.Rows L2 LamX NdefX
end DI
set_option maxHeartbeats 1000000
namespace DI
open PySem PySem.Spec PyProof.Rows L2 LamX NdefX
end DI
set_option maxHeartbeats 2000000
namespace DI
open PySem PySem.Spec PyProof.Rows L2
abbrev excM : Nat := 1004
def excD (c : Nat) (fs : List D) : D := .obj excM [.tup (.int c :: fs)]
end DI
set_option maxHeartbeats 1000000
namespace DI
open PySem PySem.Spec PyProof.Rows L2
mutual
def unkey : NestedKey → D
  | .none => .non
  | .num i => .int i
  | .text x => .str x
  | .tup qs => .tup (unkeyL qs)
def unkeyL : List NestedKey → List D
  | [] => []
  | q :: qs => unkey q :: unkeyL qs
end
section
variable {g : Gv} {Z : Addr → Prop} {H : Hp}
mutual
theorem KRepS.rep : ∀ {q : NestedKey} {v : V}, KRepS g.K H q v → Rep g Z H (unkey q) v []
  | _, _, .none => by rw [unkey]; exact .non
  | _, _, .num i => by rw [unkey]; exact .int i
  | _, _, .text x => by rw [unkey]; exact .str x
  | _, _, .tup h hs => by rw [unkey]; exact .tup h (KReps.rep hs)
theorem KReps.rep : ∀ {qs : List NestedKey} {vs : List V}, KReps g.K H qs vs → Reps g Z H (unkeyL qs) vs []
  | _, _, .nil => by rw [unkeyL]; exact .nil
  | _, _, .cons h hs => by rw [unkeyL]; exact .cons (f := []) (fs := []) (KRepS.rep h) (KReps.rep hs)
end
variable {X : Cx} {W : L2.WX} {e : Expr} {es : List Expr} {f : Sl → R D} {x : Bool} {pos p : Pos}
theorem paired_refs {ys : List (NestedKey × Addr × V)} {zs : List (NestedKey × Addr × Value)} (h : Paired (fun (p : NestedKey × Addr × V) (q : NestedKey × Addr × Value) => p.1 = q.1 ∧ p.2.1 = q.2.1 ∧ RelV p.2.2 q.2.2) ys zs) : (zs.map fun z => Value.ref z.2.1) = ys.map (Value.ref ∘ fun y => y.2.1) := by
  induction h with
  | nil => rfl
  | cons hp _ ih =>
    rw [List.map_cons, List.map_cons, ih, ← hp.2.1]
    rfl
theorem call_list_dN (hc : X.calm = true) : CallR X (.type "list") (fun xs H Q => ∃ a od ys, xs = [V.ref a] ∧ H a = some (rawN X.prog X.w a od ys) ∧ ∀ l, H l = none → Q (.ref l) (upd H l (.lst (ys.map fun y => V.ref y.2.1)))) := by
  intro pins s σ H xs us Q I r h
  obtain ⟨a, od, ys, rfl, ha, q⟩ := h
  obtain ⟨u, rfl, rx⟩ := vals1 r
  cases rx
  obtain ⟨⟨hl, hs, hn, zs, hq, en, ep, h1, h2, h3, h4⟩, _⟩ := I.hok a _ ha
  have l1 : en.size = zs.length := by rw [← Array.length_toList, h4, List.length_map]
  have l2 : ys.length = zs.length := Paired.length hq
  refine PySem.W.kdl_call (kdl_raw hs h2 h3) (I.ok.hd hc) h1 (by omega) fun h' tk acc c kp st it => ?_
  have ea : acc.toList = zs.map fun z => Value.ref z.2.1 := by
    refine List.ext_getElem? fun j => ?_
    rw [List.getElem?_map]
    cases hj : acc.toList[j]? with
    | none =>
      have := List.getElem?_eq_none_iff.mp hj
      rw [Array.length_toList, it.1] at this
      rw [List.getElem?_eq_none (by omega)]; rfl
    | some v =>
      obtain ⟨d, hd, hv⟩ := it.2 j v (by rw [← Array.getElem?_toList]; exact hj)
      have e2 : en.toList[j]? = some d := by rw [Array.getElem?_toList]; exact hd
      rw [h4, List.getElem?_map] at e2
      cases hz : zs[j]? with
      | none => rw [hz] at e2; cases e2
      | some z =>
        rw [hz] at e2
        cases e2
        rw [hv]; rfl
  have eb : (ys.map fun y => V.ref y.2.1) = (ys.map fun y => y.2.1).map V.ref := by rw [List.map_map]; rfl
  have ec : acc.toList = (ys.map fun y => y.2.1).map Value.ref := by
    rw [ea, List.map_map]
    exact paired_refs hq
  have rv : Vals (ys.map fun y => V.ref y.2.1) acc.toList := by rw [eb, ec]; exact vals_refs _
  refine ⟨.ref s.heap.objs.size, _, I.laid (t' := tk) (o := .lst (ys.map fun y => V.ref y.2.1)) kp (Nat.le_refl _) ⟨by rw [List.length_map]; exact hl, acc.toList, c, rv, by rw [Array.toArray_toList]; exact st⟩, rfl, q _ (I.hok.fresh (Nat.le_refl _))⟩
def looseB : NestedKey → Bool
  | .tup [.num _, .num _] => true
  | _ => false
theorem KRep.strict {q : NestedKey} {v : V} (h : KRep g.K H q v) (n : looseB q = false) : KRepS g.K H q v := by
  rcases h with h | ⟨a, b, r, rfl, _, _⟩
  · exact h
  · cases n
def ldD : List D → R D
  | [.dct _ kvs] => if (kvs.all fun p => !looseB p.1) = true then .ok (.lst true (kvs.map fun p => unkey p.1)) else .bad
  | _ => .bad
theorem reps_kv : ∀ {kv : List (Key × V)} {kvs : List (NestedKey × D)}, (kv.map fun p => nk p.1) = kvs.map (·.1) → Reps g Z H (kvs.map fun p => unkey p.1) (kv.map fun p => kV p.1) []
  | [], [], _ => .nil
  | [], _ :: _, h => by cases h
  | _ :: _, [], h => by cases h
  | (k, v) :: kv, (q, d) :: kvs, h => by
    obtain ⟨h1, h2⟩ := List.cons.inj h
    have h1 : nk k = q := h1
    subst h1
    refine .cons (f := []) (fs := []) ?_ (reps_kv h2)
    show Rep g Z H (unkey (nk k)) (kV k) []
    cases k with
    | inl i => show Rep g Z H (unkey (.num i)) (.int i) []; rw [unkey]; exact .int i
    | inr t => show Rep g Z H (unkey (.text t)) (.str t) []; rw [unkey]; exact .str t
theorem reps_nv : ∀ {ys : List (NestedKey × Addr × V)} {kvs : List (NestedKey × D)}, ys.map (·.1) = kvs.map (·.1) → (∀ p ∈ ys, KRep g.K H p.1 (.ref p.2.1) ∧ p.1.depth ≤ 8) → (kvs.all fun p => !looseB p.1) = true → Reps g Z H (kvs.map fun p => unkey p.1) (ys.map fun y => V.ref y.2.1) []
  | [], [], _, _, _ => .nil
  | [], _ :: _, h, _, _ => by cases h
  | _ :: _, [], h, _, _ => by cases h
  | y :: ys, (q, d) :: kvs, h, hk, ha => by
    rw [List.all_cons, Bool.and_eq_true] at ha
    obtain ⟨h1, h2⟩ := List.cons.inj h
    have h1 : y.1 = q := h1
    subst h1
    exact .cons (f := []) (fs := []) (KRepS.rep ((hk y List.mem_cons_self).1.strict (by simpa using ha.1))) (reps_nv h2 (fun p hp => hk p (List.mem_cons_of_mem _ hp)) ha.2)
theorem opc_ld (G : Gof g X) : OpC g W true (fun xs H Q => rListD xs H Q ∨ ∃ a od ys, xs = [V.ref a] ∧ H a = some (rawN X.prog X.w a od ys) ∧ ∀ l, H l = none → Q (.ref l) (upd H l (.lst (ys.map fun y => V.ref y.2.1)))) ldD := by
  intro Z σ H ds vs fp Q hz r o
  by_cases hs : ∃ ow kvs, ds = [.dct ow kvs]
  · obtain ⟨ow, kvs, rfl⟩ := hs
    obtain ⟨v, rfl, rx⟩ := reps1 r
    obtain ⟨hall, o⟩ := Out.guard (show Out g W Z σ H (if (kvs.all fun p => !looseB p.1) = true then R.ok (D.lst true (kvs.map fun p => unkey p.1)) else .bad) _ from o)
    have o : ∀ v H' Z' fp, PostE g true Z Z' H H' (D.lst true (kvs.map fun p => unkey p.1)) v fp → Q v H' := o
    cases rx with
    | @dK a kv _ _ _ h e hs w =>
      exact .inl ⟨a, kv, rfl, h, fun l hl => o _ _ Z [l] (post_new hz hl (.lst upd_same (reps_kv e) own_new) (.inr rfl))⟩
    | @dN a od ys _ _ _ h e ne hk hs w =>
      refine .inr ⟨a, od, ys, rfl, by rw [G.P, G.w]; exact h, fun l hl => o _ _ Z [l] (post_new hz hl (.lst upd_same ((reps_nv e hk hall).same (fun _ z => z) (same_upd hl)) own_new) (.inr rfl))⟩
  · exfalso
    match ds, hs, o with
    | [], _, o => exact o.elim
    | x :: y :: r, _, o => cases x <;> exact o.elim
    | [x], hs, o =>
      cases x with
      | dct ow kvs => exact hs ⟨_, _, rfl⟩
      | _ => exact o.elim
def eLd (f : Sl → R D) : Sl → R D := fun σ => (f σ).bind fun r => (tupOf r).bind fun ds => ldD ds
theorem z_ld (hc : X.calm = true) (G : Gof g X) (ha : PA X (e :: es) (tIA g W x f)) (hm : X.mg "list" = none) (hg : Gl X "list" := by rfl) (he : starEach (e :: es) X.env = (false, eval e X.env) :: starEach es X.env := by exact starE (by rfl)) (hpl : (backTo pos (starEach es X.env)).any (·.1) = false := by rfl) :
    PE X (.Call (.Name "list" p) (e :: es) [] pos) (tI g W true (eLd f)) := se_callTy ((call_list_dK hc).or (call_list_dN hc)) (opc_ld G) hg hm (by decide +kernel) ha (by decide) (by decide) he hpl
end
def sRetT2 (i j : Nat) : SF := fun σ => rS (getS σ i) σ fun d => rS (getS σ j) σ fun d' => if i ≠ j then .rt (.tup [d, d']) else .bad
def sUnpT2 (i j : Nat) (f : Sl → R D) : SF := fun σ => rS (f σ) σ fun d => match d with
  | .tup [x, y] => if clean y = true then .nx ((σ.set i (some x)).set j (some y)) else .bad
  | _ => .bad
section
variable {X : Cx} {g : Gv} {W : L2.WX} {e : Expr} {fe : Sl → R D} {p pos : Pos} {n : Str} {kk : Nat}
theorem t_retT2 (i j : Nat) {m : Str} {pm pl : Pos} (hN : X.N[i]? = some n := by rfl) (hM : X.N[j]? = some m := by rfl) (hv : Vis X.env.scope n := by first | exact Or.inl rfl | exact Or.inr (Or.inl rfl) | exact Or.inr (Or.inr rfl)) (hv2 : Vis X.env.scope m := by first | exact Or.inl rfl | exact Or.inr (Or.inl rfl) | exact Or.inr (Or.inr rfl)) (hd : (n == ("__debug__" : Str)) = false := by decide) (hcd : (n == ("__classdict__" : Str)) = false := by decide) (hd2 : (m == ("__debug__" : Str)) = false := by decide) (hcd2 : (m == ("__classdict__" : Str)) = false := by decide)
    (hs1 : starEach [.Name n p, .Name m pm] X.env = (false, eval (.Name n p) X.env) :: starEach [.Name m pm] X.env := by exact starE (by rfl)) (hs2 : starEach [.Name m pm] X.env = (false, eval (.Name m pm) X.env) :: starEach [] X.env := by exact starE (by rfl)) (hpn : g.pin = none := by rfl) :
    PS X (.Return (some (.Tuple [.Name n p, .Name m pm] kk pl)) pos) (tS g W (sRetT2 i j)) :=
  (ps_ret (pe_tup (pa_cons (pe_var hN hv hd hcd) (pa_cons (pe_var hM hv2 hd2 hcd2) pa_nil hs2) hs1))).imp fun E σ H q => by
  obtain ⟨H0, Z0, Z, fps, σl, ss, o⟩ := q
  obtain ⟨d, e, o⟩ := (OutS.rS ss o).okOf fun c fs => getS_err
  obtain ⟨d', e', o⟩ := (OutS.rS ss o).okOf fun c fs => getS_err
  obtain ⟨hij, o⟩ := OutS.guard o
  obtain ⟨v, fp, e1, e2, rp⟩ := ss.sr.slot i d (getS_ok e)
  obtain ⟨v', fp', e1', e2', rp'⟩ := ss.sr.slot j d' (getS_ok e')
  refine ⟨v, e1, v', e1', by rw [sizeLine_eq]; show 2 ≤ _; decide, fun q hq => ?_⟩
  have o1 := fun a (ha : a ∈ fp) => ss.sr.own a (mem_at e2 a ha)
  have o2 := fun a (ha : a ∈ fp') => ss.sr.own a (mem_at e2' a ha)
  have n1 := nodup_at ss.sr.nd e2
  have n2 := nodup_at ss.sr.nd e2'
  have dj : ∀ a ∈ fp, ∀ b ∈ fp', a ≠ b := fun a ha b hb q => by
    subst q
    refine mem_apart ss.sr.nd e2 a ha (List.mem_flatten.mpr ⟨fp', ?_, hb⟩)
    exact List.mem_of_getElem? (i := j) (by rw [List.getElem?_set_ne hij]; exact e2')
  have rr : Reps g Z H [d, d'] [v, v'] (fp ++ (fp' ++ [])) := .cons rp (.cons rp' .nil)
  rw [List.append_nil] at rr
  have zx : Zx Z0 Z H0 H := ⟨ss.z0, ss.zn, ss.sr.z⟩
  refine RtOk.n o hpn _ _ Z (fp ++ fp') ⟨same_trans ss.sr.same (same_upd hq), zx.trans ss.sr.same (.stay zx.inn (same_upd hq)), .tup (.inl (.inl upd_same)) (rr.same (fun _ z => z) (same_upd hq)), fun _ => ?_⟩ fun p e => (ss.gh.tab p e).same (same_upd hq) fun _ z => z
  refine ⟨List.nodup_append.mpr ⟨n1, n2, dj⟩, fun a ha => ?_⟩
  rcases List.mem_append.mp ha with h | h
  · exact ⟨(o1 a h).2.1, fun z => (o1 a h).1 z⟩
  · exact ⟨(o2 a h).2.1, fun z => (o2 a h).1 z⟩
theorem t_unpT2 {tn tm : Pos} {m : Str} {tp : Pos} (i j : Nat) (G : Gof g X) (nd : X.N.Nodup) (he : PE X e (tI g W true fe)) (hi : X.N[i]? = some n := by rfl) (hj : X.N[j]? = some m := by rfl) (hx : Loc X.env.scope n := by first | exact Or.inl rfl | exact Or.inr rfl) (hx2 : Loc X.env.scope m := by first | exact Or.inl rfl | exact Or.inr rfl)
    (hf : X.fn n = true ∨ X.env.scope.names.lookup n = some .local := by first | exact Or.inl rfl | exact Or.inr rfl) (hf2 : X.fn m = true ∨ X.env.scope.names.lookup m = some .local := by first | exact Or.inl rfl | exact Or.inr rfl) (hc : X.calm = true := by rfl)
    (ha1 : (assignEach [.Name n tn, .Name m tm] X.env).map (·.2) = assign (.Name n tn) X.env :: (assignEach [.Name m tm] X.env).map (·.2) := by rfl) (ha2 : (assignEach [.Name m tm] X.env).map (·.2) = assign (.Name m tm) X.env :: (assignEach [] X.env).map (·.2) := by rfl) (hn : (assignEach [.Name n tn, .Name m tm] X.env).length = 2 := by rfl) (hst : (assignEach [.Name n tn, .Name m tm] X.env).findIdx? (·.1) = none := by rfl)
    (hs : swapsWithSole [.Tuple [.Name n tn, .Name m tm] kk tp] e pos.line X.env = pure false := by rfl) (hw : swappedStores [.Tuple [.Name n tn, .Name m tm] kk tp] e X.env = pure none := by rfl) (h1 : (assignEach [.Tuple [.Name n tn, .Name m tm] kk tp] X.env).map (·.2) = [assign (.Tuple [.Name n tn, .Name m tm] kk tp) X.env] := by rfl) (np : Np g i := by first | exact Or.inl rfl | exact Or.inr (by decide)) (np2 : Np g j := by first | exact Or.inl rfl | exact Or.inr (by decide)) :
    PS X (.Assign [.Tuple [.Name n tn, .Name m tm] kk tp] e pos) (tS g W (sUnpT2 i j fe)) := (ps_asg he (pg_tup hc (pgs_cons (pg_name nd hi hx hf) (pgs_cons (pg_name nd hj hx2 hf2) pgs_nil ha2) ha1) hn hst) hs hw h1).imp fun E σ H q => by
  obtain ⟨H0, Z0, Z, fps, σl, ss, o⟩ := q
  refine ⟨H0, Z, fps, σl, ss.sr, (OutS.rS ss o).imp fun d o v H' Z' fp pp => ?_⟩
  have ss1 := ss.step pp.same pp.zx
  have sh : ∃ x y, d = .tup [x, y] ∧ clean y = true ∧ OutS g W H0 Z0 Z H E (.nx ((σl.set i (some x)).set j (some y))) := by
    cases d with
    | tup ds =>
      match ds, o with
      | [x, y], o =>
        obtain ⟨hc, o⟩ := OutS.guard (show OutS g W H0 Z0 Z H E (if clean y = true then .nx ((σl.set i (some x)).set j (some y)) else .bad) from o)
        exact ⟨x, y, rfl, hc, o⟩
      | [], o => exact o.elim
      | [_], o => exact o.elim
      | _ :: _ :: _ :: _, o => exact o.elim
    | _ => exact (show False from o).elim
  obtain ⟨x, y, rfl, hcy, o⟩ := sh
  obtain ⟨a, vs, rfl, hq, rs⟩ := rep_tup pp.rep
  generalize hfp : fp = fp0 at rs
  cases rs with
  | @cons _ v1 _ _ f1 f2 r1 rs =>
    cases rs with
    | @cons _ v2 _ _ f3 f4 r2 rs =>
      cases rs
      have e3 := r2.clean hcy
      subst e3
      rw [List.append_nil, List.append_nil] at hfp
      subst hfp
      obtain ⟨nd1, ow1⟩ := pp.own rfl
      refine ⟨a, [v1, v2], rfl, by rw [G.K]; exact hq, rfl, v1, [v2], rfl, v2, [], rfl, rfl, ?_⟩
      have sr1 := ss.sr.bind i (⟨pp.same, pp.zx, r1, fun _ => ⟨nd1, ow1⟩⟩ : PostE g true Z Z' H H' x v1 fp)
      have sr2 := sr1.bind0 j r2
      exact o _ H' Z' _ ⟨sr2, ss1.z0, ss1.zn, (ss1.gh.set np).set np2⟩ (.of_zx pp.same pp.zx)
end
end DI
namespace DI
open PySem
@[simp] theorem u_eV (i : Nat) (σ : Sl) : eV i σ = getS σ i := rfl
@[simp] theorem u_eK (d : D) (σ : Sl) : eK d σ = .ok d := rfl
@[simp] theorem u_eO (f : Sl → R D) (σ : Sl) : eO f σ = (f σ).bind fun d => if clean d = true then .ok d else .bad := rfl
@[simp] theorem u_eNeg (f : Sl → R D) (σ : Sl) : eNeg f σ = (f σ).bind fun x => (intOf x).bind fun i => .ok (.int (-i)) := rfl
@[simp] theorem u_eNot (f : Sl → R D) (σ : Sl) : eNot f σ = (f σ).bind fun x => (boolOf x).bind fun i => .ok (.bl (!i)) := rfl
@[simp] theorem u_eB (o : Bop) (f k : Sl → R D) (σ : Sl) : eB o f k σ = (f σ).bind fun x => (k σ).bind fun y => binD o x y := rfl
@[simp] theorem u_eC (o : Cop) (f k : Sl → R D) (σ : Sl) : eC o f k σ = (f σ).bind fun x => (k σ).bind fun y => blR (cmpD o x y) := rfl
@[simp] theorem u_eCC (o o' : Cop) (f k l : Sl → R D) (σ : Sl) : eCC o o' f k l σ = (f σ).bind fun x => (k σ).bind fun y => (cmpD o x y).bind fun r => if r = true then (l σ).bind fun z => (cmpD o' y z).bind fun r => .ok (.bl r) else .ok (.bl false) := rfl
@[simp] theorem u_eAnd (f k : Sl → R D) (σ : Sl) : eAnd f k σ = (f σ).bind fun x => (boolOf x).bind fun r => if r = true then (k σ).bind fun y => (boolOf y).bind fun r => .ok (.bl r) else .ok (.bl false) := rfl
@[simp] theorem u_eOr (f k : Sl → R D) (σ : Sl) : eOr f k σ = (f σ).bind fun x => (boolOf x).bind fun r => if r = true then .ok (.bl true) else (k σ).bind fun y => (boolOf y).bind fun r => .ok (.bl r) := rfl
@[simp] theorem u_eIf (c f k : Sl → R D) (σ : Sl) : eIf c f k σ = (c σ).bind fun x => (boolOf x).bind fun r => if r = true then f σ else k σ := rfl
@[simp] theorem u_eIx (f k : Sl → R D) (σ : Sl) : eIx f k σ = (f σ).bind fun x => (k σ).bind fun y => idxD x y := rfl
@[simp] theorem u_aN (σ : Sl) : aN σ = .ok (.tup []) := rfl
@[simp] theorem u_aC (f k : Sl → R D) (σ : Sl) : aC f k σ = (f σ).bind fun x => (k σ).bind fun r => (tupOf r).bind fun xs => .ok (.tup (x :: xs)) := rfl
@[simp] theorem u_eTup (f : Sl → R D) (σ : Sl) : eTup f σ = (f σ).bind fun r => (tupOf r).bind fun xs => if xs.length ≤ sizeLine then .ok (.tup xs) else .bad := rfl
@[simp] theorem u_eLst (f : Sl → R D) (σ : Sl) : eLst f σ = (f σ).bind fun r => (tupOf r).bind fun xs => if xs.length ≤ sizeLine then .ok (.lst true xs) else .bad := rfl
@[simp] theorem u_eD0 (σ : Sl) : eD0 σ = .ok (.dct true []) := rfl
@[simp] theorem u_eD1 (f k : Sl → R D) (σ : Sl) : eD1 f k σ = (f σ).bind fun x => (k σ).bind fun y => dispD x y := rfl
@[simp] theorem u_eSl (f : Sl → R D) (nb : Bool) (k : Sl → R D) (nc : Bool) (l : Sl → R D) (σ : Sl) : eSl f nb k nc l σ = (f σ).bind fun x => (k σ).bind fun l' => (partD (if nb = true then none else some l')).bind fun l' => (l σ).bind fun h => (partD (if nc = true then none else some h)).bind fun h => slD x l' h := rfl
@[simp] theorem u_eBi (b : Bi) (f : Sl → R D) (σ : Sl) : eBi b f σ = (f σ).bind fun r => (tupOf r).bind fun ds => biD b ds := rfl
@[simp] theorem u_eF (h : List D → R D) (f : Sl → R D) (σ : Sl) : eF h f σ = (f σ).bind fun r => (tupOf r).bind fun ds => (h (frzL ds)).bind fun d => if (cleanL ds || noFrz d) = true then .ok d else .bad := rfl
@[simp] theorem u_eMt (m : Mt) (f k : Sl → R D) (σ : Sl) : eMt m f k σ = (f σ).bind fun x => if recvOk m x = true then (k σ).bind fun r => (tupOf r).bind fun ds => mtD m x ds else .bad := rfl
@[simp] theorem u_eIsi (t : Ty) (f : Sl → R D) (σ : Sl) : eIsi t f σ = (f σ).bind fun d => blR (isTy t d) := rfl
@[simp] theorem u_eT (σ : Sl) : eT σ = .ok (.bl true) := rfl
@[simp] theorem u_iSeqq (f : Sl → R D) (σ : Sl) : iSeq' f σ = (f σ).bind itemsD := rfl
@[simp] theorem u_iEn (f : Sl → R D) (σ : Sl) : iEn f σ = (f σ).bind fun r => (tupOf r).bind enumD := rfl
@[simp] theorem u_iR1 (f : Sl → R D) (σ : Sl) : iR1 f σ = (f σ).bind fun r => (tupOf r).bind rng1D := rfl
@[simp] theorem u_iR2 (f : Sl → R D) (σ : Sl) : iR2 f σ = (f σ).bind fun r => (tupOf r).bind rng2D := rfl
@[simp] theorem u_iZ (f : Sl → R D) (σ : Sl) : iZ f σ = (f σ).bind fun r => (tupOf r).bind zipD := rfl
@[simp] theorem u_sSkip (σ : Sl) : sSkip σ = .nx σ := rfl
@[simp] theorem u_sSeq (f k : SF) (σ : Sl) : sSeq f k σ = (f σ).andThen k := rfl
@[simp] theorem u_sSet (i : Nat) (f : Sl → R D) (σ : Sl) : sSet i f σ = rS (f σ) σ fun d => .nx (σ.set i (some d)) := rfl
@[simp] theorem u_sIf (c : Sl → R D) (f k : SF) (σ : Sl) : sIf c f k σ = rS (c σ) σ fun d => cond d (f σ) (k σ) := rfl
@[simp] theorem u_sRet (f : Sl → R D) (σ : Sl) : sRet f σ = rS (f σ) σ .rt := rfl
@[simp] theorem u_sRetV (i : Nat) (σ : Sl) : sRetV i σ = rS (getS σ i) σ .rt := rfl
@[simp] theorem u_sRetN (σ : Sl) : sRetN σ = .rt .non := rfl
@[simp] theorem u_sBrk (σ : Sl) : sBrk σ = .bk σ := rfl
@[simp] theorem u_sCnt (σ : Sl) : sCnt σ = .ct σ := rfl
@[simp] theorem u_sFz (i : Nat) (k : SF) (σ : Sl) : sFz i k σ = rS (getS σ i) σ fun d => k (σ.set i (some (frz d))) := rfl
@[simp] theorem u_sDrop (f : Sl → R D) (σ : Sl) : sDrop f σ = rS (f σ) σ fun _ => .nx σ := rfl
@[simp] theorem u_sUnp (p : Pat) (f : Sl → R D) (σ : Sl) : sUnp p f σ = rS (f σ) σ fun d => if clean d = true then rS (bindP σ p d) σ .nx else .bad := rfl
@[simp] theorem u_sApp (i : Nat) (f : Sl → R D) (σ : Sl) : sApp i f σ = rS ((getS σ i).bind lstOf) σ fun xs => rS (f σ) σ fun y => if xs.length < sizeLine then .nx (σ.set i (some (.lst true (xs ++ [y])))) else .bad := rfl
@[simp] theorem u_sPutK (i : Nat) (fk fe : Sl → R D) (σ : Sl) : sPutK i fk fe σ = rS (fe σ) σ fun y => rS ((getS σ i).bind dctOf) σ fun kvs => rS (fk σ) σ fun x => rS (keyIn x kvs) σ fun k => if clean y = true ∧ kvs.length < sizeLine then .nx (σ.set i (some (.dct true (dput kvs k y)))) else .bad := rfl
@[simp] theorem u_blR (r : R Bool) : blR r = r.bind fun b => .ok (.bl b) := rfl
@[simp] theorem u_startL (n : Nat) (ds : List D) : startL n ds = ds.map some ++ List.replicate (n - ds.length) none := rfl
@[simp] theorem ofR_some {α : Type} (a : α) : ofR (some a) = .ok a := rfl
@[simp] theorem ofR_none {α : Type} : ofR (none : Option α) = .bad := rfl
@[simp] theorem clean_non : clean .non = true := rfl
@[simp] theorem clean_bl (b : Bool) : clean (.bl b) = true := rfl
@[simp] theorem clean_int (b : Int) : clean (.int b) = true := rfl
@[simp] theorem clean_str (b : Str) : clean (.str b) = true := rfl
@[simp] theorem clean_tup (xs : List D) : clean (.tup xs) = cleanL xs := by rw [clean]
@[simp] theorem clean_lst (o : Bool) (xs : List D) : clean (.lst o xs) = (!o && cleanL xs) := by rw [clean]
@[simp] theorem clean_dct (o : Bool) (kvs : List (NestedKey × D)) : clean (.dct o kvs) = !o := by rw [clean]
@[simp] theorem cleanL_nil : cleanL [] = true := rfl
@[simp] theorem cleanL_cons (x : D) (xs : List D) : cleanL (x :: xs) = (clean x && cleanL xs) := by rw [cleanL]
@[simp] theorem frz_non : frz .non = .non := rfl
@[simp] theorem frz_bl (b : Bool) : frz (.bl b) = .bl b := rfl
@[simp] theorem frz_int (b : Int) : frz (.int b) = .int b := rfl
@[simp] theorem frz_str (b : Str) : frz (.str b) = .str b := rfl
@[simp] theorem frz_tup (xs : List D) : frz (.tup xs) = .tup (frzL xs) := by rw [frz]
@[simp] theorem frz_lst (o : Bool) (xs : List D) : frz (.lst o xs) = .lst false (frzL xs) := by rw [frz]
@[simp] theorem frz_dct (o : Bool) (kvs : List (NestedKey × D)) : frz (.dct o kvs) = .dct false kvs := by rw [frz]
@[simp] theorem frzL_nil : frzL [] = [] := rfl
@[simp] theorem frzL_cons (x : D) (xs : List D) : frzL (x :: xs) = frz x :: frzL xs := by rw [frzL]
@[simp] theorem noFrz_non : noFrz .non = true := rfl
@[simp] theorem noFrz_bl (b : Bool) : noFrz (.bl b) = true := rfl
@[simp] theorem noFrz_int (b : Int) : noFrz (.int b) = true := rfl
@[simp] theorem noFrz_str (b : Str) : noFrz (.str b) = true := rfl
@[simp] theorem noFrz_tup (xs : List D) : noFrz (.tup xs) = noFrzL xs := by rw [noFrz]
@[simp] theorem noFrz_lst (o : Bool) (xs : List D) : noFrz (.lst o xs) = (o && noFrzL xs) := by rw [noFrz]
@[simp] theorem noFrz_dct (o : Bool) (xs : List (NestedKey × D)) : noFrz (.dct o xs) = (o && noFrzK xs) := by rw [noFrz]
@[simp] theorem noFrzL_nil : noFrzL [] = true := rfl
@[simp] theorem noFrzL_cons (x : D) (xs : List D) : noFrzL (x :: xs) = (noFrz x && noFrzL xs) := by rw [noFrzL]
@[simp] theorem keyS_int (i : Int) : keyS (.int i) = some (.num i) := rfl
@[simp] theorem keyS_str (i : Str) : keyS (.str i) = some (.text i) := rfl
@[simp] theorem keyS_tup (xs : List D) : keyS (.tup xs) = (keyL xs).map .tup := by rw [keyS]
@[simp] theorem keyL_nil : keyL [] = some [] := rfl
@[simp] theorem keyL_cons (x : D) (xs : List D) : keyL (x :: xs) = (keyS x).bind fun d => (keyL xs).map fun ds => d :: ds := by rw [keyL]
@[simp] theorem rS_ok {α : Type} (a : α) (σ : Sl) (k : α → RS) : rS (.ok a) σ k = k a := rfl
@[simp] theorem rS_err {α : Type} (c : Nat) (fs : List D) (σ : Sl) (k : α → RS) : rS (.err c fs : R α) σ k = .er c fs σ := rfl
@[simp] theorem cond_bl (b : Bool) (r s : RS) : cond (.bl b) r s = if b = true then r else s := rfl
@[simp] theorem then_nx (σ : Sl) (k : SF) : (RS.nx σ).andThen k = k σ := rfl
@[simp] theorem then_rt (d : D) (k : SF) : (RS.rt d).andThen k = .rt d := rfl
@[simp] theorem then_bk (d : Sl) (k : SF) : (RS.bk d).andThen k = .bk d := rfl
@[simp] theorem then_ct (d : Sl) (k : SF) : (RS.ct d).andThen k = .ct d := rfl
@[simp] theorem then_er (c : Nat) (fs : List D) (d : Sl) (k : SF) : (RS.er c fs d).andThen k = .er c fs d := rfl
@[simp] theorem resR_rt (d : D) : resR (.rt d) = .ok d := rfl
@[simp] theorem resR_nx (d : Sl) : resR (.nx d) = .ok .non := rfl
@[simp] theorem resR_er (c : Nat) (fs : List D) (d : Sl) : resR (.er c fs d) = .err c fs := rfl
@[simp] theorem getS_0 (a : Option D) (s : Sl) : getS (a :: s) 0 = (match a with | some d => .ok d | none => .bad) := by cases a <;> rfl
@[simp] theorem getS_s (a : Option D) (s : Sl) (i : Nat) : getS (a :: s) (i + 1) = getS s i := by
  unfold getS; rw [List.getElem?_cons_succ]
@[simp] theorem boolOf_bl (b : Bool) : boolOf (.bl b) = .ok b := rfl
@[simp] theorem intOf_int (b : Int) : intOf (.int b) = .ok b := rfl
@[simp] theorem tupOf_tup (b : List D) : tupOf (.tup b) = .ok b := rfl
@[simp] theorem lstOf_lst (b : List D) : lstOf (.lst true b) = .ok b := rfl
@[simp] theorem dctOf_dct (b : List (NestedKey × D)) : dctOf (.dct true b) = .ok b := rfl
@[simp] theorem partD_none : partD none = .ok none := rfl
@[simp] theorem partD_int (i : Int) : partD (some (.int i)) = .ok (some i) := rfl
@[simp] theorem idxD_lst (o : Bool) (xs : List D) (i : Int) : idxD (.lst o xs) (.int i) = ofR (L2.atI xs i) := rfl
@[simp] theorem idxD_tup (xs : List D) (i : Int) : idxD (.tup xs) (.int i) = ofR (L2.atI xs i) := rfl
@[simp] theorem idxD_dct (o : Bool) (kvs : List (NestedKey × D)) (k : D) : idxD (.dct o kvs) k = (keyIn k kvs).bind fun k => ofR (dget kvs k) := rfl
@[simp] theorem itemsD_lst (o : Bool) (xs : List D) : itemsD (.lst o xs) = if cleanL xs = true then .ok xs else .bad := rfl
@[simp] theorem itemsD_tup (xs : List D) : itemsD (.tup xs) = if cleanL xs = true then .ok xs else .bad := rfl
@[simp] theorem itemsD_str (z : Str) : itemsD (.str z) = .ok (z.cps.toList.map oneOf) := rfl
@[simp] theorem enumD_one (x : D) : enumD [x] = (itemsD x).bind fun xs => .ok (enumL 0 xs) := rfl
@[simp] theorem rng1D_one (i : Int) : rng1D [.int i] = if small62 i = true then .ok (rngL 0 i.toNat) else .bad := rfl
@[simp] theorem rng2D_two (i j : Int) : rng2D [.int i, .int j] = if (small62 i && small62 j) = true then .ok (rngL i (j - i).toNat) else .bad := rfl
@[simp] theorem bindP_one (σ : Sl) (i : Nat) (d : D) : bindP σ (.one i) d = .ok (σ.set i (some d)) := rfl
@[simp] theorem bindP_many (σ : Sl) (is : List Nat) (xs : List D) : bindP σ (.many is) (.tup xs) = putAll σ is xs := rfl
@[simp] theorem bindP_two (σ : Sl) (i : Nat) (js : List Nat) (x : D) (ys : List D) : bindP σ (.two i js) (.tup [x, .tup ys]) = putAll (σ.set i (some x)) js ys := rfl
@[simp] theorem putAll_nil (σ : Sl) : putAll σ [] [] = .ok σ := rfl
@[simp] theorem putAll_cons (σ : Sl) (i : Nat) (is : List Nat) (x : D) (xs : List D) : putAll σ (i :: is) (x :: xs) = putAll (σ.set i (some x)) is xs := rfl
@[simp] theorem cmpD_lt (i j : Int) : cmpD .lt (.int i) (.int j) = .ok (decide (i < j)) := rfl
@[simp] theorem cmpD_le (i j : Int) : cmpD .le (.int i) (.int j) = .ok (decide (i ≤ j)) := rfl
@[simp] theorem cmpD_gt (i j : Int) : cmpD .gt (.int i) (.int j) = .ok (decide (j < i)) := rfl
@[simp] theorem cmpD_ge (i j : Int) : cmpD .ge (.int i) (.int j) = .ok (decide (j ≤ i)) := rfl
@[simp] theorem cmpD_eq (x y : D) : cmpD .eq x y = eqD x y := rfl
@[simp] theorem cmpD_ne (x y : D) : cmpD .ne x y = (eqD x y).bind fun b => .ok (!b) := rfl
@[simp] theorem cmpD_mem (x y : D) : cmpD .mem x y = memD x y := rfl
@[simp] theorem cmpD_nmem (x y : D) : cmpD .nmem x y = (memD x y).bind fun b => .ok (!b) := rfl
@[simp] theorem cmpD_isN (x : D) : cmpD .isN x .non = .ok (isNon x) := rfl
@[simp] theorem cmpD_notN (x : D) : cmpD .notN x .non = .ok (!isNon x) := rfl
@[simp] theorem isNon_non : isNon .non = true := rfl
@[simp] theorem isNon_int (i : Int) : isNon (.int i) = false := rfl
@[simp] theorem isNon_str (i : Str) : isNon (.str i) = false := rfl
@[simp] theorem isNon_tup (i : List D) : isNon (.tup i) = false := rfl
@[simp] theorem isNon_bl (i : Bool) : isNon (.bl i) = false := rfl
@[simp] theorem isNon_lst (o : Bool) (i : List D) : isNon (.lst o i) = false := rfl
@[simp] theorem memD_dct (x : D) (o : Bool) (kvs : List (NestedKey × D)) : memD x (.dct o kvs) = (keyIn x kvs).bind fun k => .ok (dget kvs k).isSome := rfl
@[simp] theorem memD_lst (x : D) (o : Bool) (ys : List D) : memD x (.lst o ys) = memS x ys := rfl
@[simp] theorem memD_tup (x : D) (ys : List D) : memD x (.tup ys) = memS x ys := rfl
theorem eqD_of {x y : D} {d e : PyData} (h1 : py x = some d) (h2 : py y = some e) (s1 : SeqAt.shaped d = true) (s2 : SeqAt.shaped e = true) : eqD x y = .ok (PyData.eqv d e) := by
  unfold eqD
  rw [h1, h2]
  simp [s1, s2]
@[simp] theorem eqD_int (i j : Int) : eqD (.int i) (.int j) = .ok (decide (i = j)) := by
  rw [eqD_of (d := .int i) (e := .int j) rfl rfl rfl rfl]
  rfl
@[simp] theorem biD_lenL (o : Bool) (xs : List D) : biD .len [.lst o xs] = .ok (.int xs.length) := rfl
@[simp] theorem biD_lenT (xs : List D) : biD .len [.tup xs] = .ok (.int xs.length) := rfl
@[simp] theorem biD_lenS (z : Str) : biD .len [.str z] = if z.length ≤ sizeLine then .ok (.int z.length) else .bad := rfl
@[simp] theorem biD_lenD (o : Bool) (kvs : List (NestedKey × D)) : biD .len [.dct o kvs] = .ok (.int kvs.length) := rfl
@[simp] theorem biD_tupleL (o : Bool) (xs : List D) : biD .tuple [.lst o xs] = if cleanL xs = true then .ok (.tup xs) else .bad := rfl
@[simp] theorem biD_tupleT (xs : List D) : biD .tuple [.tup xs] = if cleanL xs = true then .ok (.tup xs) else .bad := rfl
@[simp] theorem biD_listL (o : Bool) (xs : List D) : biD .list [.lst o xs] = if cleanL xs = true then .ok (.lst true xs) else .bad := rfl
@[simp] theorem biD_listT (xs : List D) : biD .list [.tup xs] = if cleanL xs = true then .ok (.lst true xs) else .bad := rfl
@[simp] theorem biD_intI (i : Int) : biD .int [.int i] = .ok (.int i) := rfl
@[simp] theorem biD_intB (b : Bool) : biD .int [.bl b] = .ok (.int (if b = true then 1 else 0)) := rfl
@[simp] theorem biD_min (i j : Int) : biD .min [.int i, .int j] = .ok (.int (if j < i then j else i)) := rfl
@[simp] theorem biD_max (i j : Int) : biD .max [.int i, .int j] = .ok (.int (if j > i then j else i)) := rfl
@[simp] theorem biD_abs (i : Int) : biD .abs [.int i] = .ok (.int (if i < 0 then -i else i)) := rfl
@[simp] theorem isTy_str (z : Str) : isTy .str (.str z) = .ok true := rfl
@[simp] theorem isTy_strN : isTy .str .non = .ok false := rfl
@[simp] theorem isTy_strI (i : Int) : isTy .str (.int i) = .ok false := rfl
@[simp] theorem isTy_intI (i : Int) : isTy .int (.int i) = .ok true := rfl
@[simp] theorem isTy_boolI (i : Int) : isTy .bool (.int i) = .ok false := rfl
@[simp] theorem isTy_boolB (i : Bool) : isTy .bool (.bl i) = .ok true := rfl
@[simp] theorem isTy_tupT (i : List D) : isTy .tuple (.tup i) = .ok true := rfl
@[simp] theorem isTy_lstL (o : Bool) (i : List D) : isTy .list (.lst o i) = .ok true := rfl
@[simp] theorem recv_join (z : Str) : recvOk .join (.str z) = true := rfl
@[simp] theorem recv_find (z : Str) : recvOk .find (.str z) = true := rfl
@[simp] theorem recv_split (z : Str) : recvOk .split (.str z) = true := rfl
@[simp] theorem recv_sindex (z : Str) : recvOk .strIndex (.str z) = true := rfl
@[simp] theorem recv_lindex (o : Bool) (z : List D) : recvOk .lstIndex (.lst o z) = true := rfl
@[simp] theorem recv_get1 (o : Bool) (z : List (NestedKey × D)) : recvOk .get1 (.dct o z) = true := rfl
@[simp] theorem mtD_get1 (o : Bool) (z : List (NestedKey × D)) (k : D) : mtD .get1 (.dct o z) [k] = (keyIn k z).bind fun k => .ok ((dget z k).getD .non) := rfl
@[simp] theorem binD_add (i j : Int) : binD .add (.int i) (.int j) = .ok (.int (i + j)) := rfl
@[simp] theorem binD_sub (i j : Int) : binD .sub (.int i) (.int j) = .ok (.int (i - j)) := rfl
theorem small64_of {i : Int} (h1 : -18446744073709551616 < i) (h2 : i < 18446744073709551616) : small64 i = true := by
  unfold small64
  simp only [Bool.and_eq_true, decide_eq_true_eq, lim64_eq]
  exact ⟨by omega, by omega⟩
@[simp] theorem binD_mulR (i j : Int) (h1 : -18446744073709551616 < j) (h2 : j < 18446744073709551616) : binD .mul (.int i) (.int j) = .ok (.int (i * j)) := by
  show (if (small64 i || small64 j) = true then R.ok (D.int (i * j)) else .bad) = _
  rw [small64_of h1 h2, Bool.or_true, if_pos rfl]
@[simp] theorem binD_mulL (i j : Int) (h1 : -18446744073709551616 < i) (h2 : i < 18446744073709551616) : binD .mul (.int i) (.int j) = .ok (.int (i * j)) := by
  show (if (small64 i || small64 j) = true then R.ok (D.int (i * j)) else .bad) = _
  rw [small64_of h1 h2, Bool.true_or, if_pos rfl]
theorem log2_small {j : Int} (h : 0 < j) (h2 : j < 18446744073709551616) : j.natAbs.log2 < 9000 := by
  have h3 : j.natAbs < 2 ^ 64 := by omega
  have h4 : j.natAbs ≠ 0 := by omega
  have := (Nat.log2_lt h4).mpr h3
  omega
@[simp] theorem binD_fdiv (i j : Int) (h1 : 0 < j) (h2 : j < 18446744073709551616) : binD .fdiv (.int i) (.int j) = .ok (.int (i / j)) := by
  show (if 0 < j ∧ j.natAbs.log2 < 9000 then R.ok (D.int (i / j)) else .bad) = _
  rw [if_pos ⟨h1, log2_small h1 h2⟩]
@[simp] theorem binD_mod (i j : Int) (h1 : 0 < j) : binD .mod (.int i) (.int j) = .ok (.int (i % j)) := by
  show (if 0 < j then R.ok (D.int (i % j)) else .bad) = _
  rw [if_pos h1]
def M1 : Int := 2147483647
def M2 : Int := 2147483659
def scr (ns : List Int) : D := .lst false (ns.map D.int)
end DI
namespace DI
open PySem
theorem atI_ok {α : Type} {xs : List α} {i : Int} (h0 : 0 ≤ i) (h1 : i < xs.length) : ∃ x, L2.atI xs i = some x ∧ x ∈ xs ∧ xs[i.toNat]? = some x := by
  have hl : i.toNat < xs.length := by omega
  refine ⟨xs[i.toNat], ?_, List.getElem_mem _, List.getElem?_eq_getElem hl⟩
  have e : ((i.toNat : Nat) : Int) = i := by omega
  have := L2.atI_nat (List.getElem?_eq_getElem hl)
  rw [e] at this
  exact this
@[simp] theorem cleanL_ints (r : List Int) : cleanL (r.map D.int) = true := by induction r with
  | nil => rfl
  | cons x r ih => simpa [cleanL, clean] using ih
def rowD (r : List Int) : D := .tup (r.map D.int)
@[simp] theorem cleanL_rows (r : List (List Int)) : cleanL (r.map rowD) = true := by induction r with
  | nil => rfl
  | cons x r ih => simp [cleanL, rowD, clean] at ih ⊢; exact ih
@[simp] theorem cleanL_app {xs ys : List D} (a : cleanL xs = true) (b : cleanL ys = true) : cleanL (xs ++ ys) = true := cleanL_append a b
theorem small62_of {i : Int} (h1 : 0 ≤ i) (h2 : i < 1000000) : small62 i = true := by
  unfold small62
  simp only [Bool.and_eq_true, decide_eq_true_eq, lim62_eq]
  exact ⟨by omega, by omega⟩
theorem sizeLine_big : 1000000 ≤ sizeLine := by decide
end DI
namespace DI
open PySem
@[simp] theorem frz_scr (ns : List Int) : frz (scr ns) = scr ns := frz_clean _ (by simp [scr, clean])
@[simp] theorem clean_scr (ns : List Int) : clean (scr ns) = true := by simp [scr, clean]
@[simp] theorem idxD_scr (ns : List Int) (i : Int) : idxD (scr ns) (.int i) = ofR ((L2.atI ns i).map D.int) := by unfold scr; rw [idxD_lst, atI_map]
@[simp] theorem biD_scr (ns : List Int) : biD .len [scr ns] = .ok (.int ns.length) := by unfold scr; rw [biD_lenL, List.length_map]
end DI
namespace DI
end DI
namespace DI
@[simp] theorem le_line {n : Nat} (h : n ≤ 1000000) : n ≤ PySem.sizeLine := Nat.le_trans h sizeLine_big
@[simp] theorem lt_line {n : Nat} (h : n < 1000000) : n < PySem.sizeLine := Nat.lt_of_lt_of_le h sizeLine_big
end DI
namespace DI
open PySem
@[simp] theorem noErr_a {α : Type} (a : α) : noErr (.ok a) = .ok a := rfl
@[simp] theorem wipeL_nil (σ : Sl) : wipeL σ [] = σ := rfl
@[simp] theorem wipeL_cons (σ : Sl) (v : Nat) (vs : List Nat) : wipeL σ (v :: vs) = (wipeL σ vs).set v none := rfl
end DI
namespace DI
end DI
namespace DI
open PySem
abbrev St := List Char
def sD (s : St) : Str := ⟨(s.map Char.toNat).toArray⟩
def eSt (s : St) : D := .str (sD s)
def eCh (c : Char) : D := oneOf c.toNat
def eNon (_ : Unit) : D := .non
def eOp {α : Type} (e : α → D) : Option α → D
  | none => .non
  | some a => e a
abbrev Turn := Int ⊕ St
instance decTurn : DecidableEq Turn := inferInstance
instance decRow : DecidableEq (Turn × List (Int × Int) × Turn) := inferInstance
def eTu : Turn → D
  | .inl i => .int i
  | .inr s => eSt s
def eT1 {α : Type} (e : α → D) (a : α) : D := .tup [e a]
def eT2 {α β : Type} (e : α → D) (f : β → D) (p : α × β) : D := .tup [e p.1, f p.2]
def eT3 {α β γ : Type} (e : α → D) (f : β → D) (g : γ → D) (p : α × β × γ) : D := .tup [e p.1, f p.2.1, g p.2.2]
def eSq {α : Type} (e : α → D) (xs : List α) : D := .tup (xs.map e)
def eLs {α : Type} (o : Bool) (e : α → D) (xs : List α) : D := .lst o (xs.map e)
def eDc {α β : Type} (o : Bool) (κ : α → NestedKey) (e : β → D) (kvs : List (α × β)) : D := .dct o (kvs.map fun p => (κ p.1, e p.2))
def eDy (d : D) : D := d
section
variable {α β γ δ ε α' β' : Type}
def Cl (e : α → D) : Prop := ∀ a, clean (e a) = true
def Nf (e : α → D) : Prop := ∀ a, noFrz (e a) = true
def Fz (e e' : α → D) : Prop := ∀ a, frz (e a) = e' a
theorem Cl.fz {e : α → D} (h : Cl e) : Fz e e := fun a => frz_clean _ (h a)
theorem cl_int : Cl D.int := fun _ => rfl
theorem cl_bl : Cl D.bl := fun _ => rfl
theorem cl_st : Cl eSt := fun _ => rfl
theorem cl_ch : Cl eCh := fun _ => rfl
theorem cl_tu : Cl eTu := fun a => by cases a <;> rfl
theorem cl_op {e : α → D} (h : Cl e) : Cl (eOp e) := fun a => by cases a with
  | none => rfl
  | some a => exact h a
theorem cl_map {e : α → D} (h : Cl e) (xs : List α) : cleanL (xs.map e) = true := by
  rw [cleanL_all, List.all_map]
  exact List.all_eq_true.mpr fun a _ => h a
theorem cl_t2 {e : α → D} {f : β → D} (h : Cl e) (h2 : Cl f) : Cl (eT2 e f) := fun a => by simp [eT2, h _, h2 _]
theorem cl_t3 {e : α → D} {f : β → D} {g : γ → D} (h : Cl e) (h2 : Cl f) (h3 : Cl g) : Cl (eT3 e f g) := fun a => by simp [eT3, h _, h2 _, h3 _]
theorem cl_sq {e : α → D} (h : Cl e) : Cl (eSq e) := fun a => by simp [eSq, cl_map h]
theorem cl_ls {e : α → D} (h : Cl e) : Cl (eLs false e) := fun a => by simp [eLs, cl_map h]
theorem nf_int : Nf D.int := fun _ => rfl
theorem nf_bl : Nf D.bl := fun _ => rfl
theorem nf_op {e : α → D} (h : Nf e) : Nf (eOp e) := fun a => by cases a with
  | none => rfl
  | some a => exact h a
theorem nf_map {e : α → D} (h : Nf e) (xs : List α) : noFrzL (xs.map e) = true := by
  rw [noFrzL_all, List.all_map]
  exact List.all_eq_true.mpr fun a _ => h a
theorem nf_t2 {e : α → D} {f : β → D} (h : Nf e) (h2 : Nf f) : Nf (eT2 e f) := fun a => by simp [eT2, h _, h2 _]
theorem nf_sq {e : α → D} (h : Nf e) : Nf (eSq e) := fun a => by simp [eSq, nf_map h]
theorem fz_op {e e' : α → D} (h : Fz e e') : Fz (eOp e) (eOp e') := fun a => by cases a with
  | none => rfl
  | some a => exact h a
theorem fz_map {e e' : α → D} (h : Fz e e') (xs : List α) : frzL (xs.map e) = xs.map e' := by
  rw [frzL_map, List.map_map]
  exact List.map_congr_left fun a _ => h a
theorem fz_ls {o : Bool} {e e' : α → D} (h : Fz e e') : Fz (eLs o e) (eLs false e') := fun a => by simp [eLs, fz_map h]
structure PyE (e : α → D) (p : α → PyData) (n : Nat) : Prop where
  py : ∀ a, py (e a) = some (p a)
  lay : ∀ a, (p a).canLay0 = true
  dep : ∀ a, (p a).depth ≤ n
  nn : ∀ a, p a = .none → e a = .non
def PyQ [DecidableEq α] (p : α → PyData) : Prop := ∀ a b, PyData.eqv (p a) (p b) = decide (a = b)
def pInt : Int → PyData := .int
def pBl : Bool → PyData := .bool
def pSt (s : St) : PyData := .str (sD s)
def pOp (p : α → PyData) : Option α → PyData
  | none => .none
  | some a => p a
def pT2 (p : α → PyData) (q : β → PyData) (x : α × β) : PyData := .tuple [p x.1, q x.2]
def pSq (p : α → PyData) (xs : List α) : PyData := .tuple (xs.map p)
def pLs (p : α → PyData) (xs : List α) : PyData := .list (xs.map p)
def Nn (p : α → PyData) : Prop := ∀ a, p a ≠ .none
theorem toNat_inj {a b : Char} (h : a.toNat = b.toNat) : a = b := by
  apply Char.ext
  exact UInt32.toNat_inj.mp h
theorem map_toNat_inj : ∀ {a b : St}, a.map Char.toNat = b.map Char.toNat → a = b
  | [], [], _ => rfl
  | x :: a, y :: b, h => by
    simp only [List.map_cons, List.cons.injEq] at h
    rw [toNat_inj h.1, map_toNat_inj h.2]
theorem sD_inj {a b : St} (h : sD a = sD b) : a = b := by
  unfold sD at h
  simp only [Str.mk.injEq] at h
  exact map_toNat_inj (by simpa using congrArg Array.toList h)
theorem sD_len (s : St) : (sD s).length = s.length := by simp [sD, Str.length]
theorem sD_cps (s : St) : (sD s).cps.toList = s.map Char.toNat := by simp [sD]
theorem strOk_sD (s : St) : PyData.strOk (sD s) = true := by
  unfold PyData.strOk sD
  simp
  intro c _
  have h : c.val.toNat.isValidChar := c.valid
  show c.val.toNat < 1114112
  unfold Nat.isValidChar at h
  omega
theorem pyL_map {e : α → D} {p : α → PyData} (h : ∀ a, py (e a) = some (p a)) : ∀ xs : List α, pyL (xs.map e) = some (xs.map p)
  | [] => by rw [List.map_nil, List.map_nil, pyL]
  | x :: xs => by
    rw [List.map_cons, List.map_cons, pyL, h x, pyL_map h xs]
    rfl
theorem lay_map {p : α → PyData} (h : ∀ a, (p a).canLay0 = true) : ∀ xs : List α, PyData.canLayAll0 (xs.map p) = true
  | [] => by rw [List.map_nil, PyData.canLayAll0]
  | x :: xs => by rw [List.map_cons, PyData.canLayAll0, h x, lay_map h xs]; rfl
theorem dep_map {p : α → PyData} {n : Nat} (h : ∀ a, (p a).depth ≤ n) : ∀ xs : List α, PyData.depthAll (xs.map p) ≤ n
  | [] => by rw [List.map_nil, PyData.depthAll]; omega
  | x :: xs => by
    have := h x
    have := dep_map h xs
    rw [List.map_cons, PyData.depthAll]; omega
theorem eqv_map [DecidableEq α] {p : α → PyData} (h : PyQ p) : ∀ xs ys : List α, PyData.eqvAll (xs.map p) (ys.map p) = decide (xs = ys)
  | [], [] => by simp [PyData.eqvAll]
  | [], y :: ys => by simp [PyData.eqvAll]
  | x :: xs, [] => by simp [PyData.eqvAll]
  | x :: xs, y :: ys => by
    rw [List.map_cons, List.map_cons, PyData.eqvAll, h x y, eqv_map h xs ys]
    simp
theorem py_int : PyE D.int pInt 0 := ⟨fun _ => rfl, fun _ => rfl, fun _ => by simp [pInt, PyData.depth], fun _ h => by cases h⟩
theorem py_bl : PyE D.bl pBl 0 := ⟨fun _ => rfl, fun _ => rfl, fun _ => by simp [pBl, PyData.depth], fun _ h => by cases h⟩
theorem py_st : PyE eSt pSt 0 := ⟨fun _ => rfl, fun a => by simp [pSt, PyData.canLay0, strOk_sD], fun _ => by simp [pSt, PyData.depth], fun _ h => by cases h⟩
theorem py_op {e : α → D} {p : α → PyData} {n : Nat} (h : PyE e p n) : PyE (eOp e) (pOp p) n := ⟨fun a => by cases a with
  | none => rfl
  | some a => exact h.py a, fun a => by cases a with
  | none => rfl
  | some a => exact h.lay a, fun a => by cases a with
  | none => simp [pOp, PyData.depth]
  | some a => exact h.dep a, fun a q => by cases a with
  | none => rfl
  | some a => exact h.nn a q⟩
theorem py_t2 {e : α → D} {p : α → PyData} {f : β → D} {q : β → PyData} {n m : Nat} (h : PyE e p n) (h2 : PyE f q m) : PyE (eT2 e f) (pT2 p q) (max n m + 1) :=
  ⟨fun a => by unfold eT2; rw [DI.py, DI.pyL, DI.pyL, DI.pyL, h.py, h2.py]; rfl, fun a => by simp [pT2, PyData.canLay0, PyData.canLayAll0, h.lay, h2.lay], fun a => by
    have := h.dep a.1
    have := h2.dep a.2
    simp only [pT2, PyData.depth, PyData.depthAll]; omega, fun _ q => by cases q⟩
theorem py_sq {e : α → D} {p : α → PyData} {n : Nat} (h : PyE e p n) : PyE (eSq e) (pSq p) (n + 1) :=
  ⟨fun a => by unfold eSq; rw [DI.py, pyL_map h.py]; rfl, fun a => by simp [pSq, PyData.canLay0, lay_map h.lay], fun a => by
    have := dep_map h.dep a
    simp only [pSq, PyData.depth]; omega, fun _ q => by cases q⟩
theorem py_ls {o : Bool} {e : α → D} {p : α → PyData} {n : Nat} (h : PyE e p n) : PyE (eLs o e) (pLs p) (n + 1) :=
  ⟨fun a => by unfold eLs; rw [DI.py, pyL_map h.py]; rfl, fun a => by simp [pLs, PyData.canLay0, lay_map h.lay], fun a => by
    have := dep_map h.dep a
    simp only [pLs, PyData.depth]; omega, fun _ q => by cases q⟩
theorem pq_int : PyQ pInt := fun a b => rfl
theorem pq_bl : PyQ pBl := fun a b => by cases a <;> cases b <;> rfl
theorem pq_st : PyQ pSt := fun a b => by
  simp only [pSt, PyData.eqv]
  by_cases h : a = b
  · subst h; simp
  · have : sD a ≠ sD b := fun q => h (sD_inj q)
    simp [h, this]
theorem eqv_none {d : PyData} (h : d ≠ .none) : PyData.eqv .none d = false ∧ PyData.eqv d .none = false := by
  cases d <;> simp_all [PyData.eqv]
theorem pq_op [DecidableEq α] {p : α → PyData} (h : PyQ p) (hn : Nn p) : PyQ (pOp p) := fun a b => by
  cases a with
  | none => cases b with
    | none => rfl
    | some b => simp [pOp, (eqv_none (hn b)).1]
  | some a => cases b with
    | none => simp [pOp, (eqv_none (hn a)).2]
    | some b => simp [pOp, h a b]
theorem pq_t2 [DecidableEq α] [DecidableEq β] {p : α → PyData} {q : β → PyData} (h : PyQ p) (h2 : PyQ q) : PyQ (pT2 p q) := fun a b => by
  obtain ⟨a1, a2⟩ := a
  obtain ⟨b1, b2⟩ := b
  simp [pT2, PyData.eqv, PyData.eqvAll, h _ _, h2 _ _]
theorem pq_sq [DecidableEq α] {p : α → PyData} (h : PyQ p) : PyQ (pSq p) := fun a b => by
  simp [pSq, PyData.eqv, eqv_map h]
theorem pq_ls [DecidableEq α] {p : α → PyData} (h : PyQ p) : PyQ (pLs p) := fun a b => by
  simp [pLs, PyData.eqv, eqv_map h]
theorem nn_t2 {p : α → PyData} {q : β → PyData} : Nn (pT2 p q) := fun _ h => by cases h
theorem eqD_ty [DecidableEq α] {e e' : α → D} {p : α → PyData} {n n' : Nat} (h : PyE e p n) (h' : PyE e' p n') (q : PyQ p) (hn : n ≤ 64) (hn' : n' ≤ 64) (a b : α) : eqD (e a) (e' b) = .ok (decide (a = b)) := by
  have s : ∀ {e : α → D} {n : Nat} (h : PyE e p n) (hn : n ≤ 64) (a : α), SeqAt.shaped (p a) = true := fun h hn a => by
    unfold SeqAt.shaped
    rw [Bool.and_eq_true, decide_eq_true_iff]
    exact ⟨h.lay a, Nat.le_trans (h.dep a) hn⟩
  rw [eqD_of (h.py a) (h'.py b) (s h hn a) (s h' hn' b), q]
theorem any_map [DecidableEq α] {p : α → PyData} (q : PyQ p) (a : α) : ∀ xs : List α, ((xs.map p).any fun z => PyData.eqv z (p a)) = decide (a ∈ xs)
  | [] => by simp
  | x :: xs => by
    rw [List.map_cons, List.any_cons, any_map q a xs, q]
    simp only [List.mem_cons, Bool.decide_or]
    congr 1
    exact decide_eq_decide.mpr ⟨Eq.symm, Eq.symm⟩
structure KyE (e : α → D) (κ : α → NestedKey) (n : Nat) : Prop where
  key : ∀ a, keyS (e a) = some (κ a)
  inj : ∀ a b, κ a = κ b → a = b
  dep : ∀ a, (κ a).depth ≤ n
def KTp (κ : α → NestedKey) : Prop := ∀ a, isTupKey (κ a) = true
def kInt : Int → NestedKey := .num
def kBl (b : Bool) : NestedKey := .num (if b = true then 1 else 0)
def kOp (k : α → NestedKey) : Option α → NestedKey
  | none => .none
  | some a => k a
def kT2 (k : α → NestedKey) (l : β → NestedKey) (x : α × β) : NestedKey := .tup [k x.1, l x.2]
def kT3 (k : α → NestedKey) (l : β → NestedKey) (m : γ → NestedKey) (x : α × β × γ) : NestedKey := .tup [k x.1, l x.2.1, m x.2.2]
def kSq (k : α → NestedKey) (xs : List α) : NestedKey := .tup (xs.map k)
def KNn (k : α → NestedKey) : Prop := ∀ a, k a ≠ .none
theorem ky_int : KyE D.int kInt 0 := ⟨fun _ => rfl, fun a b h => by cases h; rfl, fun _ => by simp [kInt, NestedKey.depth]⟩
theorem ky_op {e : α → D} {k : α → NestedKey} {n : Nat} (h : KyE e k n) (hn : KNn k) : KyE (eOp e) (kOp k) n := ⟨fun a => by cases a with
  | none => rfl
  | some a => exact h.key a, fun a b q => by
  cases a with
  | none => cases b with
    | none => rfl
    | some b => exact absurd q.symm (hn b)
  | some a => cases b with
    | none => exact absurd q (hn a)
    | some b => rw [h.inj a b q], fun a => by cases a with
  | none => simp [kOp, NestedKey.depth]
  | some a => exact h.dep a⟩
theorem ky_t2 {e : α → D} {k : α → NestedKey} {f : β → D} {l : β → NestedKey} {n m : Nat} (h : KyE e k n) (h2 : KyE f l m) : KyE (eT2 e f) (kT2 k l) (max n m + 1) := ⟨fun a => by simp [eT2, kT2, h.key, h2.key], fun a b q => by
  simp only [kT2, NestedKey.tup.injEq, List.cons.injEq, and_true] at q
  exact Prod.ext (h.inj _ _ q.1) (h2.inj _ _ q.2), fun a => by
  have := h.dep a.1
  have := h2.dep a.2
  simp only [kT2, NestedKey.depth, NestedKey.depthAll]; omega⟩
theorem ky_t3 {e : α → D} {k : α → NestedKey} {f : β → D} {l : β → NestedKey} {g : γ → D} {r : γ → NestedKey} {n m o : Nat} (h : KyE e k n) (h2 : KyE f l m) (h3 : KyE g r o) : KyE (eT3 e f g) (kT3 k l r) (max (max n m) o + 1) := ⟨fun a => by simp [eT3, kT3, h.key, h2.key, h3.key], fun a b q => by
  simp only [kT3, NestedKey.tup.injEq, List.cons.injEq, and_true] at q
  exact Prod.ext (h.inj _ _ q.1) (Prod.ext (h2.inj _ _ q.2.1) (h3.inj _ _ q.2.2)), fun a => by
  have := h.dep a.1
  have := h2.dep a.2.1
  have := h3.dep a.2.2
  simp only [kT3, NestedKey.depth, NestedKey.depthAll]; omega⟩
theorem keyL_map {e : α → D} {k : α → NestedKey} (h : ∀ a, keyS (e a) = some (k a)) : ∀ xs : List α, keyL (xs.map e) = some (xs.map k)
  | [] => rfl
  | x :: xs => by
    rw [List.map_cons, List.map_cons, keyL, h x, keyL_map h xs]
    rfl
theorem map_inj {k : α → NestedKey} (h : ∀ a b, k a = k b → a = b) : ∀ {xs ys : List α}, xs.map k = ys.map k → xs = ys
  | [], [], _ => rfl
  | x :: xs, y :: ys, q => by
    simp only [List.map_cons, List.cons.injEq] at q
    rw [h _ _ q.1, map_inj h q.2]
theorem kdep_map {k : α → NestedKey} {n : Nat} (h : ∀ a, (k a).depth ≤ n) : ∀ xs : List α, NestedKey.depthAll (xs.map k) ≤ n
  | [] => by rw [List.map_nil, NestedKey.depthAll]; omega
  | x :: xs => by
    have := h x
    have := kdep_map h xs
    rw [List.map_cons, NestedKey.depthAll]; omega
theorem ky_sq {e : α → D} {k : α → NestedKey} {n : Nat} (h : KyE e k n) : KyE (eSq e) (kSq k) (n + 1) := ⟨fun a => by simp [eSq, kSq, keyL_map h.key], fun a b q => by
  simp only [kSq, NestedKey.tup.injEq] at q
  exact map_inj h.inj q, fun a => by
  have := kdep_map h.dep a
  simp only [kSq, NestedKey.depth]; omega⟩
theorem kn_t2 {k : α → NestedKey} {l : β → NestedKey} : KNn (kT2 k l) := fun _ h => by cases h
theorem kt_t2 {k : α → NestedKey} {l : β → NestedKey} : KTp (kT2 k l) := fun _ => rfl
theorem kt_t3 {k : α → NestedKey} {l : β → NestedKey} {m : γ → NestedKey} : KTp (kT3 k l m) := fun _ => rfl
structure KD (e : α → D) (κ : α → NestedKey) : Prop where
  key : ∀ a, key (e a) = some (κ a)
  inj : ∀ a b, κ a = κ b → a = b
  kin : ∀ (a : α) (ks : List NestedKey), (∀ k ∈ ks, ∃ b, k = κ b) → (isLeafKey (κ a) && ks.all isLeafKey || isTupKey (κ a) && decide ((κ a).depth ≤ 8) && ks.all isTupKey) = true ∧ (isTupKey (κ a) || leafD (e a)) = true
theorem KyE.tupk {e : α → D} {κ : α → NestedKey} {n : Nat} (h : KyE e κ n) (l : KTp κ) (hn : n ≤ 8) : KD e κ := ⟨fun a => keyS_key (h.key a), h.inj, fun a ks hk => by
  have : ks.all isTupKey = true := List.all_eq_true.mpr fun k m => by
    obtain ⟨b, rfl⟩ := hk k m
    exact l b
  have h2 : (κ a).depth ≤ 8 := Nat.le_trans (h.dep a) hn
  simp [this, l a, h2]⟩
theorem kd_bi : KD (eT2 D.bl D.int) (kT2 kBl kInt) := ⟨fun _ => rfl, fun a b h => by
  obtain ⟨a1, a2⟩ := a
  obtain ⟨b1, b2⟩ := b
  simp only [kT2, kBl, kInt, NestedKey.tup.injEq, List.cons.injEq, NestedKey.num.injEq, and_true] at h
  obtain ⟨h1, h2⟩ := h
  subst h2
  cases a1 <;> cases b1 <;> simp at h1 <;> rfl, fun a ks hk => by
  have : ks.all isTupKey = true := List.all_eq_true.mpr fun k m => by
    obtain ⟨b, rfl⟩ := hk k m
    rfl
  have h2 : (kT2 kBl kInt a).depth ≤ 8 := by
    show (NestedKey.tup [.num _, .num _]).depth ≤ 8
    simp [NestedKey.depth, NestedKey.depthAll]
  have h3 : isTupKey (kT2 kBl kInt a) = true := rfl
  simp [this, h2, h3]⟩
def getT [DecidableEq α] (kvs : List (α × β)) (k : α) : Option β := (kvs.find? fun p => decide (p.1 = k)).map (·.2)
def hasT [DecidableEq α] (kvs : List (α × β)) (k : α) : Bool := kvs.any fun p => decide (p.1 = k)
def putT [DecidableEq α] (kvs : List (α × β)) (k : α) (v : β) : List (α × β) :=
  if hasT kvs k = true then kvs.map (fun p => if p.1 = k then (p.1, v) else p) else kvs ++ [(k, v)]
def encK (κ : α → NestedKey) (e : β → D) (kvs : List (α × β)) : List (NestedKey × D) := kvs.map fun p => (κ p.1, e p.2)
theorem KD.keyIn {e : α → D} {κ : α → NestedKey} (h : KD e κ) (f : β → D) (kvs : List (α × β)) (a : α) : DI.keyIn (e a) (encK κ f kvs) = .ok (κ a) := by
  unfold DI.keyIn
  rw [h.key]
  have q := h.kin a (kvs.map fun p => κ p.1) fun k m => by
    obtain ⟨p, _, rfl⟩ := List.mem_map.mp m
    exact ⟨p.1, rfl⟩
  have e1 : keysWith (κ a) (encK κ f kvs) = true := by
    unfold keysWith encK
    have := q.1
    simp only [List.all_map] at this ⊢
    exact this
  simp only [e1, q.2, Bool.and_self, if_pos]
theorem KD.dget [DecidableEq α] {e : α → D} {κ : α → NestedKey} (h : KD e κ) (f : β → D) (kvs : List (α × β)) (a : α) : DI.dget (encK κ f kvs) (κ a) = (getT kvs a).map f := by
  induction kvs with
  | nil => rfl
  | cons p kvs ih =>
    unfold DI.dget getT encK at ih ⊢
    rw [List.map_cons, List.find?_cons, List.find?_cons]
    by_cases q : p.1 = a
    · simp [q]
    · have : κ p.1 ≠ κ a := fun z => q (h.inj _ _ z)
      simp only [this, q, decide_false]
      exact ih
theorem KD.any [DecidableEq α] {e : α → D} {κ : α → NestedKey} (h : KD e κ) (f : β → D) (kvs : List (α × β)) (a : α) : ((encK κ f kvs).any fun p => decide (p.1 = κ a)) = hasT kvs a := by
  unfold hasT encK
  rw [List.any_map]
  congr 1
  funext p
  exact decide_eq_decide.mpr ⟨h.inj _ _, fun z => congrArg κ z⟩
theorem getT_has [DecidableEq α] (kvs : List (α × β)) (a : α) : (getT kvs a).isSome = hasT kvs a := by
  unfold getT hasT
  rw [Option.isSome_map]
  induction kvs with
  | nil => rfl
  | cons p kvs ih => rw [List.find?_cons, List.any_cons]; cases decide (p.1 = a) <;> simp [ih]
theorem KD.dput [DecidableEq α] {e : α → D} {κ : α → NestedKey} (h : KD e κ) (f : β → D) (kvs : List (α × β)) (a : α) (v : β) : DI.dput (encK κ f kvs) (κ a) (f v) = encK κ f (putT kvs a v) := by
  unfold DI.dput putT
  rw [h.any]
  by_cases q : hasT kvs a = true
  · rw [if_pos q, if_pos q]
    unfold encK
    rw [List.map_map, List.map_map]
    apply List.map_congr_left
    intro p _
    by_cases z : p.1 = a
    · simp [z]
    · have : κ p.1 ≠ κ a := fun y => z (h.inj _ _ y)
      simp [z, this]
  · rw [if_neg q, if_neg q]
    unfold encK
    simp
end
end DI
namespace DI
open PySem
section
variable {α β γ δ ε : Type}
def Xf (e : α → D) : Prop := ∀ a, noX (e a) = true
theorem xf_int : Xf D.int := fun _ => rfl
theorem xf_bl : Xf D.bl := fun _ => rfl
theorem xf_st : Xf eSt := fun _ => rfl
theorem xf_tu : Xf eTu := fun a => by cases a <;> rfl
theorem xf_op {e : α → D} (h : Xf e) : Xf (eOp e) := fun a => by cases a with
  | none => rfl
  | some a => exact h a
theorem xf_map {e : α → D} (h : Xf e) : ∀ xs : List α, noXL (xs.map e) = true
  | [] => rfl
  | x :: xs => by rw [List.map_cons, noXL, h x, xf_map h xs]; rfl
theorem xf_t2 {e : α → D} {f : β → D} (h : Xf e) (h2 : Xf f) : Xf (eT2 e f) := fun a => by unfold eT2; rw [noX, noXL, noXL, noXL, h, h2]; rfl
theorem xf_t3 {e : α → D} {f : β → D} {g : γ → D} (h : Xf e) (h2 : Xf f) (h3 : Xf g) : Xf (eT3 e f g) := fun a => by unfold eT3; rw [noX, noXL, noXL, noXL, noXL, h, h2, h3]; rfl
theorem xf_sq {e : α → D} (h : Xf e) : Xf (eSq e) := fun a => by unfold eSq; rw [noX]; exact xf_map h a
theorem xf_ls {o : Bool} {e : α → D} (h : Xf e) : Xf (eLs o e) := fun a => by unfold eLs; rw [noX]; exact xf_map h a
theorem cx_e {e : α → D} (h : Xf e) (a : α) : cx (some (e a)) = some (e a) := if_pos (h a)
theorem clearX_cons (x : Option D) (σ : Sl) : clearX (x :: σ) = cx x :: clearX σ := rfl
theorem clearX_nil : clearX [] = [] := rfl
theorem clear_c {x y : Option D} {σ τ : Sl} (h : cx x = y) (h2 : clearX σ = τ) : clearX (x :: σ) = y :: τ := by rw [clearX_cons, h, h2]
end
end DI
namespace DI
open PySem
theorem R.bind_assoc {α β γ : Type} (r : R α) (f : α → R β) (k : β → R γ) : (r.bind f).bind k = r.bind fun a => (f a).bind k := by cases r <;> rfl
section
variable {α β γ δ ε ζ η α' β' : Type}
def Wd (e : α → D) (e' : β → D) (w : α → β) : Prop := ∀ a, e' (w a) = e a
def Nw (e : α → D) (e' : β → D) (w : α → R β) : Prop := ∀ a, match w a with | .ok b => e' b = e a | .err _ _ => False | .bad => True
def Rf (r : R D) (m : R α) (e : α → D) : Prop :=
  match m with
  | .ok a => r = .ok (e a)
  | .err c fs => r = .err c fs
  | .bad => True
theorem Rf.bind {r : R D} {m : R α} {e : α → D} {k : D → R D} {M : α → R β} {e' : β → D} (h : Rf r m e) (h2 : ∀ a, Rf (k (e a)) (M a) e') : Rf (r.bind k) (m.bind M) e' := by
  cases m with
  | ok a => rw [show r = .ok (e a) from h]; exact h2 a
  | err c fs => rw [show r = .err c fs from h]; exact rfl
  | bad => exact True.intro
theorem rf_ok {r : R D} {a : α} {e : α → D} (h : r = .ok (e a)) : Rf r (.ok a) e := h
theorem Rf.guard {c c' : Prop} [Decidable c] [Decidable c'] {r : R D} {m : R α} {e : α → D} (hc : c' → c) (h : Rf r m e) : Rf (if c then r else .bad) (if c' then m else .bad) e := by
  by_cases q : c'
  · rw [if_pos q, if_pos (hc q)]; exact h
  · rw [if_neg q]; exact True.intro
theorem Rf.guard1 {c : Prop} [Decidable c] {r : R D} {m : R α} {e : α → D} (hc : c) (h : Rf r m e) : Rf (if c then r else .bad) m e := by
  rw [if_pos hc]; exact h
theorem Rf.wid {r : R D} {m : R α} {e : α → D} {e' : β → D} (w : α → β) (h : Rf r m e) (hw : Wd e e' w) : Rf r (m.bind fun a => .ok (w a)) e' := by
  cases m with
  | ok a => exact (show r = .ok (e a) from h).trans (congrArg R.ok (hw a).symm)
  | err c fs => exact h
  | bad => exact True.intro
theorem Rf.nar {r : R D} {m : R α} {e : α → D} {e' : β → D} (w : α → R β) (h : Rf r m e) (hw : Nw e e' w) : Rf r (m.bind w) e' := by
  cases m with
  | ok a =>
    have q := hw a
    show Rf r (w a) e'
    cases hb : w a with
    | ok b => rw [hb] at q; exact (show r = .ok (e a) from h).trans (congrArg R.ok q.symm)
    | err c fs => rw [hb] at q; exact q.elim
    | bad => exact True.intro
  | err c fs => exact h
  | bad => exact True.intro
variable {σ : Sl} {f k l : Sl → R D} {e : α → D} {e' : β → D} {m : R α} {n : R β}
theorem rf_v {i : Nat} {a : α} (e : α → D) (h : getS σ i = .ok (e a)) : Rf (eV i σ) (.ok a) e := h
theorem rf_k {d : D} {a : α} (e : α → D) (h : d = e a) : Rf (eK d σ) (.ok a) e := congrArg R.ok h
theorem rf_o (c : Cl e) (h : Rf (f σ) m e) : Rf (eO f σ) m e := by
  have := Rf.bind (k := fun d => if clean d = true then .ok d else .bad) (M := fun a => .ok a) (e' := e) h fun a => .guard1 (c a) rfl
  cases m <;> exact this
theorem rf_neg {m : R Int} (h : Rf (f σ) m D.int) : Rf (eNeg f σ) (m.bind fun i => .ok (-i)) D.int := h.bind fun _ => rfl
theorem rf_not {m : R Bool} (h : Rf (f σ) m D.bl) : Rf (eNot f σ) (m.bind fun i => .ok (!i)) D.bl := h.bind fun _ => rfl
def szT (n : Nat) (a : α) : R α := if n ≤ sizeLine then .ok a else .bad
def fdivT (i j : Int) : R Int := if 0 < j ∧ j.natAbs.log2 < 9000 then .ok (i / j) else .bad
def modT (i j : Int) : R Int := if 0 < j then .ok (i % j) else .bad
theorem rf_add {m n : R Int} (h : Rf (f σ) m D.int) (h2 : Rf (k σ) n D.int) : Rf (eB .add f k σ) (m.bind fun i => n.bind fun j => .ok (i + j)) D.int := h.bind fun _ => h2.bind fun _ => rfl
theorem rf_sub {m n : R Int} (h : Rf (f σ) m D.int) (h2 : Rf (k σ) n D.int) : Rf (eB .sub f k σ) (m.bind fun i => n.bind fun j => .ok (i - j)) D.int := h.bind fun _ => h2.bind fun _ => rfl
theorem rf_mulR {m : R Int} {j : Int} (b : -18446744073709551616 < j ∧ j < 18446744073709551616) (h : Rf (f σ) m D.int) : Rf (eB .mul f (eK (.int j)) σ) (m.bind fun i => .ok (i * j)) D.int := h.bind fun i => rf_ok (binD_mulR i j b.1 b.2)
theorem rf_mulL {m : R Int} {j : Int} (b : -18446744073709551616 < j ∧ j < 18446744073709551616) (h : Rf (f σ) m D.int) : Rf (eB .mul (eK (.int j)) f σ) (m.bind fun i => .ok (j * i)) D.int := h.bind fun i => rf_ok (binD_mulL j i b.1 b.2)
theorem rf_fdiv {m n : R Int} (h : Rf (f σ) m D.int) (h2 : Rf (k σ) n D.int) : Rf (eB .fdiv f k σ) (m.bind fun i => n.bind fun j => fdivT i j) D.int := h.bind fun i => h2.bind fun j => .guard id rfl
theorem rf_fdivK {m : R Int} {j : Int} (b : 0 < j ∧ j < 18446744073709551616) (h : Rf (f σ) m D.int) : Rf (eB .fdiv f (eK (.int j)) σ) (m.bind fun i => .ok (i / j)) D.int := h.bind fun i => rf_ok (binD_fdiv i j b.1 b.2)
theorem rf_mod {m n : R Int} (h : Rf (f σ) m D.int) (h2 : Rf (k σ) n D.int) : Rf (eB .mod f k σ) (m.bind fun i => n.bind fun j => modT i j) D.int := h.bind fun i => h2.bind fun j => .guard id rfl
theorem rf_modK {m : R Int} {j : Int} (b : 0 < j) (h : Rf (f σ) m D.int) : Rf (eB .mod f (eK (.int j)) σ) (m.bind fun i => .ok (i % j)) D.int := h.bind fun i => rf_ok (binD_mod i j b)
theorem sD_app (a b : St) : sD a ++ sD b = sD (a ++ b) := by
  show Str.mk _ = Str.mk _
  simp [sD]
theorem rf_addS {m n : R St} (h : Rf (f σ) m eSt) (h2 : Rf (k σ) n eSt) : Rf (eB .add f k σ) (m.bind fun i => n.bind fun j => szT (i.length + j.length) (i ++ j)) eSt :=
  h.bind fun i => h2.bind fun j => .guard (by rw [sD_len, sD_len]; exact id) (rf_ok (by rw [sD_app]; rfl))
theorem rf_eq [DecidableEq α] {e e' : α → D} {p : α → PyData} {u u' : Nat} (h : PyE e p u) (h' : PyE e' p u') (q : PyQ p) (hn : u ≤ 64) (hn' : u' ≤ 64) {m n : R α} (h1 : Rf (f σ) m e) (h2 : Rf (k σ) n e') : Rf (eC .eq f k σ) (m.bind fun a => n.bind fun b => .ok (decide (a = b))) D.bl :=
  h1.bind fun a => h2.bind fun b => rf_ok (by rw [cmpD_eq, eqD_ty h h' q hn hn']; rfl)
theorem rf_ne [DecidableEq α] {e e' : α → D} {p : α → PyData} {u u' : Nat} (h : PyE e p u) (h' : PyE e' p u') (q : PyQ p) (hn : u ≤ 64) (hn' : u' ≤ 64) {m n : R α} (h1 : Rf (f σ) m e) (h2 : Rf (k σ) n e') : Rf (eC .ne f k σ) (m.bind fun a => n.bind fun b => .ok (!decide (a = b))) D.bl :=
  h1.bind fun a => h2.bind fun b => rf_ok (by rw [cmpD_ne, eqD_ty h h' q hn hn']; rfl)
theorem rf_inD [DecidableEq α] {o : Bool} {e : α → D} {κ : α → NestedKey} {e' : β → D} (h : KD e κ) {m : R α} {n : R (List (α × β))} (h1 : Rf (f σ) m e) (h2 : Rf (k σ) n (eDc o κ e')) : Rf (eC .mem f k σ) (m.bind fun a => n.bind fun b => .ok (hasT b a)) D.bl :=
  h1.bind fun a => h2.bind fun b => rf_ok (by rw [cmpD_mem]; unfold eDc; rw [memD_dct]; have := h.keyIn e' b a; unfold encK at this; rw [this]; have := h.dget e' b a; unfold encK at this; rw [R.bind_ok, this, Option.isSome_map, getT_has]; rfl)
theorem rf_ninD [DecidableEq α] {o : Bool} {e : α → D} {κ : α → NestedKey} {e' : β → D} (h : KD e κ) {m : R α} {n : R (List (α × β))} (h1 : Rf (f σ) m e) (h2 : Rf (k σ) n (eDc o κ e')) : Rf (eC .nmem f k σ) (m.bind fun a => n.bind fun b => .ok (!hasT b a)) D.bl :=
  h1.bind fun a => h2.bind fun b => rf_ok (by rw [cmpD_nmem]; unfold eDc; rw [memD_dct]; have := h.keyIn e' b a; unfold encK at this; rw [this]; have := h.dget e' b a; unfold encK at this; rw [R.bind_ok, this, Option.isSome_map, getT_has]; rfl)
theorem char_mem (c : Char) : ∀ s : St, decide (c.toNat ∈ s.map Char.toNat) = decide (c ∈ s) := fun s => decide_eq_decide.mpr ⟨fun h => by
  obtain ⟨d, hd, q⟩ := List.mem_map.mp h
  rw [← toNat_inj q]; exact hd, fun h => List.mem_map_of_mem h⟩
theorem rf_inC {m : R Char} {n : R St} (h1 : Rf (f σ) m eCh) (h2 : Rf (k σ) n eSt) : Rf (eC .mem f k σ) (m.bind fun a => n.bind fun b => .ok (decide (a ∈ b))) D.bl :=
  h1.bind fun a => h2.bind fun b => rf_ok (by
    have := PySem.StrLaws.found_one (sD b) a.toNat
    rw [sD_cps, char_mem] at this
    exact congrArg (fun q => R.ok (D.bl q)) this)
theorem rf_ninC {m : R Char} {n : R St} (h1 : Rf (f σ) m eCh) (h2 : Rf (k σ) n eSt) : Rf (eC .nmem f k σ) (m.bind fun a => n.bind fun b => .ok (!decide (a ∈ b))) D.bl :=
  h1.bind fun a => h2.bind fun b => rf_ok (by
    have := PySem.StrLaws.found_one (sD b) a.toNat
    rw [sD_cps, char_mem] at this
    exact congrArg (fun q => R.ok (D.bl (!q))) this)
theorem rf_isN (b : α → Bool) (hb : ∀ a, isNon (e a) = b a) (h : Rf (f σ) m e) : Rf (eC .isN f (eK .non) σ) (m.bind fun a => .ok (b a)) D.bl :=
  h.bind fun a => rf_ok (by show blR (cmpD .isN (e a) .non) = _; rw [cmpD_isN, hb]; rfl)
theorem rf_ntN (b : α → Bool) (hb : ∀ a, isNon (e a) = b a) (h : Rf (f σ) m e) : Rf (eC .notN f (eK .non) σ) (m.bind fun a => .ok (!b a)) D.bl :=
  h.bind fun a => rf_ok (by show blR (cmpD .notN (e a) .non) = _; rw [cmpD_notN, hb]; rfl)
theorem isN_op (h : ∀ a, isNon (e a) = false) : ∀ a, isNon (eOp e a) = a.isNone
  | none => rfl
  | some a => h a
theorem rf_isi {t : Ty} (b : α → Bool) (hb : ∀ a, isTy t (e a) = .ok (b a)) (h : Rf (f σ) m e) : Rf (eIsi t f σ) (m.bind fun a => .ok (b a)) D.bl :=
  h.bind fun a => rf_ok (by rw [hb]; rfl)
theorem Rf.same {r : R D} {n : R Bool} (h : Rf r n D.bl) : Rf (r.bind fun y => (boolOf y).bind fun r => .ok (D.bl r)) n D.bl := by
  cases n with
  | ok b => rw [show r = .ok (.bl b) from h]; exact rfl
  | err c fs => rw [show r = .err c fs from h]; exact rfl
  | bad => exact True.intro
theorem rf_and {m n : R Bool} (h : Rf (f σ) m D.bl) (h2 : Rf (k σ) n D.bl) : Rf (eAnd f k σ) (m.bind fun i => if i = true then n else .ok false) D.bl :=
  h.bind fun i => by
    cases i with
    | false => exact rfl
    | true => exact Rf.same h2
theorem rf_or {m n : R Bool} (h : Rf (f σ) m D.bl) (h2 : Rf (k σ) n D.bl) : Rf (eOr f k σ) (m.bind fun i => if i = true then .ok true else n) D.bl :=
  h.bind fun i => by
    cases i with
    | true => exact rfl
    | false => exact Rf.same h2
theorem rf_andP {m : R Bool} {b : Bool} (h : Rf (f σ) m D.bl) (h2 : Rf (k σ) (.ok b) D.bl) : Rf (eAnd f k σ) (m.bind fun i => .ok (i && b)) D.bl := by
  have q := rf_and h h2
  cases m with
  | ok i => cases i <;> exact q
  | err c fs => exact q
  | bad => exact q
theorem rf_orP {m : R Bool} {b : Bool} (h : Rf (f σ) m D.bl) (h2 : Rf (k σ) (.ok b) D.bl) : Rf (eOr f k σ) (m.bind fun i => .ok (i || b)) D.bl := by
  have q := rf_or h h2
  cases m with
  | ok i => cases i <;> exact q
  | err c fs => exact q
  | bad => exact q
theorem rf_if {c : Sl → R D} {b : R Bool} {m n : R α} (h : Rf (c σ) b D.bl) (h1 : Rf (f σ) m e) (h2 : Rf (k σ) n e) : Rf (eIf c f k σ) (b.bind fun i => if i = true then m else n) e :=
  h.bind fun i => by cases i; exact h2; exact h1
theorem rf_ofR {β : Type} {g : β → D} {x : Option β} : Rf (ofR (x.map g)) (ofR x) g := by cases x; exact True.intro; exact rfl
theorem rf_ixL {o : Bool} {m : R (List α)} {n : R Int} (h : Rf (f σ) m (eLs o e)) (h2 : Rf (k σ) n D.int) : Rf (eIx f k σ) (m.bind fun xs => n.bind fun i => ofR (L2.atI xs i)) e :=
  h.bind fun xs => h2.bind fun i => by unfold eLs; rw [idxD_lst, atI_map]; exact rf_ofR
theorem rf_ixQ {m : R (List α)} {n : R Int} (h : Rf (f σ) m (eSq e)) (h2 : Rf (k σ) n D.int) : Rf (eIx f k σ) (m.bind fun xs => n.bind fun i => ofR (L2.atI xs i)) e :=
  h.bind fun xs => h2.bind fun i => by unfold eSq; rw [idxD_tup, atI_map]; exact rf_ofR
def sixT (s : St) (i : Int) : R Char := if s.length ≤ sizeLine then ofR (L2.atI s i) else .bad
theorem rf_ixS {m : R St} {n : R Int} (h : Rf (f σ) m eSt) (h2 : Rf (k σ) n D.int) : Rf (eIx f k σ) (m.bind fun xs => n.bind fun i => sixT xs i) eCh :=
  h.bind fun xs => h2.bind fun i => by
    refine .guard (by rw [sD_len]; exact id) ?_
    rw [sD_cps, atI_map, Option.map_map]
    exact rf_ofR
theorem rf_ix2_0 {e1 : α → D} {e2 : β → D} {m : R (α × β)} (h : Rf (f σ) m (eT2 e1 e2)) : Rf (eIx f (eK (.int 0)) σ) (m.bind fun p => .ok p.1) e1 := h.bind fun _ => rfl
theorem rf_ix2_1 {e1 : α → D} {e2 : β → D} {m : R (α × β)} (h : Rf (f σ) m (eT2 e1 e2)) : Rf (eIx f (eK (.int 1)) σ) (m.bind fun p => .ok p.2) e2 := h.bind fun _ => rfl
theorem rf_ix3_0 {e1 : α → D} {e2 : β → D} {e3 : γ → D} {m : R (α × β × γ)} (h : Rf (f σ) m (eT3 e1 e2 e3)) : Rf (eIx f (eK (.int 0)) σ) (m.bind fun p => .ok p.1) e1 := h.bind fun _ => rfl
theorem rf_ix3_1 {e1 : α → D} {e2 : β → D} {e3 : γ → D} {m : R (α × β × γ)} (h : Rf (f σ) m (eT3 e1 e2 e3)) : Rf (eIx f (eK (.int 1)) σ) (m.bind fun p => .ok p.2.1) e2 := h.bind fun _ => rfl
theorem rf_tup1 {f1 : Sl → R D} {e1 : α → D} {m1 : R α} (h1 : Rf (f1 σ) m1 e1) : Rf (eTup (aC f1 aN) σ) (m1.bind fun a1 => .ok a1) (eT1 e1) := by
  simp only [u_eTup, u_aC, u_aN, R.bind_assoc, R.bind_ok, tupOf_tup]
  exact h1.bind fun a1 => .guard1 (le_line (by simp)) rfl
theorem rf_call1 {θ : Type} {h : List D → R D} {eθ : θ → D} {f1 : Sl → R D} {e1 : α → D} {m1 : R α} {e1' : α → D} {Φ : α → R θ} (T : ∀ a1, Rf (h [e1' a1]) (Φ a1) eθ) (z1 : Fz e1 e1') (hc : (Cl e1 ∧ True) ∨ Nf eθ) (h1 : Rf (f1 σ) m1 e1) : Rf (eF h (aC f1 aN) σ) (m1.bind fun a1 => Φ a1) eθ := by
  simp only [u_eF, u_aC, u_aN, R.bind_assoc, R.bind_ok, tupOf_tup]
  refine h1.bind fun a1 => ?_
  have q : frzL [e1 a1] = [e1' a1] := by simp [z1 _]
  rw [q]
  have t := T a1
  cases y : Φ a1 with
  | ok b =>
    rw [y] at t
    rw [show h [e1' a1] = .ok (eθ b) from t]
    show (if (cleanL [e1 a1] || noFrz (eθ b)) = true then R.ok (eθ b) else .bad) = _
    refine if_pos ?_
    rcases hc with ⟨c1, _⟩ | nf
    · simp [c1 _]
    · simp [nf b]
  | err c fs =>
    rw [y] at t
    rw [show h [e1' a1] = .err c fs from t]
    exact rfl
  | bad => exact True.intro
theorem rf_bi1 {θ : Type} {b : Bi} {eθ : θ → D} {f1 : Sl → R D} {e1 : α → D} {m1 : R α} {Φ : α → R θ} (T : ∀ a1, Rf (biD b [e1 a1]) (Φ a1) eθ) (h1 : Rf (f1 σ) m1 e1) : Rf (eBi b (aC f1 aN) σ) (m1.bind fun a1 => Φ a1) eθ := by
  simp only [u_eBi, u_aC, u_aN, R.bind_assoc, R.bind_ok, tupOf_tup]
  exact h1.bind fun a1 => T a1
theorem rf_tup2 {f1 : Sl → R D} {e1 : α → D} {m1 : R α} {f2 : Sl → R D} {e2 : β → D} {m2 : R β} (h1 : Rf (f1 σ) m1 e1) (h2 : Rf (f2 σ) m2 e2) : Rf (eTup (aC f1 (aC f2 aN)) σ) (m1.bind fun a1 => m2.bind fun a2 => .ok (a1, a2)) (eT2 e1 e2) := by
  simp only [u_eTup, u_aC, u_aN, R.bind_assoc, R.bind_ok, tupOf_tup]
  exact h1.bind fun a1 => h2.bind fun a2 => .guard1 (le_line (by simp)) rfl
theorem rf_call2 {θ : Type} {h : List D → R D} {eθ : θ → D} {f1 : Sl → R D} {e1 : α → D} {m1 : R α} {f2 : Sl → R D} {e2 : β → D} {m2 : R β} {e1' : α → D} {e2' : β → D} {Φ : α → β → R θ} (T : ∀ a1 a2, Rf (h [e1' a1, e2' a2]) (Φ a1 a2) eθ) (z1 : Fz e1 e1') (z2 : Fz e2 e2') (hc : (Cl e1 ∧ Cl e2 ∧ True) ∨ Nf eθ) (h1 : Rf (f1 σ) m1 e1) (h2 : Rf (f2 σ) m2 e2) : Rf (eF h (aC f1 (aC f2 aN)) σ) (m1.bind fun a1 => m2.bind fun a2 => Φ a1 a2) eθ := by
  simp only [u_eF, u_aC, u_aN, R.bind_assoc, R.bind_ok, tupOf_tup]
  refine h1.bind fun a1 => h2.bind fun a2 => ?_
  have q : frzL [e1 a1, e2 a2] = [e1' a1, e2' a2] := by simp [z1 _, z2 _]
  rw [q]
  have t := T a1 a2
  cases y : Φ a1 a2 with
  | ok b =>
    rw [y] at t
    rw [show h [e1' a1, e2' a2] = .ok (eθ b) from t]
    show (if (cleanL [e1 a1, e2 a2] || noFrz (eθ b)) = true then R.ok (eθ b) else .bad) = _
    refine if_pos ?_
    rcases hc with ⟨c1, c2, _⟩ | nf
    · simp [c1 _, c2 _]
    · simp [nf b]
  | err c fs =>
    rw [y] at t
    rw [show h [e1' a1, e2' a2] = .err c fs from t]
    exact rfl
  | bad => exact True.intro
theorem rf_tup3 {f1 : Sl → R D} {e1 : α → D} {m1 : R α} {f2 : Sl → R D} {e2 : β → D} {m2 : R β} {f3 : Sl → R D} {e3 : γ → D} {m3 : R γ} (h1 : Rf (f1 σ) m1 e1) (h2 : Rf (f2 σ) m2 e2) (h3 : Rf (f3 σ) m3 e3) : Rf (eTup (aC f1 (aC f2 (aC f3 aN))) σ) (m1.bind fun a1 => m2.bind fun a2 => m3.bind fun a3 => .ok (a1, a2, a3)) (eT3 e1 e2 e3) := by
  simp only [u_eTup, u_aC, u_aN, R.bind_assoc, R.bind_ok, tupOf_tup]
  exact h1.bind fun a1 => h2.bind fun a2 => h3.bind fun a3 => .guard1 (le_line (by simp)) rfl
theorem rf_call3 {θ : Type} {h : List D → R D} {eθ : θ → D} {f1 : Sl → R D} {e1 : α → D} {m1 : R α} {f2 : Sl → R D} {e2 : β → D} {m2 : R β} {f3 : Sl → R D} {e3 : γ → D} {m3 : R γ} {e1' : α → D} {e2' : β → D} {e3' : γ → D} {Φ : α → β → γ → R θ} (T : ∀ a1 a2 a3, Rf (h [e1' a1, e2' a2, e3' a3]) (Φ a1 a2 a3) eθ) (z1 : Fz e1 e1') (z2 : Fz e2 e2') (z3 : Fz e3 e3') (hc : (Cl e1 ∧ Cl e2 ∧ Cl e3 ∧ True) ∨ Nf eθ) (h1 : Rf (f1 σ) m1 e1) (h2 : Rf (f2 σ) m2 e2) (h3 : Rf (f3 σ) m3 e3) : Rf (eF h (aC f1 (aC f2 (aC f3 aN))) σ) (m1.bind fun a1 => m2.bind fun a2 => m3.bind fun a3 => Φ a1 a2 a3) eθ := by
  simp only [u_eF, u_aC, u_aN, R.bind_assoc, R.bind_ok, tupOf_tup]
  refine h1.bind fun a1 => h2.bind fun a2 => h3.bind fun a3 => ?_
  have q : frzL [e1 a1, e2 a2, e3 a3] = [e1' a1, e2' a2, e3' a3] := by simp [z1 _, z2 _, z3 _]
  rw [q]
  have t := T a1 a2 a3
  cases y : Φ a1 a2 a3 with
  | ok b =>
    rw [y] at t
    rw [show h [e1' a1, e2' a2, e3' a3] = .ok (eθ b) from t]
    show (if (cleanL [e1 a1, e2 a2, e3 a3] || noFrz (eθ b)) = true then R.ok (eθ b) else .bad) = _
    refine if_pos ?_
    rcases hc with ⟨c1, c2, c3, _⟩ | nf
    · simp [c1 _, c2 _, c3 _]
    · simp [nf b]
  | err c fs =>
    rw [y] at t
    rw [show h [e1' a1, e2' a2, e3' a3] = .err c fs from t]
    exact rfl
  | bad => exact True.intro
theorem rf_call4 {θ : Type} {h : List D → R D} {eθ : θ → D} {f1 : Sl → R D} {e1 : α → D} {m1 : R α} {f2 : Sl → R D} {e2 : β → D} {m2 : R β} {f3 : Sl → R D} {e3 : γ → D} {m3 : R γ} {f4 : Sl → R D} {e4 : δ → D} {m4 : R δ} {e1' : α → D} {e2' : β → D} {e3' : γ → D} {e4' : δ → D} {Φ : α → β → γ → δ → R θ} (T : ∀ a1 a2 a3 a4, Rf (h [e1' a1, e2' a2, e3' a3, e4' a4]) (Φ a1 a2 a3 a4) eθ) (z1 : Fz e1 e1') (z2 : Fz e2 e2') (z3 : Fz e3 e3') (z4 : Fz e4 e4') (hc : (Cl e1 ∧ Cl e2 ∧ Cl e3 ∧ Cl e4 ∧ True) ∨ Nf eθ) (h1 : Rf (f1 σ) m1 e1) (h2 : Rf (f2 σ) m2 e2) (h3 : Rf (f3 σ) m3 e3) (h4 : Rf (f4 σ) m4 e4) : Rf (eF h (aC f1 (aC f2 (aC f3 (aC f4 aN)))) σ) (m1.bind fun a1 => m2.bind fun a2 => m3.bind fun a3 => m4.bind fun a4 => Φ a1 a2 a3 a4) eθ := by
  simp only [u_eF, u_aC, u_aN, R.bind_assoc, R.bind_ok, tupOf_tup]
  refine h1.bind fun a1 => h2.bind fun a2 => h3.bind fun a3 => h4.bind fun a4 => ?_
  have q : frzL [e1 a1, e2 a2, e3 a3, e4 a4] = [e1' a1, e2' a2, e3' a3, e4' a4] := by simp [z1 _, z2 _, z3 _, z4 _]
  rw [q]
  have t := T a1 a2 a3 a4
  cases y : Φ a1 a2 a3 a4 with
  | ok b =>
    rw [y] at t
    rw [show h [e1' a1, e2' a2, e3' a3, e4' a4] = .ok (eθ b) from t]
    show (if (cleanL [e1 a1, e2 a2, e3 a3, e4 a4] || noFrz (eθ b)) = true then R.ok (eθ b) else .bad) = _
    refine if_pos ?_
    rcases hc with ⟨c1, c2, c3, c4, _⟩ | nf
    · simp [c1 _, c2 _, c3 _, c4 _]
    · simp [nf b]
  | err c fs =>
    rw [y] at t
    rw [show h [e1' a1, e2' a2, e3' a3, e4' a4] = .err c fs from t]
    exact rfl
  | bad => exact True.intro
theorem bt_lenL {o : Bool} (xs : List α) : Rf (biD .len [eLs o e xs]) (.ok (xs.length : Int)) D.int := rf_ok (by unfold eLs; rw [biD_lenL, List.length_map])
theorem bt_lenQ (xs : List α) : Rf (biD .len [eSq e xs]) (.ok (xs.length : Int)) D.int := rf_ok (by unfold eSq; rw [biD_lenT, List.length_map])
def lenT (s : St) : R Int := szT s.length (s.length : Int)
theorem bt_lenS (s : St) : Rf (biD .len [eSt s]) (lenT s) D.int := by
  unfold eSt lenT; rw [biD_lenS]; exact .guard (by rw [sD_len]; exact id) (rf_ok (by rw [sD_len]))
theorem bt_lenD {o : Bool} {κ : α → NestedKey} (xs : List (α × β)) : Rf (biD .len [eDc o κ e' xs]) (.ok (xs.length : Int)) D.int := rf_ok (by unfold eDc; rw [biD_lenD, List.length_map])
theorem bt_tupL {o : Bool} (c : Cl e) (xs : List α) : Rf (biD .tuple [eLs o e xs]) (.ok xs) (eSq e) := rf_ok (by unfold eLs; rw [biD_tupleL, if_pos (cl_map c xs)]; rfl)
theorem bt_intB (b : Bool) : Rf (biD .int [.bl b]) (.ok (if b = true then 1 else 0)) D.int := rfl
theorem blsD_map : ∀ xs : List Bool, blsD (xs.map D.bl) = some xs
  | [] => rfl
  | x :: xs => by rw [List.map_cons, blsD, blsD_map xs]; rfl
theorem bt_all {o : Bool} (xs : List Bool) : Rf (biD .all [eLs o D.bl xs]) (.ok (xs.all id)) D.bl := by
  unfold eLs; show Rf (match blsD (xs.map D.bl) with | some ns => .ok (.bl (ns.all id)) | none => .bad) _ _
  rw [blsD_map]; exact rfl
def Rl (r : R D) (m : R (List α)) (e : α → D) : Prop := Rf r m fun xs => .tup (xs.map e)
theorem rl_nil : Rl (aN σ) (.ok ([] : List α)) e := rfl
theorem rl_cons {m : R α} {ms : R (List α)} (h : Rf (f σ) m e) (h2 : Rl (k σ) ms e) : Rl (aC f k σ) (m.bind fun a => ms.bind fun as => .ok (a :: as)) e :=
  h.bind fun a => Rf.bind h2 fun as => rf_ok rfl
theorem rf_lst {ms : R (List α)} (h : Rl (f σ) ms e) : Rf (eLst f σ) (ms.bind fun as => szT as.length as) (eLs true e) :=
  Rf.bind h fun as => .guard (c := (as.map e).length ≤ sizeLine) (by rw [List.length_map]; exact id) rfl
theorem rf_lstP {as : List α} (h : Rl (f σ) (.ok as) e) (hn : as.length ≤ 1000000) : Rf (eLst f σ) (.ok as) (eLs true e) := by
  have q := rf_lst h
  unfold szT at q
  rw [R.bind_ok, if_pos (le_line hn)] at q
  exact q
theorem rf_d0 {κ : α → NestedKey} {e' : β → D} : Rf (eD0 σ) (.ok ([] : List (α × β))) (eDc true κ e') := rfl
theorem rf_slL {o : Bool} {nb nc : Bool} {m : R (List α)} {lo hi : R (Option Int)} (c : Cl e) (h : Rf (f σ) m (eLs o e))
    (h1 : ∀ i, lo = .ok i → (k σ).bind (fun l' => partD (if nb = true then none else some l')) = .ok i) (h2 : ∀ i, hi = .ok i → (l σ).bind (fun l' => partD (if nc = true then none else some l')) = .ok i) (n1 : ∀ c fs, lo ≠ .err c fs) (n2 : ∀ c fs, hi ≠ .err c fs) :
    Rf (eSl f nb k nc l σ) (m.bind fun xs => lo.bind fun i => hi.bind fun j => .ok (cutL xs i j)) (eLs true e) := by
  refine h.bind fun xs => ?_
  cases lo with
  | err c fs => exact absurd rfl (n1 c fs)
  | bad => exact True.intro
  | ok i => cases hi with
    | err c fs => exact absurd rfl (n2 c fs)
    | bad => exact True.intro
    | ok j =>
      have a := h1 i rfl
      have b := h2 j rfl
      rw [show ((k σ).bind fun l' => (partD (if nb = true then none else some l')).bind fun l' => (l σ).bind fun h => (partD (if nc = true then none else some h)).bind fun h => slD (eLs o e xs) l' h) = (((k σ).bind fun l' => partD (if nb = true then none else some l')).bind fun l' => ((l σ).bind fun h => partD (if nc = true then none else some h)).bind fun h => slD (eLs o e xs) l' h) by simp only [R.bind_assoc], a, b]
      refine rf_ok ?_
      show (if cleanL (xs.map e) = true then R.ok (D.lst true (cutL (xs.map e) i j)) else .bad) = _
      rw [if_pos (cl_map c xs)]
      simp [cutL, eLs, List.map_take, List.map_drop]
theorem cutS_sD (s : St) (i j : Option Int) : L2.cutS (sD s) i j = sD (cutL s i j) := by
  unfold L2.cutS cutL
  rw [sD_cps, sD_len]
  unfold sD
  simp [List.map_take, List.map_drop]
theorem rf_slS {nb nc : Bool} {m : R St} {lo hi : R (Option Int)} (h : Rf (f σ) m eSt)
    (h1 : ∀ i, lo = .ok i → (k σ).bind (fun l' => partD (if nb = true then none else some l')) = .ok i) (h2 : ∀ i, hi = .ok i → (l σ).bind (fun l' => partD (if nc = true then none else some l')) = .ok i) (n1 : ∀ c fs, lo ≠ .err c fs) (n2 : ∀ c fs, hi ≠ .err c fs) :
    Rf (eSl f nb k nc l σ) (m.bind fun xs => lo.bind fun i => hi.bind fun j => szT xs.length (cutL xs i j)) eSt := by
  refine h.bind fun xs => ?_
  cases lo with
  | err c fs => exact absurd rfl (n1 c fs)
  | bad => exact True.intro
  | ok i => cases hi with
    | err c fs => exact absurd rfl (n2 c fs)
    | bad => exact True.intro
    | ok j =>
      have a := h1 i rfl
      have b := h2 j rfl
      rw [show ((k σ).bind fun l' => (partD (if nb = true then none else some l')).bind fun l' => (l σ).bind fun h => (partD (if nc = true then none else some h)).bind fun h => slD (eSt xs) l' h) = (((k σ).bind fun l' => partD (if nb = true then none else some l')).bind fun l' => ((l σ).bind fun h => partD (if nc = true then none else some h)).bind fun h => slD (eSt xs) l' h) by simp only [R.bind_assoc], a, b]
      refine .guard (c := (sD xs).length ≤ sizeLine) (by rw [sD_len]; exact id) (rf_ok ?_)
      rw [cutS_sD]; rfl
def okN (m : R Int) : R (Option Int) := match m with | .ok i => .ok (some i) | _ => .bad
theorem sl_no {k : Sl → R D} {i : Option Int} (hk : k σ = .ok .non) (h : (R.ok none : R (Option Int)) = .ok i) : (k σ).bind (fun l' => partD (if true = true then none else some l')) = .ok i := by
  rw [hk]; exact h
theorem sl_yes {m : R Int} {i : Option Int} (hk : Rf (k σ) m D.int) (h : okN m = .ok i) : (k σ).bind (fun l' => partD (if false = true then none else some l')) = .ok i := by
  cases m with
  | ok j => rw [show k σ = .ok (.int j) from hk]; exact h
  | err _ _ => cases h
  | bad => cases h
theorem ne_no {i : Option Int} : ∀ c fs, (R.ok i : R (Option Int)) ≠ .err c fs := fun _ _ h => by cases h
theorem ne_okN {m : R Int} : ∀ c fs, okN m ≠ .err c fs := fun _ _ h => by cases m <;> cases h
end
end DI
namespace DI
open PySem
section
variable {α β γ δ S S' L L' : Type} {σ : Sl} {f k c : Sl → R D} {e : α → D} {e' : β → D} {m : R α} {n : R β}
def Ri (r : R (List D)) (m : R (List α)) (e : α → D) : Prop :=
  match m with
  | .ok xs => r = .ok (xs.map e)
  | .err c fs => r = .err c fs
  | .bad => True
theorem Rf.bindI {r : R D} {m : R α} {e : α → D} {k : D → R (List D)} {M : α → R (List β)} {e' : β → D} (h : Rf r m e) (h2 : ∀ a, Ri (k (e a)) (M a) e') : Ri (r.bind k) (m.bind M) e' := by
  cases m with
  | ok a => rw [show r = .ok (e a) from h]; exact h2 a
  | err c fs => rw [show r = .err c fs from h]; exact rfl
  | bad => exact True.intro
theorem Ri.guard {c c' : Prop} [Decidable c] [Decidable c'] {r : R (List D)} {m : R (List α)} {e : α → D} (hc : c' → c) (h : Ri r m e) : Ri (if c then r else .bad) (if c' then m else .bad) e := by
  by_cases q : c'
  · rw [if_pos q, if_pos (hc q)]; exact h
  · rw [if_neg q]; exact True.intro
def rg (lo : Int) (n : Nat) : List Int := (List.range n).map fun (k : Nat) => lo + (k : Int)
theorem rg_map (lo : Int) (n : Nat) : rngL lo n = (rg lo n).map D.int := by
  unfold rngL rg
  rw [List.map_map]; rfl
noncomputable def rngT (n : Int) : R (List Int) := if small62 n = true then .ok (rg 0 n.toNat) else .bad
theorem ri_r1 {m : R Int} (h : Rf (f σ) m D.int) : Ri (iR1 (aC f aN) σ) (m.bind fun n => rngT n) D.int := by
  simp only [u_iR1, u_aC, u_aN, R.bind_assoc, R.bind_ok, tupOf_tup]
  exact h.bindI fun n => .guard id (by rw [rg_map]; exact rfl)
theorem it_L {o : Bool} (cl : Cl e) (xs : List α) : itemsD (eLs o e xs) = .ok (xs.map e) := by unfold eLs; rw [itemsD_lst, if_pos (cl_map cl xs)]
theorem it_Q (cl : Cl e) (xs : List α) : itemsD (eSq e xs) = .ok (xs.map e) := by unfold eSq; rw [itemsD_tup, if_pos (cl_map cl xs)]
theorem it_S (s : St) : itemsD (eSt s) = .ok (s.map eCh) := by unfold eSt; rw [itemsD_str, sD_cps, List.map_map]; rfl
theorem ri_L {o : Bool} {m : R (List α)} (cl : Cl e) (h : Rf (f σ) m (eLs o e)) : Ri (iSeq' f σ) (m.bind fun xs => .ok xs) e := h.bindI fun xs => it_L cl xs
theorem ri_Q {m : R (List α)} (cl : Cl e) (h : Rf (f σ) m (eSq e)) : Ri (iSeq' f σ) (m.bind fun xs => .ok xs) e := h.bindI fun xs => it_Q cl xs
theorem ri_S {m : R St} (h : Rf (f σ) m eSt) : Ri (iSeq' f σ) (m.bind fun xs => .ok xs) eCh := h.bindI fun xs => it_S xs
def enT : Nat → List α → List (Int × α)
  | _, [] => []
  | k, x :: xs => ((k : Int), x) :: enT (k + 1) xs
theorem enT_map (e : α → D) : ∀ (k : Nat) (xs : List α), enumL k (xs.map e) = (enT k xs).map (eT2 D.int e)
  | _, [] => rfl
  | k, x :: xs => by rw [List.map_cons, enumL, enT_map e (k + 1) xs]; rfl
theorem ri_enOf {g : γ → D} {h' : γ → List α} (hi : ∀ x, itemsD (g x) = .ok ((h' x).map e)) {m : R γ} (h : Rf (f σ) m g) : Ri (iEn (aC f aN) σ) (m.bind fun xs => .ok (enT 0 (h' xs))) (eT2 D.int e) := by
  simp only [u_iEn, u_aC, u_aN, R.bind_assoc, R.bind_ok, tupOf_tup]
  exact h.bindI fun xs => by
    rw [enumD_one, hi, R.bind_ok, enT_map]; exact rfl
theorem ri_enS {m : R St} (h : Rf (f σ) m eSt) : Ri (iEn (aC f aN) σ) (m.bind fun xs => .ok (enT 0 xs)) (eT2 D.int eCh) := ri_enOf (h' := fun (xs : St) => (xs : List Char)) it_S h
def mpT (F : α → R β) : List α → R (List β)
  | [] => .ok []
  | x :: xs => match F x with
    | .ok y => (mpT F xs).bind fun ys => .ok (y :: ys)
    | _ => .bad
def fpT (C : α → R Bool) (F : α → R β) : List α → R (List β)
  | [] => .ok []
  | x :: xs => match C x with
    | .ok true => (match F x with
      | .ok y => (fpT C F xs).bind fun ys => .ok (y :: ys)
      | _ => .bad)
    | .ok false => fpT C F xs
    | _ => .bad
def cmT (xs : List α) (F : α → R β) : R (List β) := (mpT F xs).bind fun ys => if ys.length ≤ sizeLine then .ok ys else .bad
def cfT (xs : List α) (C : α → R Bool) (F : α → R β) : R (List β) := (fpT C F xs).bind fun ys => if ys.length ≤ sizeLine then .ok ys else .bad
theorem fpT_no {C : α → R Bool} {F : α → R β} : ∀ (xs : List α) c fs, fpT C F xs ≠ .err c fs
  | [], c, fs, h => by cases h
  | x :: xs, c, fs, h => by
    rw [fpT] at h
    cases hc : C x with
    | ok b =>
      rw [hc] at h
      cases b with
      | false => exact fpT_no xs c fs h
      | true =>
        cases hf : F x with
        | ok y =>
          rw [hf] at h
          cases hr : fpT C F xs with
          | ok ys => rw [hr] at h; cases h
          | err c' fs' => exact fpT_no xs c' fs' hr
          | bad => rw [hr] at h; cases h
        | err _ _ => rw [hf] at h; cases h
        | bad => rw [hf] at h; cases h
    | err _ _ => rw [hc] at h; cases h
    | bad => rw [hc] at h; cases h
theorem fpT_ok {g : D → R (Option D)} {C : α → R Bool} {F : α → R β} {e : α → D} {e' : β → D} (h : ∀ x, (C x = .ok false → g (e x) = .ok none) ∧ ∀ y, C x = .ok true → F x = .ok y → g (e x) = .ok (some (e' y))) : ∀ (xs : List α) (ys : List β), fpT C F xs = .ok ys → compR g (xs.map e) = .ok (ys.map e')
  | [], ys, q => by cases q; rfl
  | x :: xs, ys, q => by
    rw [fpT] at q
    cases hc : C x with
    | ok b =>
      rw [hc] at q
      cases b with
      | false =>
        rw [List.map_cons, compR, (h x).1 hc, R.bind_ok, fpT_ok h xs ys q]; rfl
      | true =>
        cases hf : F x with
        | ok y =>
          rw [hf] at q
          cases hr : fpT C F xs with
          | ok zs =>
            rw [hr] at q
            cases q
            rw [List.map_cons, compR, (h x).2 y hc hf, R.bind_ok, fpT_ok h xs zs hr]; rfl
          | err _ _ => rw [hr] at q; cases q
          | bad => rw [hr] at q; cases q
        | err _ _ => rw [hf] at q; cases q
        | bad => rw [hf] at q; cases q
    | err _ _ => rw [hc] at q; cases q
    | bad => rw [hc] at q; cases q
theorem mpT_fpT {F : α → R β} : ∀ xs : List α, mpT F xs = fpT (fun _ => .ok true) F xs
  | [] => rfl
  | x :: xs => by rw [mpT, fpT, mpT_fpT xs]
theorem rf_cf {vs : List Nat} {p : Pat} {fi : Sl → R (List D)} {fc fe : Sl → R D} {m : R (List α)} {C : α → R Bool} {F : α → R β} (hi : Ri (fi σ) m e) (hb : ∀ x, ∃ σ1, bindP (wipeL σ vs) p (e x) = .ok σ1 ∧ Rf (fc σ1) (C x) D.bl ∧ Rf (fe σ1) (F x) e') : Rf (eComp vs p fi fc fe σ) (m.bind fun xs => cfT xs C F) (eLs true e') := by
  cases m with
  | bad => exact True.intro
  | err c fs => unfold eComp; rw [show fi σ = .err c fs from hi]; exact rfl
  | ok xs =>
    unfold eComp
    rw [show fi σ = .ok (xs.map e) from hi, R.bind_ok, R.bind_ok]
    unfold cfT
    cases hf : fpT C F xs with
    | bad => exact True.intro
    | err c fs => exact absurd hf (fpT_no xs c fs)
    | ok ys =>
      rw [fpT_ok (g := cBody vs p fc fe σ) (fun x => ?_) xs ys hf, R.bind_ok, R.bind_ok]
      · exact .guard (by rw [List.length_map]; exact id) rfl
      · obtain ⟨σ1, b, hc, he⟩ := hb x
        unfold cBody
        rw [b, R.bind_ok]
        refine ⟨fun q => ?_, fun y q q2 => ?_⟩
        · rw [q] at hc; rw [show fc σ1 = .ok (.bl false) from hc]; rfl
        · rw [q] at hc; rw [q2] at he; rw [show fc σ1 = .ok (.bl true) from hc]; simp only [R.bind_ok, boolOf_bl, if_pos]; rw [show fe σ1 = .ok (e' y) from he]; rfl
theorem rf_cm {vs : List Nat} {p : Pat} {fi : Sl → R (List D)} {fe : Sl → R D} {m : R (List α)} {F : α → R β} (hi : Ri (fi σ) m e) (hb : ∀ x, ∃ σ1, bindP (wipeL σ vs) p (e x) = .ok σ1 ∧ Rf (fe σ1) (F x) e') : Rf (eComp vs p fi eT fe σ) (m.bind fun xs => cmT xs F) (eLs true e') := by
  have q := rf_cf (C := fun _ => .ok true) hi fun x => by
    obtain ⟨σ1, b, h⟩ := hb x
    exact ⟨σ1, b, rfl, h⟩
  unfold cfT at q
  unfold cmT
  simp only [mpT_fpT]
  exact q
inductive O (S L α : Type) where
  | nx (s : S) | rt (a : α) | bk (l : L) | ct (l : L) | er (c : Nat) (fs : List D) | bad
def bnd (m : R β) (M : β → O S L α) : O S L α :=
  match m with
  | .ok a => M a
  | .err c fs => .er c fs
  | .bad => .bad
def O.thn (m : O S L α) (M : S → O S' L α) : O S' L α :=
  match m with
  | .nx s => M s
  | .rt a => .rt a
  | .bk l => .bk l
  | .ct l => .ct l
  | .er c fs => .er c fs
  | .bad => .bad
def runO (m : O S L α) : R α :=
  match m with
  | .rt a => .ok a
  | .er c fs => .err c fs
  | _ => .bad
def lpT (C : S → R Bool) (F : S → O S S α) : Nat → S → O S L α
  | 0, _ => .bad
  | n + 1, s => match C s with
    | .ok true => (match F s with
      | .nx s' => lpT C F n s'
      | .ct s' => lpT C F n s'
      | .bk s' => .nx s'
      | .rt a => .rt a
      | .er c fs => .er c fs
      | .bad => .bad)
    | .ok false => .nx s
    | .err c fs => .er c fs
    | .bad => .bad
open Classical in
noncomputable def whlT (C : S → R Bool) (F : S → O S S α) (s : S) : O S L α := if h : ∃ n, (lpT C F n s : O S L α) ≠ .bad then lpT C F (Classical.choose h) s else .bad
def forT : List β → (β → S → O S S α) → S → O S L α
  | [], _, s => .nx s
  | x :: xs, F, s => match F x s with
    | .nx s' => forT xs F s'
    | .ct s' => forT xs F s'
    | .bk s' => .nx s'
    | .rt a => .rt a
    | .er c fs => .er c fs
    | .bad => .bad
def apT (xs : List α) (a : α) : R (List α) := if xs.length < sizeLine then .ok (xs ++ [a]) else .bad
def puT [DecidableEq α] (kvs : List (α × β)) (k : α) (v : β) : R (List (α × β)) := if kvs.length < sizeLine then .ok (putT kvs k v) else .bad
def Gs (I : S → Sl → Prop) (J : L → Sl → Prop) (E : Sl → Prop) (e : α → D) (r : RS) (m : O S L α) : Prop :=
  match m with
  | .nx s => ∃ σ', r = .nx σ' ∧ I s σ'
  | .rt a => r = .rt (e a)
  | .bk l => ∃ σ', r = .bk σ' ∧ J l σ'
  | .ct l => ∃ σ', r = .ct σ' ∧ J l σ'
  | .er c fs => ∃ σ', r = .er c fs σ' ∧ E σ'
  | .bad => True
variable {I : S → Sl → Prop} {I' : S' → Sl → Prop} {J : L → Sl → Prop} {E : Sl → Prop} {K F G : SF}
theorem andThen_nx (r : RS) : r.andThen .nx = r := by cases r <;> rfl
theorem g_last {M : O S L α} (h : Gs I J E e ((F σ).andThen .nx) M) : Gs I J E e (F σ) M := by rw [andThen_nx] at h; exact h
theorem g_fun {M : O Unit Unit α} (h : Gs (fun _ _ => True) (fun _ _ => True) (fun _ => True) e (F σ) M) : Rf (resR (F σ)) (runO M) e := by
  cases M with
  | rt a => exact (congrArg resR (show F σ = .rt (e a) from h))
  | er c fs => obtain ⟨σ', q, _⟩ := h; exact congrArg resR q
  | _ => exact True.intro
theorem g_seq {M : O S L α} (h : Gs I J E e ((F σ).andThen fun σ => (G σ).andThen K) M) : Gs I J E e ((sSeq F G σ).andThen K) M := by
  have : (sSeq F G σ).andThen K = (F σ).andThen fun σ => (G σ).andThen K := by
    unfold sSeq
    cases F σ <;> rfl
  rw [this]; exact h
theorem g_nx {s : S} (h : I s σ) : Gs I J E e (RS.nx σ) (.nx s) := ⟨σ, rfl, h⟩
theorem g_skip {M : O S L α} (h : Gs I J E e (K σ) M) : Gs I J E e ((sSkip σ).andThen K) M := h
theorem g_val {m : R β} {k : D → RS} {M : β → O S L α} (h : Rf (f σ) m e') (hE : E σ) (h2 : ∀ a, Gs I J E e ((k (e' a)).andThen K) (M a)) : Gs I J E e ((rS (f σ) σ k).andThen K) (bnd m M) := by
  cases m with
  | ok a => rw [show f σ = .ok (e' a) from h]; exact h2 a
  | err c fs => rw [show f σ = .err c fs from h]; exact ⟨σ, rfl, hE⟩
  | bad => exact True.intro
theorem g_set {i : Nat} {m : R β} {M : β → O S L α} (h : Rf (f σ) m e') (hE : E σ) (h2 : ∀ a, Gs I J E e (K (σ.set i (some (e' a)))) (M a)) : Gs I J E e ((sSet i f σ).andThen K) (bnd m M) := g_val h hE h2
theorem g_app {i : Nat} {m : R β} {xs : List β} {M : List β → O S L α} (e' : β → D) (hx : getS σ i = .ok (eLs true e' xs)) (h : Rf (f σ) m e') (hE : E σ) (h2 : ∀ ys, Gs I J E e (K (σ.set i (some (eLs true e' ys)))) (M ys)) : Gs I J E e ((sApp i f σ).andThen K) (bnd m fun a => bnd (apT xs a) M) := by
  have q : sApp i f σ = rS (f σ) σ fun y => if (xs.map e').length < sizeLine then .nx (σ.set i (some (.lst true (xs.map e' ++ [y])))) else .bad := by
    rw [u_sApp, hx]; rfl
  rw [q]
  refine g_val h hE fun a => ?_
  unfold apT
  by_cases hl : xs.length < sizeLine
  · rw [if_pos (by rw [List.length_map]; exact hl), if_pos hl]
    have := h2 (xs ++ [a])
    unfold eLs at this
    rw [List.map_append] at this
    exact this
  · rw [if_neg hl]; exact True.intro
theorem g_putk [DecidableEq β] {i : Nat} {fk fe : Sl → R D} {kvs : List (β × γ)} {κ : β → NestedKey} {ek : β → D} {mk : R β} {mv : R γ} {M : List (β × γ) → O S L α} (ev : γ → D) (kd : KD ek κ) (cl : Cl ev) (hx : getS σ i = .ok (eDc true κ ev kvs)) (hv : Rf (fe σ) mv ev) (hk : Rf (fk σ) mk ek) (hE : E σ)
    (h2 : ∀ ys, Gs I J E e (K (σ.set i (some (eDc true κ ev ys)))) (M ys)) : Gs I J E e ((sPutK i fk fe σ).andThen K) (bnd mv fun v => bnd mk fun k => bnd (puT kvs k v) M) := by
  rw [u_sPutK, hx]
  refine g_val hv hE fun v => ?_
  show Gs I J E e ((rS (fk σ) σ fun x => rS (keyIn x (encK κ ev kvs)) σ fun k => if clean (ev v) = true ∧ (encK κ ev kvs).length < sizeLine then .nx (σ.set i (some (.dct true (dput (encK κ ev kvs) k (ev v))))) else .bad).andThen K) _
  refine g_val hk hE fun a => ?_
  rw [kd.keyIn]
  show Gs I J E e ((if clean (ev v) = true ∧ (encK κ ev kvs).length < sizeLine then RS.nx (σ.set i (some (.dct true (dput (encK κ ev kvs) (κ a) (ev v))))) else .bad).andThen K) _
  unfold puT
  by_cases hl : kvs.length < sizeLine
  · rw [if_pos ⟨cl v, by unfold encK; rw [List.length_map]; exact hl⟩, if_pos hl, kd.dput]
    exact h2 _
  · rw [if_neg hl]; exact True.intro
theorem g_unp {p : Pat} {m : R β} {M : β → O S L α} (cl : Cl e') (h : Rf (f σ) m e') (hE : E σ) (h2 : ∀ a, ∃ σ', bindP σ p (e' a) = .ok σ' ∧ Gs I J E e (K σ') (M a)) : Gs I J E e ((sUnp p f σ).andThen K) (bnd m M) := by
  rw [u_sUnp]
  refine g_val h hE fun a => ?_
  obtain ⟨σ', q, g⟩ := h2 a
  rw [if_pos (cl a), q]
  exact g
theorem g_fz {i : Nat} {M : O S L α} {a : β} {e1 : β → D} (e' : β → D) (hx : getS σ i = .ok (e' a)) (z : Fz e' e1) (h : Gs I J E e ((G (σ.set i (some (e1 a)))).andThen K) M) : Gs I J E e ((sFz i G σ).andThen K) M := by
  rw [u_sFz, hx]
  show Gs I J E e ((G (σ.set i (some (frz (e' a))))).andThen K) M
  rw [z a]; exact h
theorem g_if {m : R Bool} {M1 M2 : O S L α} (h : Rf (c σ) m D.bl) (hE : E σ) (h1 : Gs I J E e ((F σ).andThen K) M1) (h2 : Gs I J E e ((G σ).andThen K) M2) : Gs I J E e ((sIf c F G σ).andThen K) (bnd m fun b => if b = true then M1 else M2) := by
  rw [u_sIf]
  refine g_val h hE fun b => ?_
  cases b
  · exact h2
  · exact h1
theorem g_ret {m : R α} (h : Rf (f σ) m e) (hE : E σ) : Gs I J E e ((sRet f σ).andThen K) (bnd m .rt) := by
  rw [u_sRet]
  exact g_val h hE fun a => rfl
theorem g_thn {M : S' → O S L α} {n : O S' L α} (h : Gs I' J E e (F σ) n) (h2 : ∀ s σ', I' s σ' → Gs I J E e (K σ') (M s)) : Gs I J E e ((F σ).andThen K) (n.thn M) := by
  cases n with
  | nx s => obtain ⟨σ', q, i⟩ := h; rw [q]; exact h2 s σ' i
  | rt a => rw [show F σ = .rt (e a) from h]; exact rfl
  | bk l => obtain ⟨σ', q, i⟩ := h; rw [q]; exact ⟨σ', rfl, i⟩
  | ct l => obtain ⟨σ', q, i⟩ := h; rw [q]; exact ⟨σ', rfl, i⟩
  | er c fs => obtain ⟨σ', q, i⟩ := h; rw [q]; exact ⟨σ', rfl, i⟩
  | bad => exact True.intro
theorem g_lp {C : S → R Bool} {B : S → O S S α} (hc : ∀ s σ, I s σ → Rf (c σ) (C s) D.bl) (hb : ∀ s σ, I s σ → Gs I I E e (F σ) (B s)) (hE : ∀ s σ, I s σ → E σ) : ∀ (n : Nat) (s : S) (σ : Sl), I s σ → (lpT C B n s : O S L α) ≠ .bad → Gs I J E e (lp c F n σ) (lpT C B n s : O S L α)
  | 0, s, σ, hi, h => absurd rfl h
  | n + 1, s, σ, hi, h => by
    have ih := fun s' σ' (i : I s' σ') (h : (lpT C B n s' : O S L α) ≠ .bad) => g_lp hc hb hE n s' σ' i h
    rw [lpT] at h ⊢
    rw [lp]
    have q := hc s σ hi
    have b := hb s σ hi
    cases hC : C s with
    | bad => exact True.intro
    | err cc fs => rw [hC] at q; rw [show c σ = .err cc fs from q]; exact ⟨σ, rfl, hE s σ hi⟩
    | ok v =>
      rw [hC] at q h
      rw [show c σ = .ok (.bl v) from q]
      cases v with
      | false => exact ⟨σ, rfl, hi⟩
      | true =>
        simp only [rS_ok, if_pos] at h ⊢
        cases hB : B s with
        | nx s' => rw [hB] at b h; obtain ⟨σ', q, i⟩ := b; rw [q]; exact ih s' σ' i h
        | ct s' => rw [hB] at b h; obtain ⟨σ', q, i⟩ := b; rw [q]; exact ih s' σ' i h
        | bk s' => rw [hB] at b; obtain ⟨σ', q, i⟩ := b; rw [q]; exact ⟨σ', rfl, i⟩
        | rt a => rw [hB] at b; rw [show F σ = .rt (e a) from b]; exact rfl
        | er cc fs => rw [hB] at b; obtain ⟨σ', q, i⟩ := b; rw [q]; exact ⟨σ', rfl, i⟩
        | bad => exact True.intro
theorem g_whl {C : S → R Bool} {B : S → O S S α} {s : S} (hi : I s σ) (hE : ∀ s σ, I s σ → E σ) (hc : ∀ s σ, I s σ → Rf (c σ) (C s) D.bl) (hb : ∀ s σ, I s σ → Gs I I E e (F σ) (B s)) : Gs I J E e (sWhl c F σ) (whlT C B s : O S L α) := by
  unfold whlT
  by_cases h : ∃ n, (lpT C B n s : O S L α) ≠ .bad
  · rw [dif_pos h]
    have nb := Classical.choose_spec h
    have q := g_lp (J := J) hc hb hE _ s σ hi nb
    rw [whl_eq (n := Classical.choose h) rfl]
    · exact q
    · intro z
      rw [z] at q
      revert q nb
      generalize (lpT C B (Classical.choose h) s : O S L α) = m
      intro nb q
      cases m with
      | bad => exact nb rfl
      | rt a => cases q
      | _ => obtain ⟨_, q, _⟩ := q; cases q
  · rw [dif_neg h]; exact True.intro
theorem g_fr {p : Pat} {B : β → S → O S S α} (hb : ∀ x s σ, I s σ → ∃ σ1, bindP σ p (e' x) = .ok σ1 ∧ Gs I I E e (F σ1) (B x s)) : ∀ (xs : List β) (s : S) (σ : Sl), I s σ → Gs I J E e (fr p F (xs.map e') σ) (forT xs B s : O S L α)
  | [], s, σ, hi => ⟨σ, rfl, hi⟩
  | x :: xs, s, σ, hi => by
    have ih := fun s' σ' (i : I s' σ') => g_fr hb xs s' σ' i
    rw [forT, List.map_cons, fr]
    obtain ⟨σ1, q1, b⟩ := hb x s σ hi
    rw [q1, rS_ok]
    cases hB : B x s with
    | nx s' => rw [hB] at b; obtain ⟨σ', q, i⟩ := b; rw [q]; exact ih s' σ' i
    | ct s' => rw [hB] at b; obtain ⟨σ', q, i⟩ := b; rw [q]; exact ih s' σ' i
    | bk s' => rw [hB] at b; obtain ⟨σ', q, i⟩ := b; rw [q]; exact ⟨σ', rfl, i⟩
    | rt a => rw [hB] at b; rw [show F σ1 = .rt (e a) from b]; exact rfl
    | er cc fs => rw [hB] at b; obtain ⟨σ', q, i⟩ := b; rw [q]; exact ⟨σ', rfl, i⟩
    | bad => exact True.intro
theorem g_for {p : Pat} {src : Sl → R (List D)} {B : β → S → O S S α} {m : R (List β)} {s : S} (hs : Ri (src σ) m e') (hi : I s σ) (hE : E σ) (hb : ∀ x s σ, I s σ → ∃ σ1, bindP σ p (e' x) = .ok σ1 ∧ Gs I I E e (F σ1) (B x s)) : Gs I J E e (sFor p src F σ) (bnd m fun xs => (forT xs B s : O S L α)) := by
  unfold sFor
  cases m with
  | ok xs => rw [show src σ = .ok (xs.map e') from hs]; exact g_fr hb xs s σ hi
  | err c fs => rw [show src σ = .err c fs from hs]; exact ⟨σ, rfl, hE⟩
  | bad => exact True.intro
end
end DI
namespace DI
open PySem
section
variable {α β γ δ ε S S' L L' : Type} {σ : Sl} {f k c : Sl → R D} {e : α → D} {e' : β → D} {I : S → Sl → Prop} {J : L → Sl → Prop} {E : Sl → Prop} {K F G : SF}
theorem g_ifP {b : Bool} {M1 M2 : O S L α} (h : Rf (c σ) (.ok b) D.bl) (h1 : Gs I J E e ((F σ).andThen K) M1) (h2 : Gs I J E e ((G σ).andThen K) M2) : Gs I J E e ((sIf c F G σ).andThen K) (if b = true then M1 else M2) := by
  rw [u_sIf, show c σ = .ok (.bl b) from h]
  cases b
  · exact h2
  · exact h1
theorem g_retP {a : α} (h : Rf (f σ) (.ok a) e) : Gs I J E e ((sRet f σ).andThen K) (.rt a) := by
  rw [u_sRet, show f σ = .ok (e a) from h]
  exact rfl
theorem g_retR {i : Nat} {m : R α} (h : Rf (eV i σ) m e) (hE : E σ) : Gs I J E e ((sRetV i σ).andThen K) (bnd m .rt) := by
  rw [u_sRetV]
  exact g_val (f := eV i) h hE fun a => rfl
theorem g_appP {i : Nat} {a : β} {xs : List β} {M : List β → O S L α} (e' : β → D) (hx : getS σ i = .ok (eLs true e' xs)) (h : Rf (f σ) (.ok a) e') (hE : E σ) (h2 : ∀ ys, Gs I J E e (K (σ.set i (some (eLs true e' ys)))) (M ys)) : Gs I J E e ((sApp i f σ).andThen K) (bnd (apT xs a) M) :=
  g_app e' hx h hE h2
theorem g_forP {p : Pat} {src : Sl → R (List D)} {B : β → S → O S S α} {xs : List β} {s : S} (hs : Ri (src σ) (.ok xs) e') (hi : I s σ) (hE : E σ) (hb : ∀ x s σ, I s σ → ∃ σ1, bindP σ p (e' x) = .ok σ1 ∧ Gs I I E e (F σ1) (B x s)) : Gs I J E e (sFor p src F σ) ((forT xs B s : O S L α)) :=
  g_for hs hi hE hb
theorem k_str (s : String) : D.str (Str.ofString s) = eSt s.toList := congrArg D.str (Str.ofString_eq_toList s)
theorem wd_id : Wd e e (fun a => a) := fun _ => rfl
theorem wd_chr : Wd eCh eSt (fun c => [c]) := fun _ => rfl
theorem wd_ti : Wd D.int eTu Sum.inl := fun _ => rfl
theorem wd_ts : Wd eSt eTu Sum.inr := fun _ => rfl
theorem wd_some : Wd e (eOp e) some := fun _ => rfl
theorem wd_none : Wd eNon (eOp e) (fun _ => none) := fun _ => rfl
theorem wd_dy : Wd e eDy e := fun _ => rfl
theorem wd_map {w : α → β} (h : Wd e e' w) (xs : List α) : (xs.map w).map e' = xs.map e := by
  rw [List.map_map]
  exact List.map_congr_left fun a _ => h a
theorem wd_sq {w : α → β} (h : Wd e e' w) : Wd (eSq e) (eSq e') (List.map w) := fun a => congrArg D.tup (wd_map h a)
theorem wd_t3 {α2 β2 α3 β3 : Type} {f : α2 → D} {f' : β2 → D} {g : α3 → D} {g' : β3 → D} {w : α → β} {w2 : α2 → β2} {w3 : α3 → β3} (h : Wd e e' w) (h2 : Wd f f' w2) (h3 : Wd g g' w3) : Wd (eT3 e f g) (eT3 e' f' g') (fun p => (w p.1, w2 p.2.1, w3 p.2.2)) := fun a => by unfold eT3; rw [h, h2, h3]
theorem wd_q2 {α2 : Type} {f : α2 → D} {w : α → β} {w2 : α2 → β} (h : Wd e e' w) (h2 : Wd f e' w2) : Wd (eT2 e f) (eSq e') (fun p => [w p.1, w2 p.2]) := fun a => by unfold eT2 eSq; rw [List.map_cons, List.map_cons, h, h2]; rfl
def tuI : Turn → R Int
  | .inl i => .ok i
  | .inr _ => .bad
def unO : Option α → R α
  | some a => .ok a
  | none => .bad
theorem nw_tuI : Nw eTu D.int tuI := fun a => by cases a; exact rfl; exact True.intro
theorem nw_unO : Nw (eOp e) e unO := fun a => by cases a; exact True.intro; exact rfl
theorem rf_sl3_1 {f : Sl → R D} {g : β → D} {h' : γ → D} {m : R (α × β × γ)} (c1 : Cl e) (c2 : Cl g) (c3 : Cl h') (h : Rf (f σ) m (eT3 e g h')) : Rf (eSl f false (eK (.int 1)) true (eK .non) σ) (m.bind fun p => .ok (p.2.1, p.2.2)) (eT2 g h') :=
  h.bind fun p => by
    refine rf_ok ?_
    show (if cleanL [e p.1, g p.2.1, h' p.2.2] = true then R.ok (D.tup (cutL [e p.1, g p.2.1, h' p.2.2] (some 1) none)) else .bad) = _
    rw [if_pos (by simp [c1 _, c2 _, c3 _])]
    rfl
theorem rf_cat12 {f k : Sl → R D} {g : β → D} {h' : γ → D} {m : R α} {n : R (β × γ)} (c1 : Cl e) (c2 : Cl g) (c3 : Cl h') (h : Rf (f σ) m (eT1 e)) (h2 : Rf (k σ) n (eT2 g h')) : Rf (eB .add f k σ) (m.bind fun a => n.bind fun p => .ok (a, p)) (eT3 e g h') :=
  h.bind fun a => h2.bind fun p => by
    refine rf_ok ?_
    show (if (cleanL [e a] && cleanL [g p.1, h' p.2]) = true ∧ [e a].length + [g p.1, h' p.2].length ≤ sizeLine then R.ok (D.tup ([e a] ++ [g p.1, h' p.2])) else .bad) = _
    rw [if_pos ⟨by simp [c1 _, c2 _, c3 _], le_line (by simp)⟩]
    rfl
theorem tu_isStr : ∀ a, isTy .str (eTu a) = .ok a.isRight := fun a => by cases a <;> rfl
theorem op_isTy {t : Ty} {b : Bool} (h : ∀ a, isTy t (e a) = .ok b) (h0 : isTy t .non = .ok false) : ∀ a, isTy t (eOp e a) = .ok (a.isSome && b) := fun a => by
  cases a with
  | none => exact h0
  | some a => exact (h a).trans rfl
def idxT (s t : St) : R Int := match Builtin.Str.occurrences (sD s) (sD t) 0 (sD s).length 1 with
  | [] => .bad
  | k :: _ => .ok (k : Nat)
theorem rf_sidx {f k : Sl → R D} {m n : R St} (h : Rf (f σ) m eSt) (h2 : Rf (k σ) n eSt) : Rf (eMt .strIndex f (aC k aN) σ) (m.bind fun s => n.bind fun t => idxT s t) D.int := by
  simp only [u_eMt, u_aC, u_aN, R.bind_assoc, R.bind_ok, tupOf_tup]
  refine h.bind fun s => ?_
  rw [if_pos (show recvOk .strIndex (eSt s) = true from rfl)]
  refine h2.bind fun t => ?_
  show Rf (match Builtin.Str.occurrences (sD s) (sD t) 0 (sD s).length 1 with | [] => R.bad | k :: _ => R.ok (D.int (k : Nat))) (idxT s t) D.int
  unfold idxT
  cases Builtin.Str.occurrences (sD s) (sD t) 0 (sD s).length 1 with
  | nil => exact True.intro
  | cons k _ => exact rfl
end
end DI
namespace DI
open PySem
section
variable {σ : Sl} {f k l : Sl → R D}
theorem rf_lt {m n : R Int} (h : Rf (f σ) m D.int) (h2 : Rf (k σ) n D.int) : Rf (eC .lt f k σ) (m.bind fun i => n.bind fun j => .ok (decide (i < j))) D.bl := h.bind fun _ => h2.bind fun _ => rfl
theorem rf_le {m n : R Int} (h : Rf (f σ) m D.int) (h2 : Rf (k σ) n D.int) : Rf (eC .le f k σ) (m.bind fun i => n.bind fun j => .ok (decide (i ≤ j))) D.bl := h.bind fun _ => h2.bind fun _ => rfl
theorem rf_gt {m n : R Int} (h : Rf (f σ) m D.int) (h2 : Rf (k σ) n D.int) : Rf (eC .gt f k σ) (m.bind fun i => n.bind fun j => .ok (decide (j < i))) D.bl := h.bind fun _ => h2.bind fun _ => rfl
theorem rf_ge {m n : R Int} (h : Rf (f σ) m D.int) (h2 : Rf (k σ) n D.int) : Rf (eC .ge f k σ) (m.bind fun i => n.bind fun j => .ok (decide (j ≤ i))) D.bl := h.bind fun _ => h2.bind fun _ => rfl
theorem rf_cc_lelt {m n : R Int} {z : Int} (h : Rf (f σ) m D.int) (h2 : Rf (k σ) n D.int) (h3 : Rf (l σ) (.ok z) D.int) : Rf (eCC .le .lt f k l σ) (m.bind fun i => n.bind fun j => .ok (decide (i ≤ j) && decide (j < z))) D.bl := h.bind fun i => h2.bind fun j => by
  rw [show cmpD .le (.int i) (.int j) = .ok (decide (i ≤ j)) from rfl, R.bind_ok, show l σ = .ok (.int z) from h3]
  by_cases q : i ≤ j <;> simp [q] <;> exact rfl
end
end DI
namespace DI
open PySem
section
variable {α β γ δ ε ζ η α' β' : Type} {σ : Sl} {f k l : Sl → R D} {e : α → D} {e' : β → D}
theorem rf_neg_p  {i : Int}  (h0 : Rf (f σ) (.ok i) D.int) : Rf (eNeg f σ) (.ok (-i)) D.int := rf_neg  h0
theorem rf_not_p  {i : Bool}  (h0 : Rf (f σ) (.ok i) D.bl) : Rf (eNot f σ) (.ok (!i)) D.bl := rf_not  h0
theorem rf_not_m  {m0 : R (Bool)}  (h0 : Rf (f σ) m0 D.bl) : Rf (eNot f σ) (m0.bind fun i => .ok (!i)) D.bl := rf_not  h0
theorem rf_add_pp  {i : Int} {j : Int}  (h0 : Rf (f σ) (.ok i) D.int) (h1 : Rf (k σ) (.ok j) D.int) : Rf (eB .add f k σ) (.ok (i + j)) D.int := rf_add  h0 h1
theorem rf_sub_pp  {i : Int} {j : Int}  (h0 : Rf (f σ) (.ok i) D.int) (h1 : Rf (k σ) (.ok j) D.int) : Rf (eB .sub f k σ) (.ok (i - j)) D.int := rf_sub  h0 h1
theorem rf_sub_mp  {m0 : R (Int)} {j : Int}  (h0 : Rf (f σ) m0 D.int) (h1 : Rf (k σ) (.ok j) D.int) : Rf (eB .sub f k σ) (m0.bind fun i => .ok (i - j)) D.int := rf_sub  h0 h1
theorem rf_fdiv_pp  {i : Int} {j : Int}  (h0 : Rf (f σ) (.ok i) D.int) (h1 : Rf (k σ) (.ok j) D.int) : Rf (eB .fdiv f k σ) (fdivT i j) D.int := rf_fdiv  h0 h1
theorem rf_mod_pp  {i : Int} {j : Int}  (h0 : Rf (f σ) (.ok i) D.int) (h1 : Rf (k σ) (.ok j) D.int) : Rf (eB .mod f k σ) (modT i j) D.int := rf_mod  h0 h1
theorem rf_mod_mp  {m0 : R (Int)} {j : Int}  (h0 : Rf (f σ) m0 D.int) (h1 : Rf (k σ) (.ok j) D.int) : Rf (eB .mod f k σ) (m0.bind fun i => modT i j) D.int := rf_mod  h0 h1
theorem rf_mulR_p {j : Int} {i : Int} (b : -18446744073709551616 < j ∧ j < 18446744073709551616) (h0 : Rf (f σ) (.ok i) D.int) : Rf (eB .mul f (eK (.int j)) σ) (.ok (i * j)) D.int := rf_mulR b h0
theorem rf_mulL_p {j : Int} {i : Int} (b : -18446744073709551616 < j ∧ j < 18446744073709551616) (h0 : Rf (f σ) (.ok i) D.int) : Rf (eB .mul (eK (.int j)) f σ) (.ok (j * i)) D.int := rf_mulL b h0
theorem rf_fdivK_p {j : Int} {i : Int} (b : 0 < j ∧ j < 18446744073709551616) (h0 : Rf (f σ) (.ok i) D.int) : Rf (eB .fdiv f (eK (.int j)) σ) (.ok (i / j)) D.int := rf_fdivK b h0
theorem rf_fdivK_m {j : Int} {m0 : R (Int)} (b : 0 < j ∧ j < 18446744073709551616) (h0 : Rf (f σ) m0 D.int) : Rf (eB .fdiv f (eK (.int j)) σ) (m0.bind fun i => .ok (i / j)) D.int := rf_fdivK b h0
theorem rf_modK_p {j : Int} {i : Int} (b : 0 < j) (h0 : Rf (f σ) (.ok i) D.int) : Rf (eB .mod f (eK (.int j)) σ) (.ok (i % j)) D.int := rf_modK b h0
theorem rf_modK_m {j : Int} {m0 : R (Int)} (b : 0 < j) (h0 : Rf (f σ) m0 D.int) : Rf (eB .mod f (eK (.int j)) σ) (m0.bind fun i => .ok (i % j)) D.int := rf_modK b h0
theorem rf_addS_pp  {i : St} {j : St}  (h0 : Rf (f σ) (.ok i) eSt) (h1 : Rf (k σ) (.ok j) eSt) : Rf (eB .add f k σ) (szT (i.length + j.length) (i ++ j)) eSt := rf_addS  h0 h1
theorem rf_eq_pp [DecidableEq α] {e2 : α → D} {p : α → PyData} {u u' : Nat} {a : α} {b : α} (h : PyE e p u) (h' : PyE e2 p u') (q : PyQ p) (hn : u ≤ 64) (hn' : u' ≤ 64) (h0 : Rf (f σ) (.ok a) e) (h1 : Rf (k σ) (.ok b) e2) : Rf (eC .eq f k σ) (.ok (decide (a = b))) D.bl := rf_eq h h' q hn hn' h0 h1
theorem rf_eq_pm [DecidableEq α] {e2 : α → D} {p : α → PyData} {u u' : Nat} {a : α} {m1 : R (α)} (h : PyE e p u) (h' : PyE e2 p u') (q : PyQ p) (hn : u ≤ 64) (hn' : u' ≤ 64) (h0 : Rf (f σ) (.ok a) e) (h1 : Rf (k σ) m1 e2) : Rf (eC .eq f k σ) (m1.bind fun b => .ok (decide (a = b))) D.bl := rf_eq h h' q hn hn' h0 h1
theorem rf_eq_mp [DecidableEq α] {e2 : α → D} {p : α → PyData} {u u' : Nat} {m0 : R (α)} {b : α} (h : PyE e p u) (h' : PyE e2 p u') (q : PyQ p) (hn : u ≤ 64) (hn' : u' ≤ 64) (h0 : Rf (f σ) m0 e) (h1 : Rf (k σ) (.ok b) e2) : Rf (eC .eq f k σ) (m0.bind fun a => .ok (decide (a = b))) D.bl := rf_eq h h' q hn hn' h0 h1
theorem rf_ne_pp [DecidableEq α] {e2 : α → D} {p : α → PyData} {u u' : Nat} {a : α} {b : α} (h : PyE e p u) (h' : PyE e2 p u') (q : PyQ p) (hn : u ≤ 64) (hn' : u' ≤ 64) (h0 : Rf (f σ) (.ok a) e) (h1 : Rf (k σ) (.ok b) e2) : Rf (eC .ne f k σ) (.ok (!decide (a = b))) D.bl := rf_ne h h' q hn hn' h0 h1
theorem rf_ne_mp [DecidableEq α] {e2 : α → D} {p : α → PyData} {u u' : Nat} {m0 : R (α)} {b : α} (h : PyE e p u) (h' : PyE e2 p u') (q : PyQ p) (hn : u ≤ 64) (hn' : u' ≤ 64) (h0 : Rf (f σ) m0 e) (h1 : Rf (k σ) (.ok b) e2) : Rf (eC .ne f k σ) (m0.bind fun a => .ok (!decide (a = b))) D.bl := rf_ne h h' q hn hn' h0 h1
theorem rf_inD_pp {κ : α → NestedKey} {o : Bool} [DecidableEq α] {a : α} {b : List (α × β)} (h : KD e κ) (h0 : Rf (f σ) (.ok a) e) (h1 : Rf (k σ) (.ok b) (eDc o κ e')) : Rf (eC .mem f k σ) (.ok (hasT b a)) D.bl := rf_inD h h0 h1
theorem rf_ninD_pp {κ : α → NestedKey} {o : Bool} [DecidableEq α] {a : α} {b : List (α × β)} (h : KD e κ) (h0 : Rf (f σ) (.ok a) e) (h1 : Rf (k σ) (.ok b) (eDc o κ e')) : Rf (eC .nmem f k σ) (.ok (!hasT b a)) D.bl := rf_ninD h h0 h1
theorem rf_ninD_mp {κ : α → NestedKey} {o : Bool} [DecidableEq α] {m0 : R (α)} {b : List (α × β)} (h : KD e κ) (h0 : Rf (f σ) m0 e) (h1 : Rf (k σ) (.ok b) (eDc o κ e')) : Rf (eC .nmem f k σ) (m0.bind fun a => .ok (!hasT b a)) D.bl := rf_ninD h h0 h1
theorem rf_inC_pm  {a : Char} {m1 : R (St)}  (h0 : Rf (f σ) (.ok a) eCh) (h1 : Rf (k σ) m1 eSt) : Rf (eC .mem f k σ) (m1.bind fun b => .ok (decide (a ∈ b))) D.bl := rf_inC  h0 h1
theorem rf_ninC_pm  {a : Char} {m1 : R (St)}  (h0 : Rf (f σ) (.ok a) eCh) (h1 : Rf (k σ) m1 eSt) : Rf (eC .nmem f k σ) (m1.bind fun b => .ok (!decide (a ∈ b))) D.bl := rf_ninC  h0 h1
theorem rf_isN_p {b : α → Bool} {a : α} (hb : ∀ a, isNon (e a) = b a) (h0 : Rf (f σ) (.ok a) e) : Rf (eC .isN f (eK .non) σ) (.ok (b a)) D.bl := rf_isN b hb h0
theorem rf_ntN_p {b : α → Bool} {a : α} (hb : ∀ a, isNon (e a) = b a) (h0 : Rf (f σ) (.ok a) e) : Rf (eC .notN f (eK .non) σ) (.ok (!b a)) D.bl := rf_ntN b hb h0
theorem rf_isi_p {b : α → Bool} {t : Ty} {a : α} (hb : ∀ a, isTy t (e a) = .ok (b a)) (h0 : Rf (f σ) (.ok a) e) : Rf (eIsi t f σ) (.ok (b a)) D.bl := rf_isi b hb h0
theorem rf_lt_pp  {i : Int} {j : Int}  (h0 : Rf (f σ) (.ok i) D.int) (h1 : Rf (k σ) (.ok j) D.int) : Rf (eC .lt f k σ) (.ok (decide (i < j))) D.bl := rf_lt  h0 h1
theorem rf_le_pp  {i : Int} {j : Int}  (h0 : Rf (f σ) (.ok i) D.int) (h1 : Rf (k σ) (.ok j) D.int) : Rf (eC .le f k σ) (.ok (decide (i ≤ j))) D.bl := rf_le  h0 h1
theorem rf_gt_pp  {i : Int} {j : Int}  (h0 : Rf (f σ) (.ok i) D.int) (h1 : Rf (k σ) (.ok j) D.int) : Rf (eC .gt f k σ) (.ok (decide (j < i))) D.bl := rf_gt  h0 h1
theorem rf_gt_mp  {m0 : R (Int)} {j : Int}  (h0 : Rf (f σ) m0 D.int) (h1 : Rf (k σ) (.ok j) D.int) : Rf (eC .gt f k σ) (m0.bind fun i => .ok (decide (j < i))) D.bl := rf_gt  h0 h1
theorem rf_ge_mp  {m0 : R (Int)} {j : Int}  (h0 : Rf (f σ) m0 D.int) (h1 : Rf (k σ) (.ok j) D.int) : Rf (eC .ge f k σ) (m0.bind fun i => .ok (decide (j ≤ i))) D.bl := rf_ge  h0 h1
theorem rf_cc_lelt_pp {i : Int} {j : Int} {z : Int} (h : Rf (f σ) (.ok i) D.int) (h2 : Rf (k σ) (.ok j) D.int) (h3 : Rf (l σ) (.ok z) D.int) : Rf (eCC .le .lt f k l σ) (.ok (decide (i ≤ j) && decide (j < z))) D.bl := rf_cc_lelt h h2 h3
theorem rf_ccm_ltle_pp {i : Int} {j : Int} {mz : R Int} (h : Rf (f σ) (.ok i) D.int) (h2 : Rf (k σ) (.ok j) D.int) (h3 : Rf (l σ) mz D.int) : Rf (eCC .lt .le f k l σ) (if decide (i < j) = true then mz.bind fun z => .ok (decide (j ≤ z)) else .ok false) D.bl :=
  Rf.bind (M := fun i => R.bind (.ok j) fun j => if decide (i < j) = true then mz.bind fun z => .ok (decide (j ≤ z)) else .ok false) h fun i => Rf.bind h2 fun j => by
    rw [show cmpD .lt (.int i) (.int j) = .ok (decide (i < j)) from rfl, R.bind_ok]
    cases decide (i < j)
    · exact rfl
    · exact h3.bind fun z => rfl
theorem rf_ixL_pp {o : Bool} {xs : List α} {i : Int}  (h0 : Rf (f σ) (.ok xs) (eLs o e)) (h1 : Rf (k σ) (.ok i) D.int) : Rf (eIx f k σ) (ofR (L2.atI xs i)) e := rf_ixL  h0 h1
theorem rf_ixL_pm {o : Bool} {xs : List α} {m1 : R (Int)}  (h0 : Rf (f σ) (.ok xs) (eLs o e)) (h1 : Rf (k σ) m1 D.int) : Rf (eIx f k σ) (m1.bind fun i => ofR (L2.atI xs i)) e := rf_ixL  h0 h1
theorem rf_ixL_mp {o : Bool} {m0 : R (List α)} {i : Int}  (h0 : Rf (f σ) m0 (eLs o e)) (h1 : Rf (k σ) (.ok i) D.int) : Rf (eIx f k σ) (m0.bind fun xs => ofR (L2.atI xs i)) e := rf_ixL  h0 h1
theorem rf_ixQ_pp  {xs : List α} {i : Int}  (h0 : Rf (f σ) (.ok xs) (eSq e)) (h1 : Rf (k σ) (.ok i) D.int) : Rf (eIx f k σ) (ofR (L2.atI xs i)) e := rf_ixQ  h0 h1
theorem rf_ixQ_mp  {m0 : R (List α)} {i : Int}  (h0 : Rf (f σ) m0 (eSq e)) (h1 : Rf (k σ) (.ok i) D.int) : Rf (eIx f k σ) (m0.bind fun xs => ofR (L2.atI xs i)) e := rf_ixQ  h0 h1
theorem rf_ixQ_mm  {m0 : R (List α)} {m1 : R (Int)}  (h0 : Rf (f σ) m0 (eSq e)) (h1 : Rf (k σ) m1 D.int) : Rf (eIx f k σ) (m0.bind fun xs => m1.bind fun i => ofR (L2.atI xs i)) e := rf_ixQ  h0 h1
theorem rf_ixS_pp  {xs : St} {i : Int}  (h0 : Rf (f σ) (.ok xs) eSt) (h1 : Rf (k σ) (.ok i) D.int) : Rf (eIx f k σ) (sixT xs i) eCh := rf_ixS  h0 h1
theorem rf_sidx_pm  {s : St} {m1 : R (St)}  (h0 : Rf (f σ) (.ok s) eSt) (h1 : Rf (k σ) m1 eSt) : Rf (eMt .strIndex f (aC k aN) σ) (m1.bind fun t => idxT s t) D.int := rf_sidx  h0 h1
theorem rf_ix2_0_p {e1 : α → D} {e2 : β → D} {p : α × β}  (h0 : Rf (f σ) (.ok p) (eT2 e1 e2)) : Rf (eIx f (eK (.int 0)) σ) (.ok (p.1)) e1 := rf_ix2_0  h0
theorem rf_ix2_0_m {e1 : α → D} {e2 : β → D} {m0 : R (α × β)}  (h0 : Rf (f σ) m0 (eT2 e1 e2)) : Rf (eIx f (eK (.int 0)) σ) (m0.bind fun p => .ok (p.1)) e1 := rf_ix2_0  h0
theorem rf_ix2_1_p {e1 : α → D} {e2 : β → D} {p : α × β}  (h0 : Rf (f σ) (.ok p) (eT2 e1 e2)) : Rf (eIx f (eK (.int 1)) σ) (.ok (p.2)) e2 := rf_ix2_1  h0
theorem rf_ix2_1_m {e1 : α → D} {e2 : β → D} {m0 : R (α × β)}  (h0 : Rf (f σ) m0 (eT2 e1 e2)) : Rf (eIx f (eK (.int 1)) σ) (m0.bind fun p => .ok (p.2)) e2 := rf_ix2_1  h0
theorem rf_ix3_0_p {e1 : α → D} {e2 : β → D} {e3 : γ → D} {p : α × β × γ}  (h0 : Rf (f σ) (.ok p) (eT3 e1 e2 e3)) : Rf (eIx f (eK (.int 0)) σ) (.ok (p.1)) e1 := rf_ix3_0  h0
theorem rf_ix3_1_p {e1 : α → D} {e2 : β → D} {e3 : γ → D} {p : α × β × γ}  (h0 : Rf (f σ) (.ok p) (eT3 e1 e2 e3)) : Rf (eIx f (eK (.int 1)) σ) (.ok (p.2.1)) e2 := rf_ix3_1  h0
theorem rf_ix3_1_m {e1 : α → D} {e2 : β → D} {e3 : γ → D} {m0 : R (α × β × γ)}  (h0 : Rf (f σ) m0 (eT3 e1 e2 e3)) : Rf (eIx f (eK (.int 1)) σ) (m0.bind fun p => .ok (p.2.1)) e2 := rf_ix3_1  h0
theorem rf_sl3_1_p {e1 : α → D} {e2 : β → D} {e3 : γ → D} {p : α × β × γ} (c1 : Cl e1) (c2 : Cl e2) (c3 : Cl e3) (h0 : Rf (f σ) (.ok p) (eT3 e1 e2 e3)) : Rf (eSl f false (eK (.int 1)) true (eK .non) σ) (.ok (p.2)) (eT2 e2 e3) := rf_sl3_1 c1 c2 c3 h0
theorem rf_cat12_mp {e1 : α → D} {e2 : β → D} {e3 : γ → D} {m0 : R (α)} {p : β × γ} (c1 : Cl e1) (c2 : Cl e2) (c3 : Cl e3) (h0 : Rf (f σ) m0 (eT1 e1)) (h1 : Rf (k σ) (.ok p) (eT2 e2 e3)) : Rf (eB .add f k σ) (m0.bind fun a => .ok ((a, p))) (eT3 e1 e2 e3) := rf_cat12 c1 c2 c3 h0 h1
theorem ri_r1_p  {n : Int}  (h0 : Rf (f σ) (.ok n) D.int) : Ri (iR1 (aC f aN) σ) (rngT n) D.int := ri_r1  h0
theorem ri_L_p {o : Bool} {xs : List α} (c : Cl e) (h0 : Rf (f σ) (.ok xs) (eLs o e)) : Ri (iSeq' f σ) (.ok (xs)) e := ri_L c h0
theorem ri_L_m {o : Bool} {m0 : R (List α)} (c : Cl e) (h0 : Rf (f σ) m0 (eLs o e)) : Ri (iSeq' f σ) (m0.bind fun xs => .ok (xs)) e := ri_L c h0
theorem ri_Q_p  {xs : List α} (c : Cl e) (h0 : Rf (f σ) (.ok xs) (eSq e)) : Ri (iSeq' f σ) (.ok (xs)) e := ri_Q c h0
theorem ri_Q_m  {m0 : R (List α)} (c : Cl e) (h0 : Rf (f σ) m0 (eSq e)) : Ri (iSeq' f σ) (m0.bind fun xs => .ok (xs)) e := ri_Q c h0
theorem ri_S_p  {xs : St}  (h0 : Rf (f σ) (.ok xs) eSt) : Ri (iSeq' f σ) (.ok (xs)) eCh := ri_S  h0
theorem ri_S_m  {m0 : R (St)}  (h0 : Rf (f σ) m0 eSt) : Ri (iSeq' f σ) (m0.bind fun xs => .ok (xs)) eCh := ri_S  h0
theorem ri_enS_p  {xs : St}  (h0 : Rf (f σ) (.ok xs) eSt) : Ri (iEn (aC f aN) σ) (.ok (enT 0 xs)) (eT2 D.int eCh) := ri_enS  h0
theorem rf_wid_p {r : R D} {a : α} (w : α → β) (h : Rf r (.ok a) e) (hw : Wd e e' w) : Rf r (.ok (w a)) e' := Rf.wid w h hw
theorem rf_wid_m {r : R D} {m : R α} (w : α → β) (h : Rf r m e) (hw : Wd e e' w) : Rf r (m.bind fun u => .ok (w u)) e' := Rf.wid w h hw
theorem rf_nar_p {r : R D} {a : α} (w : α → R β) (h : Rf r (.ok a) e) (hw : Nw e e' w) : Rf r (w a) e' := Rf.nar w h hw
theorem rf_and_p {i : Bool} {n : R Bool} (h : Rf (f σ) (.ok i) D.bl) (h2 : Rf (k σ) n D.bl) : Rf (eAnd f k σ) (if i = true then n else .ok false) D.bl := rf_and h h2
theorem rf_and_m {m n : R Bool} (h : Rf (f σ) m D.bl) (h2 : Rf (k σ) n D.bl) : Rf (eAnd f k σ) (m.bind fun i => if i = true then n else .ok false) D.bl := rf_and h h2
theorem rf_or_p {i : Bool} {n : R Bool} (h : Rf (f σ) (.ok i) D.bl) (h2 : Rf (k σ) n D.bl) : Rf (eOr f k σ) (if i = true then .ok true else n) D.bl := rf_or h h2
theorem rf_or_m {m n : R Bool} (h : Rf (f σ) m D.bl) (h2 : Rf (k σ) n D.bl) : Rf (eOr f k σ) (m.bind fun i => if i = true then .ok true else n) D.bl := rf_or h h2
theorem rf_andP_p {i b : Bool} (h : Rf (f σ) (.ok i) D.bl) (h2 : Rf (k σ) (.ok b) D.bl) : Rf (eAnd f k σ) (.ok (i && b)) D.bl := rf_andP h h2
theorem rf_orP_p {i b : Bool} (h : Rf (f σ) (.ok i) D.bl) (h2 : Rf (k σ) (.ok b) D.bl) : Rf (eOr f k σ) (.ok (i || b)) D.bl := rf_orP h h2
theorem rf_if_m {c : Sl → R D} {b : R Bool} {m n : R α} (h : Rf (c σ) b D.bl) (h1 : Rf (f σ) m e) (h2 : Rf (k σ) n e) : Rf (eIf c f k σ) (b.bind fun i => if i = true then m else n) e := rf_if h h1 h2
theorem rf_cm_p {vs : List Nat} {p : Pat} {fi : Sl → R (List D)} {fe : Sl → R D} {xs : List α} {F : α → R β} (hi : Ri (fi σ) (.ok xs) e) (hb : ∀ x, ∃ σ1, bindP (wipeL σ vs) p (e x) = .ok σ1 ∧ Rf (fe σ1) (F x) e') : Rf (eComp vs p fi eT fe σ) (cmT xs F) (eLs true e') := rf_cm hi hb
theorem rf_cm_m {vs : List Nat} {p : Pat} {fi : Sl → R (List D)} {fe : Sl → R D} {m : R (List α)} {F : α → R β} (hi : Ri (fi σ) m e) (hb : ∀ x, ∃ σ1, bindP (wipeL σ vs) p (e x) = .ok σ1 ∧ Rf (fe σ1) (F x) e') : Rf (eComp vs p fi eT fe σ) (m.bind fun xs => cmT xs F) (eLs true e') := rf_cm hi hb
theorem rl_consP {a : α} {as : List α} (h : Rf (f σ) (.ok a) e) (h2 : Rl (k σ) (.ok as) e) : Rl (aC f k σ) (.ok (a :: as)) e := rl_cons h h2
theorem rf_slL_p {o : Bool} {nb nc : Bool} {xs : List α} {lo hi : Option Int} (c : Cl e) (h : Rf (f σ) (.ok xs) (eLs o e)) (h1 : (k σ).bind (fun l' => partD (if nb = true then none else some l')) = .ok lo) (h2 : (l σ).bind (fun l' => partD (if nc = true then none else some l')) = .ok hi) : Rf (eSl f nb k nc l σ) (.ok (cutL xs lo hi)) (eLs true e) := rf_slL (lo := .ok lo) (hi := .ok hi) c h (fun i q => h1.trans q) (fun i q => h2.trans q) ne_no ne_no
theorem rf_slS_p {nb nc : Bool} {xs : St} {lo hi : Option Int} (h : Rf (f σ) (.ok xs) eSt) (h1 : (k σ).bind (fun l' => partD (if nb = true then none else some l')) = .ok lo) (h2 : (l σ).bind (fun l' => partD (if nc = true then none else some l')) = .ok hi) : Rf (eSl f nb k nc l σ) (szT xs.length (cutL xs lo hi)) eSt := rf_slS (lo := .ok lo) (hi := .ok hi) h (fun i q => h1.trans q) (fun i q => h2.trans q) ne_no ne_no
theorem sl_noP {k : Sl → R D} (hk : k σ = .ok .non) : (k σ).bind (fun l' => partD (if true = true then none else some l')) = .ok none := by rw [hk]; rfl
theorem sl_yesP {i : Int} (hk : Rf (k σ) (.ok i) D.int) : (k σ).bind (fun l' => partD (if false = true then none else some l')) = .ok (some i) := by
  rw [show k σ = .ok (.int i) from hk]; rfl
end
end DI
namespace DI
open PySem
section
variable {α β γ S S' L : Type} {σ : Sl} {f k : Sl → R D} {e : α → D} {e' : β → D} {I : S → Sl → Prop} {J : L → Sl → Prop} {E : Sl → Prop} {K F G : SF}
theorem g_raise1 {c : Nat} {m : R β} (cl : Cl e') (nf : Nf e') (h : Rf (f σ) m e') (hE : E σ) : Gs I J E e ((sRaise c (aC f aN) σ).andThen K) (bnd m fun a => (O.er c [e' a] : O S L α)) := by
  have q : sRaise c (aC f aN) σ = rS (f σ) σ fun x => if (cleanL [x] && noFrzL [x]) = true then .er c [x] σ else .bad := by
    unfold sRaise
    simp only [u_aC, u_aN, R.bind_ok, tupOf_tup]
    cases f σ <;> rfl
  rw [q]
  refine g_val h hE fun a => ?_
  rw [if_pos (by simp [cl a, nf a])]
  exact ⟨σ, rfl, hE⟩
theorem g_raise0 {c : Nat} (hE : E σ) : Gs I J E e ((sRaise0 c σ).andThen K) (O.er c [] : O S L α) := ⟨σ, rfl, hE⟩
def tryT (m : O S L α) (k y : Nat → Bool) (h : Nat → List D → O S L α) : O S L α :=
  match m with
  | .er c fs => if k c = true then (if y c = true then (match h c fs with
    | .er _ _ => .bad
    | r => r) else .bad) else .er c fs
  | r => r
theorem g_try {E' : Sl → Prop} {k y : Nat → Bool} {i : Nat} {m : O S L α} {h : Nat → List D → O S L α} (xe : Xf e) (hb : Gs I J E' e (F σ) m) (hE : ∀ σ, E' σ → E σ) (hI : ∀ s σ, I s σ → I s (clearX (σ.set i none))) (hJ : ∀ s σ, J s σ → J s (clearX (σ.set i none)))
    (hh : ∀ c fs σ, E' σ → y c = true → Gs I J (fun _ => True) e (G (σ.set i (some (.obj c fs)))) (h c fs)) : Gs I J E e (sTryA i k y F G σ) (tryT m k y h) := by
  unfold sTryA tryT
  cases m with
  | nx s => obtain ⟨σ', q, i⟩ := hb; rw [q]; exact ⟨σ', rfl, i⟩
  | rt a => rw [show F σ = .rt (e a) from hb]; exact rfl
  | bk l => obtain ⟨σ', q, i⟩ := hb; rw [q]; exact ⟨σ', rfl, i⟩
  | ct l => obtain ⟨σ', q, i⟩ := hb; rw [q]; exact ⟨σ', rfl, i⟩
  | bad => exact True.intro
  | er c fs =>
    obtain ⟨σ', q, ie⟩ := hb
    rw [q]
    simp only
    by_cases hk : k c = true
    · rw [if_pos hk, if_pos hk]
      by_cases hy : y c = true
      · rw [if_pos hy, if_pos hy]
        have g := hh c fs σ' ie hy
        cases hm : h c fs with
        | nx s => rw [hm] at g; obtain ⟨σ2, q2, i2⟩ := g; rw [q2]; exact ⟨_, rfl, hI s σ2 i2⟩
        | rt a => rw [hm] at g; rw [show G _ = .rt (e a) from g]; exact if_pos (xe a)
        | bk l => rw [hm] at g; obtain ⟨σ2, q2, i2⟩ := g; rw [q2]; exact ⟨_, rfl, hJ l σ2 i2⟩
        | ct l => rw [hm] at g; obtain ⟨σ2, q2, i2⟩ := g; rw [q2]; exact ⟨_, rfl, hJ l σ2 i2⟩
        | er c' fs' => exact True.intro
        | bad => exact True.intro
      · rw [if_neg hy, if_neg hy]; exact True.intro
    · rw [if_neg hk, if_neg hk]; exact ⟨σ', rfl, hE σ' ie⟩
def isxT (k : Nat → Bool) (c : Nat) : R Bool := if c < 20 then .ok (k c) else .bad
theorem rf_xi {k : Nat → Bool} {i c : Nat} {fs : List D} (h : getS σ i = .ok (.obj c fs)) : Rf (eXi k (eV i) σ) (isxT k c) D.bl := by
  unfold eXi
  rw [u_eV, h]
  show Rf (if c < 20 then .ok (.bl (k c)) else .bad) (isxT k c) D.bl
  unfold isxT
  by_cases q : c < 20
  · rw [if_pos q, if_pos q]; exact rfl
  · rw [if_neg q, if_neg q]; exact True.intro
noncomputable def lrT (n : Int) : R (List Int) := if small62 n = true ∧ n.toNat ≤ sizeLine then .ok (rg 0 n.toNat) else .bad
theorem rf_lr {m : R Int} (h : Rf (f σ) m D.int) : Rf (eLR f σ) (m.bind lrT) (eLs true D.int) := h.bind fun n => .guard id (rf_ok (by rw [rg_map]; rfl))
theorem rf_lr_p {n : Int} (h : Rf (f σ) (.ok n) D.int) : Rf (eLR f σ) (lrT n) (eLs true D.int) := rf_lr h
end
end DI
namespace DI
open PySem
section
variable {α β γ S S' L L' : Type}
@[simp] theorem bnd_ok (a : β) (M : β → O S L α) : bnd (.ok a) M = M a := rfl
@[simp] theorem bnd_err (c : Nat) (fs : List D) (M : β → O S L α) : bnd (.err c fs) M = .er c fs := rfl
@[simp] theorem bnd_bad (M : β → O S L α) : bnd .bad M = .bad := rfl
@[simp] theorem thn_nx' (s : S) (M : S → O S' L α) : (O.nx s).thn M = M s := rfl
@[simp] theorem thn_rt' (a : α) (M : S → O S' L α) : (O.rt a : O S L α).thn M = .rt a := rfl
@[simp] theorem thn_bk' (a : L) (M : S → O S' L α) : (O.bk a : O S L α).thn M = .bk a := rfl
@[simp] theorem thn_ct' (a : L) (M : S → O S' L α) : (O.ct a : O S L α).thn M = .ct a := rfl
@[simp] theorem thn_er' (c : Nat) (fs : List D) (M : S → O S' L α) : (O.er c fs : O S L α).thn M = .er c fs := rfl
@[simp] theorem thn_bad' (M : S → O S' L α) : (O.bad : O S L α).thn M = .bad := rfl
@[simp] theorem runO_rt (a : α) : runO (O.rt a : O S L α) = .ok a := rfl
@[simp] theorem runO_er (c : Nat) (fs : List D) : runO (O.er c fs : O S L α) = .err c fs := rfl
@[simp] theorem runO_bad : runO (O.bad : O S L α) = .bad := rfl
@[simp] theorem forT_nil (F : β → S → O S S α) (s : S) : (forT [] F s : O S L α) = .nx s := rfl
theorem forT_cons (x : β) (xs : List β) (F : β → S → O S S α) (s : S) : (forT (x :: xs) F s : O S L α) = match F x s with
    | .nx s' => forT xs F s'
    | .ct s' => forT xs F s'
    | .bk s' => .nx s'
    | .rt a => .rt a
    | .er c fs => .er c fs
    | .bad => .bad := rfl
theorem forT_go {x : β} {xs : List β} {F : β → S → O S S α} {s s' : S} (h : F x s = .nx s' ∨ F x s = .ct s') : (forT (x :: xs) F s : O S L α) = forT xs F s' := by
  rw [forT_cons]
  rcases h with h | h <;> rw [h]
theorem forT_inv {F : β → S → O S S α} (P : Nat → S → Prop) : ∀ (xs : List β) (k : Nat) (s : S), P k s → (∀ i x s, xs[i]? = some x → P (k + i) s → ∃ s', (F x s = .nx s' ∨ F x s = .ct s') ∧ P (k + i + 1) s') → ∃ s', (forT xs F s : O S L α) = .nx s' ∧ P (k + xs.length) s'
  | [], k, s, h0, _ => ⟨s, rfl, h0⟩
  | x :: xs, k, s, h0, h => by
    obtain ⟨s1, e1, i1⟩ := h 0 x s rfl h0
    obtain ⟨s2, e2, i2⟩ := forT_inv P xs (k + 1) s1 i1 fun i y s hy hi => by
      have := h (i + 1) y s (by simpa using hy) (by rw [show k + (i + 1) = k + 1 + i by omega]; exact hi)
      rw [show k + (i + 1) + 1 = k + 1 + i + 1 by omega] at this
      exact this
    exact ⟨s2, by rw [forT_go e1]; exact e2, by rw [List.length_cons, show k + (xs.length + 1) = k + 1 + xs.length by omega]; exact i2⟩
theorem forT_same {F : β → S → O S S α} : ∀ (xs : List β) (s : S), (∀ x ∈ xs, F x s = .nx s ∨ F x s = .ct s) → (forT xs F s : O S L α) = .nx s
  | [], s, _ => rfl
  | x :: xs, s, h => by rw [forT_go (h x List.mem_cons_self), forT_same xs s fun y hy => h y (List.mem_cons_of_mem _ hy)]
theorem lpT_up {C : S → R Bool} {F : S → O S S α} : ∀ (n : Nat) (s : S), (lpT C F n s : O S L α) ≠ .bad → (lpT C F (n + 1) s : O S L α) = lpT C F n s
  | 0, s, h => absurd rfl h
  | n + 1, s, h => by
    have go : ∀ s', (lpT C F n s' : O S L α) ≠ .bad → (lpT C F (n + 1) s' : O S L α) = lpT C F n s' := fun s' => lpT_up n s'
    rw [lpT] at h ⊢
    conv => rhs; rw [lpT]
    cases hc : C s with
    | err _ _ => rfl
    | bad => rfl
    | ok b =>
      rw [hc] at h
      cases b with
      | false => rfl
      | true =>
        simp only at h ⊢
        cases hf : F s with
        | nx s' => rw [hf] at h; exact go s' h
        | ct s' => rw [hf] at h; exact go s' h
        | _ => rfl
theorem lpT_le {C : S → R Bool} {F : S → O S S α} {n m : Nat} {s : S} (h : (lpT C F n s : O S L α) ≠ .bad) (hm : n ≤ m) : (lpT C F m s : O S L α) = lpT C F n s := by
  induction hm with
  | refl => rfl
  | step hm ih => rw [lpT_up _ s (by rw [ih]; exact h), ih]
theorem whlT_eq {C : S → R Bool} {F : S → O S S α} {n : Nat} {s : S} (h : (lpT C F n s : O S L α) ≠ .bad) : (whlT C F s : O S L α) = lpT C F n s := by
  have hex : ∃ n, (lpT C F n s : O S L α) ≠ .bad := ⟨n, h⟩
  unfold whlT
  rw [dif_pos hex]
  have hc := Classical.choose_spec hex
  rcases Nat.le_total n (Classical.choose hex) with q | q
  · rw [lpT_le h q]
  · rw [← lpT_le hc q]
theorem whlT_bad {C : S → R Bool} {F : S → O S S α} {s : S} (h : ∀ n, (lpT C F n s : O S L α) = .bad) : (whlT C F s : O S L α) = .bad := by
  unfold whlT
  rw [dif_neg]
  rintro ⟨n, q⟩
  exact q (h n)
theorem whlT_go {C : S → R Bool} {F : S → O S S α} {s s' : S} (hc : C s = .ok true) (hf : F s = .nx s' ∨ F s = .ct s') : (whlT C F s : O S L α) = whlT C F s' := by
  have e : ∀ n, (lpT C F (n + 1) s : O S L α) = lpT C F n s' := fun n => by
    rw [lpT, hc]
    rcases hf with hf | hf <;> simp [hf]
  by_cases h : ∃ n, (lpT C F n s' : O S L α) ≠ .bad
  · obtain ⟨n, h⟩ := h
    rw [whlT_eq h, whlT_eq (n := n + 1) (by rw [e]; exact h), e]
  · have h' : ∀ n, (lpT C F n s' : O S L α) = .bad := fun n => Classical.byContradiction fun q => h ⟨n, q⟩
    rw [whlT_bad h', whlT_bad]
    intro n
    cases n with
    | zero => rfl
    | succ n => rw [e, h']
theorem whlT_end {C : S → R Bool} {F : S → O S S α} {s : S} (hc : C s = .ok false) : (whlT C F s : O S L α) = .nx s := by
  have e : (lpT C F 1 s : O S L α) = .nx s := by rw [lpT, hc]
  rw [whlT_eq (n := 1) (by rw [e]; intro q; cases q), e]
theorem whlT_rt {C : S → R Bool} {F : S → O S S α} {s : S} {a : α} (hc : C s = .ok true) (hf : F s = .rt a) : (whlT C F s : O S L α) = .rt a := by
  have e : (lpT C F 1 s : O S L α) = .rt a := by rw [lpT, hc]; simp [hf]
  rw [whlT_eq (n := 1) (by rw [e]; intro q; cases q), e]
theorem whlT_bk {C : S → R Bool} {F : S → O S S α} {s s' : S} (hc : C s = .ok true) (hf : F s = .bk s') : (whlT C F s : O S L α) = .nx s' := by
  have e : (lpT C F 1 s : O S L α) = .nx s' := by rw [lpT, hc]; simp [hf]
  rw [whlT_eq (n := 1) (by rw [e]; intro q; cases q), e]
theorem whlT_er {C : S → R Bool} {F : S → O S S α} {s : S} {c : Nat} {fs : List D} (hc : C s = .ok true) (hf : F s = .er c fs) : (whlT C F s : O S L α) = .er c fs := by
  have e : (lpT C F 1 s : O S L α) = .er c fs := by rw [lpT, hc]; simp [hf]
  rw [whlT_eq (n := 1) (by rw [e]; intro q; cases q), e]
theorem whlT_rule {C : S → R Bool} {F : S → O S S α} (I : S → Prop) (μ : S → Nat) (Q : O S L α → Prop) (h : ∀ s, I s → (C s = .ok false ∧ Q (.nx s)) ∨ (C s = .ok true ∧ ((∃ s', (F s = .nx s' ∨ F s = .ct s') ∧ I s' ∧ μ s' < μ s) ∨ (∃ s', F s = .bk s' ∧ Q (.nx s')) ∨ (∃ a, F s = .rt a ∧ Q (.rt a)) ∨ ∃ c fs, F s = .er c fs ∧ Q (.er c fs)))) : ∀ s, I s → Q (whlT C F s) := by
  intro s
  generalize hn : μ s = n
  induction n using Nat.strongRecOn generalizing s with
  | ind n ih =>
    intro hi
    rcases h s hi with ⟨hc, q⟩ | ⟨hc, ⟨s', hf, hi', hm⟩ | ⟨s', hf, q⟩ | ⟨a, hf, q⟩ | ⟨c, fs, hf, q⟩⟩
    · rw [whlT_end hc]; exact q
    · rw [whlT_go hc hf]; exact ih (μ s') (by omega) s' rfl hi'
    · rw [whlT_bk hc hf]; exact q
    · rw [whlT_rt hc hf]; exact q
    · rw [whlT_er hc hf]; exact q
theorem szT_ok {n : Nat} (a : α) (h : n ≤ 1000000) : szT n a = .ok a := if_pos (le_line h)
theorem lenT_ok {s : St} (h : s.length ≤ 1000000) : lenT s = .ok (s.length : Int) := szT_ok _ h
theorem apT_ok {xs : List α} (a : α) (h : xs.length < 1000000) : apT xs a = .ok (xs ++ [a]) := if_pos (lt_line h)
theorem puT_ok [DecidableEq α] {kvs : List (α × β)} (k : α) (v : β) (h : kvs.length < 1000000) : puT kvs k v = .ok (putT kvs k v) := if_pos (lt_line h)
theorem modT_ok (i : Int) {j : Int} (h : 0 < j) : modT i j = .ok (i % j) := if_pos h
theorem fdivT_ok (i : Int) {j : Int} (h : 0 < j) (h2 : j < 18446744073709551616) : fdivT i j = .ok (i / j) := if_pos ⟨h, log2_small h h2⟩
theorem rngT_nat {n : Nat} (h : n < 1000000) : rngT (n : Int) = .ok (rg 0 n) := by
  unfold rngT
  rw [small62_of (by omega) (by omega), if_pos rfl, Int.toNat_natCast]
theorem rg_len (lo : Int) (n : Nat) : (rg lo n).length = n := by simp [rg]
theorem rg_get (n i : Nat) (lo : Int) : (rg lo n)[i]? = if i < n then some (lo + (i : Int)) else none := by
  unfold rg
  rw [List.getElem?_map]
  by_cases h : i < n
  · rw [List.getElem?_range h, if_pos h]; rfl
  · rw [List.getElem?_eq_none (by simp; omega), if_neg h]; rfl
theorem mem_rg {x : Int} {n : Nat} : x ∈ rg 0 n ↔ 0 ≤ x ∧ x < n := by
  unfold rg
  rw [List.mem_map]
  constructor
  · rintro ⟨k, hk, rfl⟩
    have := List.mem_range.mp hk
    omega
  · intro h
    exact ⟨x.toNat, List.mem_range.mpr (by omega), by omega⟩
theorem mem_rg' {x lo : Int} {n : Nat} : x ∈ rg lo n ↔ lo ≤ x ∧ x < lo + n := by
  unfold rg
  rw [List.mem_map]
  constructor
  · rintro ⟨k, hk, rfl⟩
    have := List.mem_range.mp hk
    omega
  · intro h
    exact ⟨(x - lo).toNat, List.mem_range.mpr (by omega), by omega⟩
theorem mpT_ok {F : α → R β} {g : α → β} : ∀ (xs : List α), (∀ x ∈ xs, F x = .ok (g x)) → mpT F xs = .ok (xs.map g)
  | [], _ => rfl
  | x :: xs, h => by
    rw [mpT, h x List.mem_cons_self]
    show (mpT F xs).bind _ = _
    rw [mpT_ok xs fun y hy => h y (List.mem_cons_of_mem _ hy)]
    rfl
theorem cmT_ok {F : α → R β} (g : α → β) {xs : List α} (h : ∀ x ∈ xs, F x = .ok (g x)) (hl : xs.length ≤ 1000000) : cmT xs F = .ok (xs.map g) := by
  unfold cmT
  rw [mpT_ok xs h, R.bind_ok, if_pos (by rw [List.length_map]; exact le_line hl)]
theorem at_ok {xs : List α} {i : Int} (h0 : 0 ≤ i) (h1 : i < xs.length) : ofR (L2.atI xs i) = .ok (xs[i.toNat]'(by omega)) := by
  obtain ⟨x, e, _, q⟩ := atI_ok h0 h1
  rw [e]
  rw [List.getElem?_eq_getElem (by omega)] at q
  cases q
  rfl
theorem at_get {xs : List α} {i : Int} {x : α} (h0 : 0 ≤ i) (h : xs[i.toNat]? = some x) : ofR (L2.atI xs i) = .ok x := by
  have hl : i.toNat < xs.length := (List.getElem?_eq_some_iff.mp h).1
  rw [at_ok h0 (by omega)]
  rw [List.getElem?_eq_getElem hl] at h
  cases h
  rfl
theorem at_nat {xs : List α} {i : Nat} {x : α} (h : xs[i]? = some x) : ofR (L2.atI xs (i : Int)) = .ok x := at_get (by omega) (by simpa using h)
theorem at_ex {xs : List α} {i : Int} (h0 : 0 ≤ i) (h1 : i < xs.length) : ∃ x, ofR (L2.atI xs i) = .ok x ∧ x ∈ xs ∧ xs[i.toNat]? = some x :=
  ⟨_, at_ok h0 h1, List.getElem_mem _, List.getElem?_eq_getElem (by omega)⟩
@[simp] theorem at_2_0 (x y : α) : ofR (L2.atI [x, y] 0) = .ok x := rfl
@[simp] theorem at_2_1 (x y : α) : ofR (L2.atI [x, y] 1) = .ok y := rfl
theorem sixT_ok {s : St} {i : Int} (h0 : 0 ≤ i) (h1 : i < s.length) (hl : s.length ≤ 1000000) : sixT s i = .ok (s[i.toNat]'(by omega)) := by
  unfold sixT
  rw [if_pos (le_line hl)]
  exact at_ok h0 h1
theorem hasT_iff [DecidableEq α] {kvs : List (α × β)} {k : α} : hasT kvs k = true ↔ k ∈ kvs.map (·.1) := by
  unfold hasT
  simp [List.any_eq_true]
theorem putT_new [DecidableEq α] {kvs : List (α × β)} {k : α} {v : β} (h : k ∉ kvs.map (·.1)) : putT kvs k v = kvs ++ [(k, v)] := by
  unfold putT
  rw [if_neg (by rw [hasT_iff]; exact h)]
def Wp (m : O S L α) (N : S → Prop) (C B : L → Prop) (Q : α → Prop) : Prop :=
  match m with
  | .nx s => N s
  | .ct l => C l
  | .bk l => B l
  | .rt a => Q a
  | _ => False
def Nope {S : Type} : S → Prop := fun _ => False
theorem wp_run {m : O S L α} {Q : α → Prop} (h : Wp m Nope Nope Nope Q) : ∃ a, runO m = .ok a ∧ Q a := by
  cases m with
  | rt a => exact ⟨a, rfl, h⟩
  | _ => exact h.elim
theorem wp_eq {m : O S L α} {a : α} (h : Wp m Nope Nope Nope fun b => b = a) : runO m = .ok a := by
  obtain ⟨b, e, rfl⟩ := wp_run h
  exact e
theorem wp_thn {m : O S L α} {M : S → O S' L α} {N : S' → Prop} {C B : L → Prop} {Q : α → Prop} (N' : S → Prop) (h : Wp m N' C B Q) (h2 : ∀ s, N' s → Wp (M s) N C B Q) : Wp (m.thn M) N C B Q := by
  cases m with
  | nx s => exact h2 s h
  | ct s => exact h
  | bk s => exact h
  | rt s => exact h
  | er _ _ => exact h.elim
  | bad => exact h.elim
theorem wp_forK {F : β → S → O S S α} {Q : α → Prop} {C B : L → Prop} {N : S → Prop} (P : Nat → S → Prop) : ∀ (xs : List β) (k : Nat) (s : S), P k s → (∀ i x s, xs[i]? = some x → P (k + i) s → Wp (F x s) (P (k + i + 1)) (P (k + i + 1)) N Q) → (∀ s, P (k + xs.length) s → N s) → Wp (forT xs F s : O S L α) N C B Q
  | [], k, s, h0, _, hn => hn s h0
  | x :: xs, k, s, h0, h, hn => by
    have q := h 0 x s rfl h0
    have go : ∀ s', P (k + 1) s' → Wp (forT xs F s' : O S L α) N C B Q := fun s' p => wp_forK P xs (k + 1) s' p (fun i y s hy hi => by
      have := h (i + 1) y s (by simpa using hy) (by rw [show k + (i + 1) = k + 1 + i by omega]; exact hi)
      rw [show k + (i + 1) + 1 = k + 1 + i + 1 by omega] at this
      exact this) (fun s p => hn s (by rw [List.length_cons, show k + (xs.length + 1) = k + 1 + xs.length by omega]; exact p))
    rw [forT_cons]
    cases e : F x s with
    | nx t => rw [e] at q; exact go t q
    | ct t => rw [e] at q; exact go t q
    | bk t => rw [e] at q; exact q
    | rt a => rw [e] at q; exact q
    | er _ _ => rw [e] at q; exact q.elim
    | bad => rw [e] at q; exact q.elim
theorem wp_for {F : β → S → O S S α} {M : S → O S' L α} {N : S' → Prop} {C B : L → Prop} {Q : α → Prop} {xs : List β} {s : S} (P : Nat → S → Prop) (h0 : P 0 s) (h : ∀ i x s, xs[i]? = some x → P i s → Wp (F x s) (P (i + 1)) (P (i + 1)) (P xs.length) Q) (h2 : ∀ s, P xs.length s → Wp (M s) N C B Q) : Wp (O.thn (forT xs F s : O S L α) M) N C B Q :=
  wp_thn (P xs.length) (wp_forK P xs 0 s h0 (fun i x s hx hi => by rw [Nat.zero_add] at hi ⊢; exact h i x s hx hi) (fun s p => by rw [Nat.zero_add] at p; exact p)) h2
theorem wp_whl {F : S → O S S α} {Cd : S → R Bool} {M : S → O S' L α} {N : S' → Prop} {C B : L → Prop} {Q : α → Prop} {s : S} (I : S → Prop) (μ : S → Nat) (Z : S → Prop) (h0 : I s)
    (h : ∀ s, I s → (Cd s = .ok false ∧ Z s) ∨ (Cd s = .ok true ∧ Wp (F s) (fun s' => I s' ∧ μ s' < μ s) (fun s' => I s' ∧ μ s' < μ s) Z Q)) (h2 : ∀ s, Z s → Wp (M s) N C B Q) : Wp (O.thn (whlT Cd F s : O S L α) M) N C B Q := by
  refine wp_thn Z ?_ h2
  refine whlT_rule I μ (fun m => Wp m Z C B Q) (fun s hi => ?_) s h0
  rcases h s hi with ⟨hc, z⟩ | ⟨hc, ev⟩
  · exact .inl ⟨hc, z⟩
  · refine .inr ⟨hc, ?_⟩
    cases e : F s with
    | nx t => rw [e] at ev; exact .inl ⟨t, .inl rfl, ev.1, ev.2⟩
    | ct t => rw [e] at ev; exact .inl ⟨t, .inr rfl, ev.1, ev.2⟩
    | bk t => rw [e] at ev; exact .inr (.inl ⟨t, rfl, ev⟩)
    | rt a => rw [e] at ev; exact .inr (.inr (.inl ⟨a, rfl, ev⟩))
    | er _ _ => rw [e] at ev; exact ev.elim
    | bad => rw [e] at ev; exact ev.elim
end
end DI
namespace DI
open PySem
instance (priority := 2000) beqTurn : BEq Turn := instBEqOfDecidableEq
instance (priority := 2000) lawTurn : LawfulBEq Turn := inferInstanceAs (@LawfulBEq Turn instBEqOfDecidableEq)
end DI
namespace DI
open PySem
section
variable {α β : Type} {σ : Sl} {f k : Sl → R D}
theorem rf_dN1 {e : α → D} {κ : α → NestedKey} {e' : β → D} {u : Nat} (h : KyE e κ u) (l : KTp κ) (hn : u ≤ 8) (cl : Cl e') {m : R α} {d : R β} (h1 : Rf (f σ) m e) (h2 : Rf (k σ) d e') : Rf (eDN1 f k σ) (m.bind fun a => d.bind fun b => .ok [(a, b)]) (eDc true κ e') :=
  h1.bind fun a => h2.bind fun b => by
    show dispN (e a) (e' b) = _
    unfold dispN
    rw [keyS_key (h.key a)]
    show (if (isTupKey (κ a) = true ∧ (κ a).depth ≤ 8) ∧ clean (e' b) = true then R.ok (D.dct true [(κ a, e' b)]) else R.bad) = _
    rw [if_pos ⟨⟨l a, Nat.le_trans (h.dep a) hn⟩, cl b⟩]
    rfl
end
end DI
namespace DI
open PySem
section
variable {α : Type} {e : α → D} {σ : Sl} {f k : Sl → R D}
theorem rf_li1 {β : Type} {eb : β → D} {M : α → R β} {m : R α} (h : Rf (f σ) m e) (h2 : ∀ a, Rf (liD [e a]) (M a) eb) : Rf (eLi (aC f aN) σ) (m.bind M) eb := by
  have q : eLi (aC f aN) σ = (f σ).bind fun x => liD [x] := by
    unfold eLi aC aN
    cases f σ <;> rfl
  rw [q]
  exact h.bind h2
theorem liD_L {o : Bool} (xs : List D) : liD [.lst o xs] = if cleanL xs = true then .ok (.lst true xs) else .bad := by rw [liD]
theorem rf_liL {o : Bool} {m : R (List α)} (c : Cl e) (h : Rf (f σ) m (eLs o e)) : Rf (eLi (aC f aN) σ) (m.bind fun u => .ok u) (eLs true e) := rf_li1 h fun xs => rf_ok (by unfold eLs; rw [liD_L, if_pos (cl_map c xs)])
theorem rf_liL_m {o : Bool} {m : R (List α)} (c : Cl e) (h : Rf (f σ) m (eLs o e)) : Rf (eLi (aC f aN) σ) (m.bind fun u => .ok u) (eLs true e) := rf_liL c h
end
end DI
namespace DI
open PySem
instance (priority := 2000) beqSt : BEq St := instBEqOfDecidableEq
instance (priority := 2000) lawSt : LawfulBEq St := inferInstanceAs (@LawfulBEq St instBEqOfDecidableEq)
end DI
namespace DI
open PySem
end DI
namespace DI
open PySem
instance (priority := 2000) beqPr {α β : Type} [DecidableEq α] [DecidableEq β] : BEq (α × β) := instBEqOfDecidableEq
instance (priority := 2000) lawPr {α β : Type} [DecidableEq α] [DecidableEq β] : LawfulBEq (α × β) := inferInstanceAs (@LawfulBEq (α × β) instBEqOfDecidableEq)
end DI
namespace DI
open PySem
section
variable {α β γ : Type} {σ : Sl} {f k : Sl → R D} {e : α → D}
def ltS (a b : St) : Bool := decide (a.map Char.toNat < b.map Char.toNat)
def ltIS (a b : Int × St) : Bool := if a.1 = b.1 then ltS a.2 b.2 else decide (a.1 < b.1)
theorem ltS_irr (a : St) : ltS a a = false := decide_eq_false (List.lt_irrefl _)
theorem ord_is (neg : Bool) (a b : Int × St) : ordD neg (eT2 D.int eSt a) (eT2 D.int eSt b) = .ok (if neg = true then !ltIS b a else ltIS a b) := by
  have lt : ∀ a b : Int × St, PySem.W.dataLt (pT2 pInt pSt a) (pT2 pInt pSt b) = ltIS a b := by
    intro a b
    unfold pT2 ltIS
    rw [PySem.W.dataLt_pair (by simp [pInt, PySem.W.alike]) (by simp [pSt, PySem.W.alike])]
    unfold pInt pSt
    rw [PySem.W.dataLt_int, PySem.W.dataLt_str, sD_cps, sD_cps]
    have e1 : PyData.eqv (.int a.1) (.int b.1) = decide (a.1 = b.1) := pq_int a.1 b.1
    have e2 : PyData.eqv (.str (sD a.2)) (.str (sD b.2)) = decide (a.2 = b.2) := pq_st a.2 b.2
    rw [e1, e2]
    by_cases h : a.1 = b.1
    · rw [if_pos h, if_pos (decide_eq_true h)]
      by_cases h2 : a.2 = b.2
      · rw [if_pos (decide_eq_true h2), h2, ltS_irr]
      · rw [if_neg (by rw [decide_eq_false h2]; decide)]; rfl
    · rw [if_neg h, if_neg (by rw [decide_eq_false h]; decide)]
  have py : ∀ a : Int × St, py (eT2 D.int eSt a) = some (pT2 pInt pSt a) := fun a => (py_t2 py_int py_st).py a
  have sh : ∀ a : Int × St, SeqAt.shaped (pT2 pInt pSt a) = true := fun a => by
    unfold SeqAt.shaped
    rw [Bool.and_eq_true, decide_eq_true_iff]
    exact ⟨(py_t2 py_int py_st).lay a, Nat.le_trans ((py_t2 py_int py_st).dep a) (by decide)⟩
  unfold ordD
  rw [py, py]
  simp only [sh]
  have al : PySem.W.alike (pT2 pInt pSt a) (pT2 pInt pSt b) = true := by simp [pT2, pInt, pSt, PySem.W.alike, PySem.W.alikeAll]
  rw [al, if_pos (by rfl), lt, lt]
theorem rf_leO {m n : R (Int × St)} (h : Rf (f σ) m (eT2 D.int eSt)) (h2 : Rf (k σ) n (eT2 D.int eSt)) : Rf (eLo true f k σ) (m.bind fun a => n.bind fun b => .ok (!ltIS b a)) D.bl := h.bind fun a => h2.bind fun b => by
  rw [ord_is]; exact rf_ok rfl
theorem rf_leO_mm {m n : R (Int × St)} (h : Rf (f σ) m (eT2 D.int eSt)) (h2 : Rf (k σ) n (eT2 D.int eSt)) : Rf (eLo true f k σ) (m.bind fun a => n.bind fun b => .ok (!ltIS b a)) D.bl := rf_leO h h2
end
end DI
namespace DI
open PySem
section
variable {α β γ : Type} {σ : Sl} {f k : Sl → R D} {e : α → D} {S L : Type} {I : S → Sl → Prop} {J : L → Sl → Prop} {E : Sl → Prop} {K : SF}
def popNT (xs : List α) : R (List α) := if xs.isEmpty = true then .bad else .ok xs.dropLast
theorem g_popN {i : Nat} {xs : List β} {M : List β → O S L α} (e' : β → D) (cl : Cl e') (hx : getS σ i = .ok (eLs true e' xs)) (h2 : ∀ ys, Gs I J E e (K (σ.set i (some (eLs true e' ys)))) (M ys)) : Gs I J E e ((sPopN i σ).andThen K) (bnd (popNT xs) M) := by
  have q : sPopN i σ = if cleanL (xs.map e') = true ∧ xs.map e' ≠ [] then .nx (σ.set i (some (.lst true (xs.map e').dropLast))) else .bad := by
    unfold sPopN; rw [hx]; rfl
  rw [q]
  unfold popNT
  cases xs with
  | nil => exact True.intro
  | cons x xs =>
    rw [if_pos ⟨cl_map cl _, by simp⟩, if_neg (by simp)]
    have := h2 (x :: xs).dropLast
    unfold eLs at this
    rw [List.map_dropLast] at this
    exact this
end
end DI
namespace DI
open PySem
end DI
namespace DI
open PySem
instance (priority := high) beqOptDec {α : Type} [DecidableEq α] : BEq (Option α) := instBEqOfDecidableEq
end DI
namespace DI
open PySem
inductive En where
  | by_ (p r : Int) (b : List (List Int)) | out (p r : Int) (b : List (List Int)) | ever (p r f a : Int)
  deriving DecidableEq
def En.num : En → Nat
  | .by_ _ _ _ => 31 | .out _ _ _ => 32 | .ever _ _ _ _ => 33
def En.place : En → Int
  | .by_ p _ _ => p | .out p _ _ => p | .ever p _ _ _ => p
def En.room : En → Int
  | .by_ _ r _ => r | .out _ r _ => r | .ever _ r _ _ => r
def En.first : En → R Int
  | .ever _ _ f _ => .ok f | _ => .bad
end DI
namespace DI
open PySem
end DI
namespace DI
open PySem
def okB {α : Type} : R α → R α
  | .ok a => .ok a
  | _ => .bad
@[simp] theorem okB_ok {α : Type} (a : α) : okB (R.ok a) = R.ok a := rfl
end DI
namespace DI
open PySem
section
variable {α β γ : Type} {σ : Sl} {f : Sl → R D}
def UK (e : α → D) (κ : α → NestedKey) : Prop := ∀ a, unkey (κ a) = e a
def NL (κ : α → NestedKey) : Prop := ∀ a, looseB (κ a) = false
theorem uk_int : UK D.int kInt := fun a => by unfold kInt; rw [unkey]
theorem uk_op {e1 : α → D} {k1 : α → NestedKey} (h : UK e1 k1) : UK (eOp e1) (kOp k1) := fun a => by
  cases a with
  | none => show unkey NestedKey.none = _; rw [unkey]; rfl
  | some x => exact h x
theorem uk_t2 {e1 : α → D} {e2 : β → D} {k1 : α → NestedKey} {k2 : β → NestedKey} (h : UK e1 k1) (h2 : UK e2 k2) : UK (eT2 e1 e2) (kT2 k1 k2) := fun a => by
  unfold kT2
  rw [unkey, unkeyL, unkeyL, unkeyL, h, h2]; rfl
theorem unkeyL_map {e1 : α → D} {k1 : α → NestedKey} (h : UK e1 k1) : ∀ xs : List α, unkeyL (xs.map k1) = xs.map e1
  | [] => by rw [List.map_nil, unkeyL]; rfl
  | x :: xs => by rw [List.map_cons, unkeyL, h, unkeyL_map h xs]; rfl
theorem uk_sq {e1 : α → D} {k1 : α → NestedKey} (h : UK e1 k1) : UK (eSq e1) (kSq k1) := fun xs => by
  unfold kSq
  rw [unkey, unkeyL_map h]; rfl
theorem nl_tab {k1 : α → NestedKey} {k2 : β → NestedKey} : NL (kT2 (kSq k1) (kSq k2)) := fun _ => rfl
theorem rf_ldN_m {o : Bool} {ek : β → D} {ev : γ → D} {κ : β → NestedKey} {m : R (List (β × γ))} (u : UK ek κ) (n : NL κ) (h : Rf (f σ) m (eDc o κ ev)) : Rf (eLd (aC f aN) σ) (m.bind fun u => .ok (u.map (·.1))) (eLs true ek) := by
  have q : eLd (aC f aN) σ = (f σ).bind fun x => ldD [x] := by
    unfold eLd aC aN
    cases f σ <;> rfl
  rw [q]
  refine h.bind fun kvs => rf_ok ?_
  show (if ((kvs.map fun p => (κ p.1, ev p.2)).all fun p => !looseB p.1) = true then R.ok (D.lst true ((kvs.map fun p => (κ p.1, ev p.2)).map fun p => unkey p.1)) else .bad) = _
  rw [if_pos (by rw [List.all_eq_true]; intro p hp; obtain ⟨q, _, rfl⟩ := List.mem_map.mp hp; show (!looseB (κ q.1)) = true; rw [n]; rfl)]
  rw [List.map_map]
  unfold eLs
  rw [List.map_map]
  congr 2
  exact List.map_congr_left fun p _ => u p.1
theorem rf_ldN_p {o : Bool} {ek : β → D} {ev : γ → D} {κ : β → NestedKey} {kvs : List (β × γ)} (u : UK ek κ) (n : NL κ) (h : Rf (f σ) (.ok kvs) (eDc o κ ev)) : Rf (eLd (aC f aN) σ) (.ok (kvs.map (·.1))) (eLs true ek) := rf_ldN_m u n h
end
section
variable {α β S L θ : Type} {σ : Sl} {f : Sl → R D} {J : L → Sl → Prop} {E : Sl → Prop} {I : S → Sl → Prop} {K : Sl → RS} {er : θ → D} {i j : Nat} {e1 : α → D} {e2 : β → D}
theorem g_retT2 {a : α} {b : β} (hx : getS σ i = .ok (e1 a)) (hy : getS σ j = .ok (e2 b)) (hij : i ≠ j) : Gs I J E (eT2 e1 e2) ((sRetT2 i j σ).andThen K) (.rt (a, b)) := by
  unfold sRetT2
  rw [hx]
  show Gs I J E _ ((rS (getS σ j) σ fun d' => if i ≠ j then .rt (.tup [e1 a, d']) else .bad).andThen K) _
  rw [hy]
  show Gs I J E _ ((if i ≠ j then RS.rt (.tup [e1 a, e2 b]) else .bad).andThen K) _
  rw [if_pos hij]
  exact rfl
theorem g_unpT2 {m : R (α × β)} {M : α × β → O S L θ} (c : Cl e2) (h : Rf (f σ) m (eT2 e1 e2)) (hE : E σ) (hK : ∀ a b, Gs I J E er (K ((σ.set i (some (e1 a))).set j (some (e2 b)))) (M (a, b))) : Gs I J E er ((sUnpT2 i j f σ).andThen K) (bnd m M) := by
  unfold sUnpT2
  refine g_val h hE fun p => ?_
  obtain ⟨a, b⟩ := p
  show Gs I J E er ((if clean (e2 b) = true then RS.nx ((σ.set i (some (e1 a))).set j (some (e2 b))) else .bad).andThen K) _
  rw [if_pos (c b)]
  exact hK a b
end
end DI
namespace DI
open PySem
section
variable {α β S L θ : Type} {σ : Sl} {J : L → Sl → Prop} {E : Sl → Prop} {I : S → Sl → Prop} {K : Sl → RS} {er : θ → D} {i : Nat}
theorem g_popNo {o : Option (List β)} {M : Option (List β) → O S L θ} (e' : β → D) (cl : Cl e') (hx : getS σ i = .ok (eOp (eLs true e') o)) (h2 : ∀ ys, Gs I J E er (K (σ.set i (some (eOp (eLs true e') (some ys))))) (M (some ys))) : Gs I J E er ((sPopN i σ).andThen K) (bnd (unO o) fun xs => bnd (popNT xs) fun ys => M (some ys)) := by
  cases o with
  | none => exact True.intro
  | some xs => exact g_popN e' cl hx h2
end
end DI
namespace DI
open PySem
section
variable {α β γ S S' L L' : Type}
def We (m : O S L α) (N : S → Prop) (C B : L → Prop) (Q : α → Prop) (X : Nat → List D → Prop) : Prop :=
  match m with
  | .nx s => N s
  | .ct l => C l
  | .bk l => B l
  | .rt a => Q a
  | .er c fs => X c fs
  | .bad => False
theorem we_run {m : O S L α} {Q : α → Prop} {X : Nat → List D → Prop} (h : We m Nope Nope Nope Q X) : (∃ a, runO m = .ok a ∧ Q a) ∨ ∃ c fs, runO m = .err c fs ∧ X c fs := by
  cases m with
  | rt a => exact .inl ⟨a, rfl, h⟩
  | er c fs => exact .inr ⟨c, fs, rfl, h⟩
  | _ => exact h.elim
theorem we_thn {m : O S L α} {M : S → O S' L α} {N : S' → Prop} {C B : L → Prop} {Q : α → Prop} {X : Nat → List D → Prop} (N' : S → Prop) (h : We m N' C B Q X) (h2 : ∀ s, N' s → We (M s) N C B Q X) : We (m.thn M) N C B Q X := by
  cases m with
  | nx s => exact h2 s h
  | bad => exact h.elim
  | _ => exact h
theorem we_forK {F : β → S → O S S α} {Q : α → Prop} {C B : L → Prop} {N : S → Prop} {X : Nat → List D → Prop} (P : Nat → S → Prop) : ∀ (xs : List β) (k : Nat) (s : S), P k s → (∀ i x s, xs[i]? = some x → P (k + i) s → We (F x s) (P (k + i + 1)) (P (k + i + 1)) N Q X) → (∀ s, P (k + xs.length) s → N s) → We (forT xs F s : O S L α) N C B Q X
  | [], k, s, h0, _, hn => hn s h0
  | x :: xs, k, s, h0, h, hn => by
    have q := h 0 x s rfl h0
    have go : ∀ s', P (k + 1) s' → We (forT xs F s' : O S L α) N C B Q X := fun s' p => we_forK P xs (k + 1) s' p (fun i y s hy hi => by
      have := h (i + 1) y s (by simpa using hy) (by rw [show k + (i + 1) = k + 1 + i by omega]; exact hi)
      rw [show k + (i + 1) + 1 = k + 1 + i + 1 by omega] at this
      exact this) (fun s p => hn s (by rw [List.length_cons, show k + (xs.length + 1) = k + 1 + xs.length by omega]; exact p))
    rw [forT_cons]
    cases e : F x s with
    | nx t => rw [e] at q; exact go t q
    | ct t => rw [e] at q; exact go t q
    | bk t => rw [e] at q; exact q
    | rt a => rw [e] at q; exact q
    | er _ _ => rw [e] at q; exact q
    | bad => rw [e] at q; exact q.elim
theorem we_for {F : β → S → O S S α} {M : S → O S' L α} {N : S' → Prop} {C B : L → Prop} {Q : α → Prop} {X : Nat → List D → Prop} {xs : List β} {s : S} (P : Nat → S → Prop) (h0 : P 0 s) (h : ∀ i x s, xs[i]? = some x → P i s → We (F x s) (P (i + 1)) (P (i + 1)) (P xs.length) Q X) (h2 : ∀ s, P xs.length s → We (M s) N C B Q X) : We (O.thn (forT xs F s : O S L α) M) N C B Q X :=
  we_thn (P xs.length) (we_forK P xs 0 s h0 (fun i x s hx hi => by rw [Nat.zero_add] at hi ⊢; exact h i x s hx hi) (fun s p => by rw [Nat.zero_add] at p; exact p)) h2
theorem we_whl {F : S → O S S α} {Cd : S → R Bool} {M : S → O S' L α} {N : S' → Prop} {C B : L → Prop} {Q : α → Prop} {X : Nat → List D → Prop} {s : S} (I : S → Prop) (μ : S → Nat) (Z : S → Prop) (h0 : I s)
    (h : ∀ s, I s → (Cd s = .ok false ∧ Z s) ∨ (Cd s = .ok true ∧ We (F s) (fun s' => I s' ∧ μ s' < μ s) (fun s' => I s' ∧ μ s' < μ s) Z Q X)) (h2 : ∀ s, Z s → We (M s) N C B Q X) : We (O.thn (whlT Cd F s : O S L α) M) N C B Q X := by
  refine we_thn Z ?_ h2
  refine whlT_rule I μ (fun m => We m Z C B Q X) (fun s hi => ?_) s h0
  rcases h s hi with ⟨hc, z⟩ | ⟨hc, ev⟩
  · exact .inl ⟨hc, z⟩
  · refine .inr ⟨hc, ?_⟩
    cases e : F s with
    | nx t => rw [e] at ev; exact .inl ⟨t, .inl rfl, ev.1, ev.2⟩
    | ct t => rw [e] at ev; exact .inl ⟨t, .inr rfl, ev.1, ev.2⟩
    | bk t => rw [e] at ev; exact .inr (.inl ⟨t, rfl, ev⟩)
    | rt a => rw [e] at ev; exact .inr (.inr (.inl ⟨a, rfl, ev⟩))
    | er c fs => rw [e] at ev; exact .inr (.inr (.inr ⟨c, fs, rfl, ev⟩))
    | bad => rw [e] at ev; exact ev.elim
variable [DecidableEq α]
end
end DI
namespace DI
open PySem PySem.Spec PyProof.Rows L2
def topS (i : Nat) : Stmt := PySem.Challenge.pw_striproam_k16_all_tables.main.body.getD i (.Pass ⟨0, 0, 0, 0⟩)
abbrev st_p_signs_of : Stmt := topS 7
abbrev st_p_checked_by : Stmt := topS 8
abbrev st_p_checked : Stmt := topS 9
abbrev st_p_still : Stmt := topS 12
abbrev st_p_sign_table : Stmt := topS 13
abbrev st_p_followed : Stmt := topS 14
abbrev st_p_behind : Stmt := topS 15
abbrev st_p_all_tables : Stmt := topS 18
abbrev st_l_whole : Stmt := topS 20
abbrev st_l_is_thing : Stmt := topS 21
abbrev st_l_is_table : Stmt := topS 22
abbrev st_l_cell : Stmt := topS 23
abbrev st_l_end : Stmt := topS 24
abbrev st_l_digit_row : Stmt := topS 25
abbrev st_l_mixed_row : Stmt := topS 26
abbrev st_l_machine : Stmt := topS 27
abbrev st_l_within : Stmt := topS 28
abbrev st_l_table : Stmt := topS 29
abbrev st_l_out : Stmt := topS 30
abbrev st_l_boxes : Stmt := topS 31
abbrev st_l_counted : Stmt := topS 32
abbrev st_l_asked : Stmt := topS 33
abbrev st_l_listed : Stmt := topS 34
abbrev st_l_closed : Stmt := topS 35
abbrev st_p_law : Stmt := topS 36
abbrev st_x_NoStrip : Stmt := inClass (topS 2) 0
def tE : Nat → List Str := fun c => if c = 2 then ["at"] else []
structure Tx (K : PySem.W.Frag) (mg : Str → Option Value) (cE : Nat → Option (Addr × List Str)) : Prop where
  b_WayError : XbT K mg "WayError"
  x_NoStrip : XcE K mg cE "NoStrip" "NoStrip.__init__" st_x_NoStrip ["self", "at"] ["at"] 2
  x_TooMany : XcN K mg cE "TooMany" 3
  m_TooMany : XcM K mg cE "TooMany" (oneOfN [3])
  i_WayError : XcI K mg cE "WayError" (oneOfN [1, 2, 3, 4])
  i_NoStrip : XcI K mg cE "NoStrip" (oneOfN [2])
  i_NotLike : XcI K mg cE "NotLike" (oneOfN [4])
  v_ValueError : XcV K cE "ValueError"
  tE : ∀ c C ns, cE c = some (C, ns) → tE c = ns
  b_ValueError : mg "ValueError" = none
  b_all : mg "all" = none
  b_bool : mg "bool" = none
  b_enumerate : mg "enumerate" = none
  b_int : mg "int" = none
  b_isinstance : mg "isinstance" = none
  b_len : mg "len" = none
  b_list : mg "list" = none
  b_range : mg "range" = none
  b_str : mg "str" = none
  b_tuple : mg "tuple" = none
  c_MOST_TABLES : ∃ t, mg "MOST_TABLES" = some (Value.int 300 t)
  c_SIGNS_machines : ∃ t, mg "SIGNS_machines" = some (Value.str "abc" t)
  c_SIGNS_tables : ∃ t, mg "SIGNS_tables" = some (Value.str "abc" t)
  d_p_signs_of : TxD K mg "signs_of" st_p_signs_of ["machine"]
  d_p_checked_by : TxD K mg "checked_by" st_p_checked_by ["many", "strip"]
  d_p_checked : TxD K mg "checked" st_p_checked ["machine", "strip"]
  d_p_still : TxD K mg "still" st_p_still ["rooms"]
  d_p_sign_table : TxD K mg "sign_table" st_p_sign_table ["machine", "sign"]
  d_p_followed : TxD K mg "followed" st_p_followed ["one", "other", "thing", "behind_it"]
  d_p_behind : TxD K mg "behind" st_p_behind ["one", "other"]
  d_p_all_tables : TxD K mg "all_tables" st_p_all_tables ["machine"]
  d_l_whole : TxD K mg "_law_whole" st_l_whole ["_law_found"]
  d_l_is_thing : TxD K mg "_law_is_thing" st_l_is_thing ["_law_found"]
  d_l_is_table : TxD K mg "_law_is_table" st_l_is_table ["_law_found", "_law_due"]
  d_l_cell : TxD K mg "_law_cell" st_l_cell ["_law_script", "_law_k"]
  d_l_end : TxD K mg "_law_end" st_l_end ["_law_number", "_law_rooms"]
  d_l_digit_row : TxD K mg "_law_digit_row" st_l_digit_row ["_law_number", "_law_rooms", "_law_signs"]
  d_l_mixed_row : TxD K mg "_law_mixed_row" st_l_mixed_row ["_law_number", "_law_rooms", "_law_signs"]
  d_l_machine : TxD K mg "_law_machine" st_l_machine ["_law_script", "_law_at", "_law_rooms", "_law_signs"]
  d_l_within : TxD K mg "_law_within" st_l_within ["_law_machine_here", "_law_strip", "_law_place", "_law_room"]
  d_l_table : TxD K mg "_law_table" st_l_table ["_law_machine_here", "_law_strip"]
  d_l_out : TxD K mg "_law_out" st_l_out ["_law_tables", "_law_at", "_law_way", "_law_room"]
  d_l_boxes : TxD K mg "_law_boxes" st_l_boxes ["_law_tables", "_law_rooms"]
  d_l_counted : TxD K mg "_law_counted" st_l_counted ["_law_machine_here", "_law_signs", "_law_most"]
  d_l_asked : TxD K mg "_law_asked" st_l_asked ["_law_machine_here"]
  d_l_listed : TxD K mg "_law_listed" st_l_listed ["_law_machine_here", "_law_found", "_law_signs"]
  d_l_closed : TxD K mg "_law_closed" st_l_closed ["_law_machine_here", "_law_found", "_law_signs"]
  d_p_law : TxD K mg "law" st_p_law ["_law_script"]
noncomputable def b_p_signs_of : SF :=
  sRet (eBi .len (aC (eIx (eIx (eV 0) (eK (.int 0))) (eK (.int 1))) (aN)))
noncomputable def h_p_signs_of : List D → R D := runF 1 b_p_signs_of
noncomputable def b_p_checked_by : SF :=
  sSeq (sFor (.many [2, 3]) (iEn (aC (eO (eV 1)) (aN)))
    (sIf (eC .nmem (eV 3) (eSl (eK (.str "abc")) true (eK .non) false (eV 0)))
      (sRaise 2 (aC (eV 2) (aN)))
      (sSkip))) <|
  sRetV 1
noncomputable def h_p_checked_by : List D → R D := runF 4 b_p_checked_by
noncomputable def b_p_checked : SF :=
  sRet (eF h_p_checked_by (aC (eF h_p_signs_of (aC (eV 0) (aN))) (aC (eV 1) (aN))))
noncomputable def h_p_checked : List D → R D := runF 2 b_p_checked
noncomputable def b_p_still : SF :=
  sRet (eTup (aC (eBi .tuple (aC (eComp [1] (.one 1) (iR1 (aC (eV 0) (aN))) (eT) (eTup (aC (eK (.int 1)) (aC (eO (eV 1)) (aN))))) (aN))) (aC (eBi .tuple (aC (eComp [1] (.one 1) (iR1 (aC (eV 0) (aN))) (eT) (eTup (aC (eNeg (eK (.int 1))) (aC (eO (eV 1)) (aN))))) (aN))) (aN))))
noncomputable def h_p_still : List D → R D := runF 2 b_p_still
noncomputable def b_p_sign_table : SF :=
  sSeq (sSet 2 (eMt .strIndex (eK (.str "abc")) (aC (eF h_p_checked (aC (eV 0) (aC (eV 1) (aN)))) (aN)))) <|
  sSeq (sSet 3 (eComp [5] (.one 5) (iSeq' (eV 0)) (eT) (eO (eIx (eIx (eV 5) (eK (.int 1))) (eV 2))))) <|
  sSeq (sSet 4 (eBi .tuple (aC (eComp [6] (.one 6) (iSeq' (eV 3)) (eT) (eTup (aC (eO (eIx (eV 6) (eK (.int 1)))) (aC (eO (eIx (eV 6) (eK (.int 0)))) (aN))))) (aN)))) <|
  sRet (eTup (aC (eO (eV 4)) (aC (eO (eV 4)) (aN))))
noncomputable def h_p_sign_table : List D → R D := runF 7 b_p_sign_table
noncomputable def b_p_followed : SF :=
  sSeq (sSet 4 (eD0)) <|
  sSeq (sWhl (eC .notN (eV 2) (eK (.non)))
    (sSeq (sUnp (.many [5, 6]) (eV 2)) <|
    sSeq (sIf (eC .eq (eV 3) (eC .eq (eV 5) (eK (.int 1))))
      (sRetV 2)
      (sSkip)) <|
    sSeq (sIf (eC .mem (eTup (aC (eO (eV 3)) (aC (eO (eV 6)) (aN)))) (eV 4))
      (sRet (eK (.non)))
      (sSkip)) <|
    sSeq (sPutK 4 (eTup (aC (eO (eV 3)) (aC (eO (eV 6)) (aN)))) (eK (.bl true))) <|
    sSeq (sIf (eV 3)
      (sSet 2 (eO (eIx (eIx (eV 0) (eK (.int 1))) (eV 6))))
      (sSet 2 (eO (eIx (eIx (eV 1) (eK (.int 0))) (eV 6))))) <|
    sSet 3 (eNot (eV 3)))) <|
  sRet (eK (.non))
noncomputable def h_p_followed : List D → R D := runF 7 b_p_followed
noncomputable def b_p_behind : SF :=
  sSeq (sSet 2 (eComp [4] (.one 4) (iSeq' (eIx (eV 0) (eK (.int 0)))) (eT) (eF h_p_followed (aC (eV 0) (aC (eV 1) (aC (eV 4) (aC (eK (.bl false)) (aN)))))))) <|
  sSeq (sSet 3 (eComp [4] (.one 4) (iSeq' (eIx (eV 1) (eK (.int 1)))) (eT) (eF h_p_followed (aC (eV 0) (aC (eV 1) (aC (eV 4) (aC (eK (.bl true)) (aN)))))))) <|
  sRet (eTup (aC (eBi .tuple (aC (eV 2) (aN))) (aC (eBi .tuple (aC (eV 3) (aN))) (aN))))
noncomputable def h_p_behind : List D → R D := runF 5 b_p_behind
noncomputable def b_p_all_tables : SF :=
  sSeq (sSet 1 (eComp [7] (.one 7) (iSeq' (eSl (eK (.str "abc")) true (eK .non) false (eF h_p_signs_of (aC (eV 0) (aN))))) (eT) (eTup (aC (eO (eV 7)) (aC (eF h_p_sign_table (aC (eV 0) (aC (eV 7) (aN)))) (aN)))))) <|
  sSeq (sSet 2 (eLst (aC (eTup (aC (eK (.str "")) (aC (eF h_p_still (aC (eBi .len (aC (eV 0) (aN))) (aN))) (aN)))) (aN)))) <|
  sSeq (sSet 3 (eDN1 (eIx (eIx (eV 2) (eK (.int 0))) (eK (.int 1))) (eK (.bl true)))) <|
  sSeq (sSet 4 (eK (.int 0))) <|
  sFz 1 <| sSeq (sWhl (eC .lt (eV 4) (eBi .len (aC (eV 2) (aN))))
    (sSeq (sUnp (.many [5, 6]) (eIx (eV 2) (eV 4))) <|
    sFz 1 <| sSeq (sFor (.many [7, 8]) (iSeq' (eO (eV 1)))
      (sSeq (sSet 9 (eF h_p_behind (aC (eV 6) (aC (eV 8) (aN))))) <|
      sIf (eC .nmem (eV 9) (eV 3))
        (sSeq (sIf (eC .eq (eBi .len (aC (eV 2) (aN))) (eK (.int 300)))
          (sRaise0 3)
          (sSkip)) <|
        sSeq (sPutK 3 (eV 9) (eK (.bl true))) <|
        sFz 9 <| sApp 2 (eTup (aC (eB .add (eV 5) (eV 7)) (aC (eO (eV 9)) (aN)))))
        (sSkip))) <|
    sSet 4 (eB .add (eV 4) (eK (.int 1))))) <|
  sRetV 2
noncomputable def h_p_all_tables : List D → R D := runF 10 b_p_all_tables
noncomputable def b_l_whole : SF :=
  sRet (eO (eAnd (eIsi .int (eV 0)) (eNot (eIsi .bool (eV 0)))))
noncomputable def h_l_whole : List D → R D := runF 1 b_l_whole
noncomputable def b_l_is_thing : SF :=
  sSeq (sIf (eC .isN (eV 0) (eK (.non)))
    (sRet (eK (.bl true)))
    (sSkip)) <|
  sRet (eO (eAnd (eIsi .tuple (eV 0)) (eAnd (eC .eq (eBi .len (aC (eV 0) (aN))) (eK (.int 2))) (eBi .all (aC (eComp [1] (.one 1) (iSeq' (eV 0)) (eT) (eF h_l_whole (aC (eV 1) (aN)))) (aN))))))
noncomputable def h_l_is_thing : List D → R D := runF 2 b_l_is_thing
noncomputable def b_l_is_table : SF :=
  sSeq (sIf (eOr (eNot (eIsi .tuple (eV 0))) (eOr (eC .ne (eBi .len (aC (eV 0) (aN))) (eK (.int 2))) (eC .ne (eV 0) (eV 1))))
    (sRet (eK (.bl false)))
    (sSkip)) <|
  sSeq (sFor (.one 2) (iSeq' (eO (eV 0)))
    (sIf (eOr (eNot (eIsi .tuple (eV 2))) (eNot (eBi .all (aC (eComp [3] (.one 3) (iSeq' (eV 2)) (eT) (eF h_l_is_thing (aC (eV 3) (aN)))) (aN)))))
      (sRet (eK (.bl false)))
      (sSkip))) <|
  sRet (eK (.bl true))
noncomputable def h_l_is_table : List D → R D := runF 4 b_l_is_table
noncomputable def b_l_cell : SF :=
  sSeq (sSet 2 (eK (.int 0))) <|
  sSeq (sIf (eC .gt (eBi .len (aC (eV 0) (aN))) (eK (.int 0)))
    (sSet 2 (eO (eIx (eV 0) (eB .mod (eV 1) (eBi .len (aC (eV 0) (aN)))))))
    (sSkip)) <|
  sSeq (sSet 3 (eB .mod (eB .mul (eB .add (eB .add (eB .mod (eV 2) (eK (.int 2147483647))) (eB .mul (eK (.int 7919)) (eV 1))) (eK (.int 1))) (eK (.int 48271))) (eK (.int 2147483647)))) <|
  sRet (eB .add (eB .mul (eB .fdiv (eV 2) (eK (.int 2147483647))) (eK (.int 2147483659))) (eB .mod (eB .add (eB .mul (eV 3) (eK (.int 69621))) (eB .mul (eK (.int 104729)) (eV 1))) (eK (.int 2147483659))))
noncomputable def h_l_cell : List D → R D := runF 4 b_l_cell
noncomputable def b_l_end : SF :=
  sSeq (sIf (eC .eq (eB .mod (eV 0) (eK (.int 3))) (eK (.int 0)))
    (sRet (eO (eIx (eLst (aC (eK (.str "by")) (aC (eK (.str "out")) (aN)))) (eB .mod (eB .fdiv (eV 0) (eK (.int 3))) (eK (.int 2))))))
    (sSkip)) <|
  sRet (eB .mod (eB .fdiv (eV 0) (eK (.int 3))) (eV 1))
noncomputable def h_l_end : List D → R D := runF 2 b_l_end
noncomputable def b_l_digit_row : SF :=
  sSeq (sSet 3 (eB .mod (eV 0) (eB .add (eV 1) (eK (.int 2))))) <|
  sSeq (sSet 0 (eB .fdiv (eV 0) (eB .add (eV 1) (eK (.int 2))))) <|
  sSeq (sSet 4 (eLst (aN))) <|
  sSeq (sFor (.one 5) (iR1 (aC (eV 2) (aN)))
    (sSeq (sApp 4 (eTup (aC (eB .mod (eB .fdiv (eV 0) (eK (.int 2))) (eV 1)) (aC (eB .sub (eK (.int 1)) (eB .mul (eB .mod (eV 0) (eK (.int 2))) (eK (.int 2)))) (aN))))) <|
    sSet 0 (eB .fdiv (eV 0) (eB .mul (eK (.int 2)) (eV 1))))) <|
  sSeq (sSet 6 (eLst (aC (eO (eV 3)) (aC (eB .mod (eV 0) (eB .add (eV 1) (eK (.int 2)))) (aN))))) <|
  sSeq (sSet 6 (eComp [7] (.one 7) (iSeq' (eV 6)) (eT) (eO (eIf (eC .ge (eV 7) (eV 1)) (eIx (eLst (aC (eK (.str "by")) (aC (eK (.str "out")) (aN)))) (eB .sub (eV 7) (eV 1))) (eV 7))))) <|
  sRet (eTup (aC (eO (eIx (eV 6) (eK (.int 0)))) (aC (eBi .tuple (aC (eV 4) (aN))) (aC (eO (eIx (eV 6) (eK (.int 1)))) (aN)))))
noncomputable def h_l_digit_row : List D → R D := runF 8 b_l_digit_row
noncomputable def b_l_mixed_row : SF :=
  sSeq (sSet 3 (eLst (aN))) <|
  sSeq (sFor (.one 4) (iR1 (aC (eB .add (eV 2) (eK (.int 2))) (aN)))
    (sSeq (sSet 0 (eB .mod (eB .add (eB .mul (eV 0) (eK (.int 48271))) (eK (.int 7919))) (eK (.int 2147483647)))) <|
    sApp 3 (eB .fdiv (eV 0) (eK (.int 64))))) <|
  sSeq (sSet 5 (eBi .tuple (aC (eComp [6] (.one 6) (iSeq' (eSl (eV 3) false (eK (.int 2)) true (eK .non))) (eT) (eTup (aC (eB .mod (eV 6) (eV 1)) (aC (eB .sub (eK (.int 1)) (eB .mul (eB .fdiv (eB .mod (eB .fdiv (eV 6) (eK (.int 64))) (eK (.int 3))) (eK (.int 2))) (eK (.int 2)))) (aN))))) (aN)))) <|
  sRet (eTup (aC (eF h_l_end (aC (eIx (eV 3) (eK (.int 0))) (aC (eV 1) (aN)))) (aC (eO (eV 5)) (aC (eF h_l_end (aC (eIx (eV 3) (eK (.int 1))) (aC (eV 1) (aN)))) (aN)))))
noncomputable def h_l_mixed_row : List D → R D := runF 7 b_l_mixed_row
noncomputable def b_l_machine : SF :=
  sSeq (sSet 4 (eLst (aN))) <|
  sSeq (sFor (.one 5) (iR1 (aC (eV 2) (aN)))
    (sIf (eAnd (eC .lt (eB .add (eV 1) (eV 5)) (eBi .len (aC (eV 0) (aN)))) (eC .eq (eB .mod (eIx (eV 0) (eK (.int 0))) (eK (.int 2))) (eK (.int 1))))
      (sApp 4 (eF h_l_digit_row (aC (eIx (eV 0) (eB .add (eV 1) (eV 5))) (aC (eV 2) (aC (eV 3) (aN))))))
      (sSeq (sSet 6 (eF h_l_mixed_row (aC (eB .mod (eF h_l_cell (aC (eV 0) (aC (eB .add (eV 1) (eV 5)) (aN)))) (eK (.int 2147483647))) (aC (eV 2) (aC (eV 3) (aN)))))) <|
      sSeq (sIf (eAnd (eC .eq (eV 5) (eK (.int 0))) (eAnd (eIsi .str (eIx (eV 6) (eK (.int 0)))) (eC .gt (eB .mod (eB .fdiv (eF h_l_cell (aC (eV 0) (aC (eV 1) (aN)))) (eK (.int 8))) (eK (.int 8))) (eK (.int 0)))))
        (sSet 6 (eB .add (eTup (aC (eB .mod (eB .fdiv (eF h_l_cell (aC (eV 0) (aC (eV 1) (aN)))) (eK (.int 64))) (eV 2)) (aN))) (eSl (eV 6) false (eK (.int 1)) true (eK .non))))
        (sSkip)) <|
      sFz 6 <| sApp 4 (eO (eV 6))))) <|
  sRet (eBi .tuple (aC (eV 4) (aN)))
noncomputable def h_l_machine : List D → R D := runF 7 b_l_machine
noncomputable def b_l_within : SF :=
  sSeq (sSet 4 (eD0)) <|
  sSeq (sWhl (eCC .lt .le (eK (.int 0)) (eV 2) (eBi .len (aC (eV 1) (aN))))
    (sSeq (sIf (eC .mem (eTup (aC (eO (eV 2)) (aC (eO (eV 3)) (aN)))) (eV 4))
      (sRet (eK (.non)))
      (sSkip)) <|
    sSeq (sPutK 4 (eTup (aC (eO (eV 2)) (aC (eO (eV 3)) (aN)))) (eK (.bl true))) <|
    sSeq (sUnp (.many [3, 5]) (eIx (eIx (eIx (eV 0) (eV 3)) (eK (.int 1))) (eMt .strIndex (eK (.str "abc")) (aC (eIx (eV 1) (eB .sub (eV 2) (eK (.int 1)))) (aN))))) <|
    sSet 2 (eB .add (eV 2) (eV 5)))) <|
  sRet (eTup (aC (eO (eIx (eLst (aC (eNeg (eK (.int 1))) (aC (eK (.int 1)) (aN)))) (eBi .int (aC (eC .gt (eV 2) (eK (.int 0))) (aN))))) (aC (eO (eV 3)) (aN))))
noncomputable def h_l_within : List D → R D := runF 6 b_l_within
noncomputable def b_l_table : SF :=
  sSeq (sSet 2 (eLR (eBi .len (aC (eV 0) (aN))))) <|
  sSeq (sSet 3 (eComp [5] (.one 5) (iSeq' (eV 2)) (eT) (eF h_l_within (aC (eV 0) (aC (eV 1) (aC (eK (.int 1)) (aC (eV 5) (aN)))))))) <|
  sSeq (sSet 4 (eComp [5] (.one 5) (iSeq' (eV 2)) (eT) (eF h_l_within (aC (eV 0) (aC (eV 1) (aC (eBi .len (aC (eV 1) (aN))) (aC (eV 5) (aN)))))))) <|
  sRet (eTup (aC (eBi .tuple (aC (eV 3) (aN))) (aC (eBi .tuple (aC (eV 4) (aN))) (aN))))
noncomputable def h_l_table : List D → R D := runF 6 b_l_table
noncomputable def b_l_out : SF :=
  sSeq (sSet 4 (eD0)) <|
  sSeq (sWhl (eCC .le .lt (eK (.int 0)) (eV 1) (eBi .len (aC (eV 0) (aN))))
    (sSeq (sIf (eC .mem (eTup (aC (eO (eV 1)) (aC (eO (eV 2)) (aC (eO (eV 3)) (aN))))) (eV 4))
      (sRet (eK (.non)))
      (sSkip)) <|
    sSeq (sPutK 4 (eTup (aC (eO (eV 1)) (aC (eO (eV 2)) (aC (eO (eV 3)) (aN))))) (eK (.bl true))) <|
    sSeq (sSet 5 (eO (eIx (eIx (eIx (eV 0) (eV 1)) (eBi .int (aC (eC .lt (eV 2) (eK (.int 0))) (aN)))) (eV 3)))) <|
    sSeq (sIf (eC .isN (eV 5) (eK (.non)))
      (sRet (eK (.non)))
      (sSkip)) <|
    sSeq (sUnp (.many [2, 3]) (eV 5)) <|
    sSet 1 (eB .add (eV 1) (eV 2)))) <|
  sRet (eTup (aC (eO (eV 2)) (aC (eO (eV 3)) (aN))))
noncomputable def h_l_out : List D → R D := runF 6 b_l_out
noncomputable def b_l_boxes : SF :=
  sSeq (sSet 2 (eComp [4] (.one 4) (iR1 (aC (eV 1) (aN))) (eT) (eF h_l_out (aC (eV 0) (aC (eK (.int 0)) (aC (eK (.int 1)) (aC (eV 4) (aN)))))))) <|
  sSeq (sSet 3 (eComp [4] (.one 4) (iR1 (aC (eV 1) (aN))) (eT) (eF h_l_out (aC (eV 0) (aC (eB .sub (eBi .len (aC (eV 0) (aN))) (eK (.int 1))) (aC (eNeg (eK (.int 1))) (aC (eV 4) (aN)))))))) <|
  sRet (eTup (aC (eBi .tuple (aC (eV 2) (aN))) (aC (eBi .tuple (aC (eV 3) (aN))) (aN))))
noncomputable def h_l_boxes : List D → R D := runF 5 b_l_boxes
noncomputable def b_l_counted : SF :=
  sSeq (sSet 3 (eComp [9] (.one 9) (iSeq' (eSl (eK (.str "abc")) true (eK .non) false (eV 1))) (eT) (eF h_l_table (aC (eV 0) (aC (eV 9) (aN)))))) <|
  sSeq (sSet 4 (eLst (aC (eF h_l_table (aC (eV 0) (aC (eK (.str "")) (aN)))) (aN)))) <|
  sSeq (sSet 5 (eDN1 (eIx (eV 4) (eK (.int 0))) (eK (.bl true)))) <|
  sSeq (sSet 6 (eK (.int 0))) <|
  sFz 3 <| sSeq (sWhl (eAnd (eC .lt (eV 6) (eBi .len (aC (eV 4) (aN)))) (eC .le (eBi .len (aC (eV 4) (aN))) (eV 2)))
    (sFz 3 <| sSeq (sFor (.one 7) (iSeq' (eO (eV 3)))
      (sSeq (sSet 8 (eF h_l_boxes (aC (eLst (aC (eO (eIx (eV 4) (eV 6))) (aC (eO (eV 7)) (aN)))) (aC (eBi .len (aC (eV 0) (aN))) (aN))))) <|
      sIf (eC .nmem (eV 8) (eV 5))
        (sSeq (sPutK 5 (eV 8) (eK (.bl true))) <|
        sFz 8 <| sApp 4 (eO (eV 8)))
        (sSkip))) <|
    sSet 6 (eB .add (eV 6) (eK (.int 1))))) <|
  sRet (eBi .len (aC (eV 4) (aN)))
noncomputable def h_l_counted : List D → R D := runF 10 b_l_counted
noncomputable def b_l_asked : SF :=
  sSeq (sSet 1 (eK (.non))) <|
  sSeq (sSet 2 (eK (.bl false))) <|
  sSeq (sTryA 3 (oneOfN [3]) (oneOfN [3])
    (sSet 1 (eF h_p_all_tables (aC (eV 0) (aN))))
    (sSeq (sSet 4 (eO (eAnd (eXi (oneOfN [1, 2, 3, 4]) (eV 3)) (eXi (fun _ => true) (eV 3))))) <|
    sSet 2 (eO (eAnd (eV 4) (eNot (eXi (oneOf2 (oneOfN [2]) (oneOfN [4])) (eV 3))))))) <|
  sRetT2 1 2
noncomputable def h_l_asked : List D → R D := runF 5 b_l_asked
noncomputable def b_l_listed : SF :=
  sSeq (sSet 3 (eK (.non))) <|
  sSeq (sFor (.one 4) (iSeq' (eO (eV 1)))
    (sSeq (sIf (eOr (eNot (eIsi .tuple (eV 4))) (eOr (eC .ne (eBi .len (aC (eV 4) (aN))) (eK (.int 2))) (eNot (eIsi .str (eIx (eV 4) (eK (.int 0)))))))
      (sRet (eK (.bl false)))
      (sSkip)) <|
    sSeq (sIf (eOr (eNot (eBi .all (aC (eComp [5] (.one 5) (iSeq' (eIx (eV 4) (eK (.int 0)))) (eT) (eC .mem (eV 5) (eSl (eK (.str "abc")) true (eK .non) false (eV 2)))) (aN)))) (eC .gt (eBi .len (aC (eIx (eV 4) (eK (.int 0))) (aN))) (eK (.int 300))))
      (sRet (eK (.bl false)))
      (sSkip)) <|
    sSeq (sIf (eAnd (eC .notN (eV 3) (eK (.non))) (eLo true (eTup (aC (eBi .len (aC (eIx (eV 4) (eK (.int 0))) (aN))) (aC (eO (eIx (eV 4) (eK (.int 0)))) (aN)))) (eV 3)))
      (sRet (eK (.bl false)))
      (sSkip)) <|
    sSeq (sSet 3 (eTup (aC (eBi .len (aC (eIx (eV 4) (eK (.int 0))) (aN))) (aC (eO (eIx (eV 4) (eK (.int 0)))) (aN))))) <|
    sIf (eNot (eF h_l_is_table (aC (eIx (eV 4) (eK (.int 1))) (aC (eF h_l_table (aC (eV 0) (aC (eIx (eV 4) (eK (.int 0))) (aN)))) (aN)))))
      (sRet (eK (.bl false)))
      (sSkip))) <|
  sRet (eK (.bl true))
noncomputable def h_l_listed : List D → R D := runF 6 b_l_listed
noncomputable def b_l_closed : SF :=
  sSeq (sSet 3 (eD0)) <|
  sSeq (sFor (.many [4, 5]) (iSeq' (eO (eV 1)))
    (sPutK 3 (eV 5) (eK (.bl true)))) <|
  sSeq (sSet 6 (eComp [8] (.one 8) (iSeq' (eSl (eK (.str "abc")) true (eK .non) false (eV 2))) (eT) (eF h_l_table (aC (eV 0) (aC (eV 8) (aN)))))) <|
  sFz 6 <| sSeq (sFor (.one 5) (iSeq' (eLd (aC (eV 3) (aN))))
    (sFz 6 <| sFor (.one 7) (iSeq' (eO (eV 6)))
      (sSeq (sIf (eC .nmem (eF h_l_boxes (aC (eLst (aC (eO (eV 5)) (aC (eO (eV 7)) (aN)))) (aC (eBi .len (aC (eV 0) (aN))) (aN)))) (eV 3))
        (sRet (eK (.bl false)))
        (sSkip)) <|
      sIf (eC .nmem (eF h_l_boxes (aC (eLst (aC (eO (eV 7)) (aC (eO (eV 5)) (aN)))) (aC (eBi .len (aC (eV 0) (aN))) (aN)))) (eV 3))
        (sRet (eK (.bl false)))
        (sSkip)))) <|
  sRet (eC .eq (eBi .len (aC (eV 3) (aN))) (eBi .len (aC (eV 1) (aN))))
noncomputable def h_l_closed : List D → R D := runF 9 b_l_closed
noncomputable def b_p_law : SF :=
  sSeq (sSet 1 (eF h_l_cell (aC (eV 0) (aC (eK (.int 0)) (aN))))) <|
  sSeq (sSet 2 (eB .add (eK (.int 1)) (eB .mod (eV 1) (eK (.int 3))))) <|
  sSeq (sSet 3 (eB .add (eK (.int 1)) (eB .mod (eB .fdiv (eV 1) (eK (.int 3))) (eK (.int 3))))) <|
  sSeq (sSet 4 (eF h_l_machine (aC (eV 0) (aC (eK (.int 1)) (aC (eV 2) (aC (eV 3) (aN))))))) <|
  sSeq (sSet 5 (eF h_l_counted (aC (eV 4) (aC (eV 3) (aC (eK (.int 300)) (aN)))))) <|
  sSeq (sUnpT2 6 7 (eF h_l_asked (aC (eV 4) (aN)))) <|
  sSeq (sIf (eC .gt (eV 5) (eK (.int 300)))
    (sRet (eO (eAnd (eC .isN (eV 6) (eK (.non))) (eV 7))))
    (sSkip)) <|
  sSeq (sIf (eOr (eNot (eIsi .list (eV 6))) (eOr (eC .ne (eBi .len (aC (eV 6) (aN))) (eV 5)) (eC .ne (eIx (eIx (eV 6) (eK (.int 0))) (eK (.int 0))) (eK (.str "")))))
    (sRet (eK (.bl false)))
    (sSkip)) <|
  sSeq (sIf (eOr (eNot (eF h_l_listed (aC (eV 4) (aC (eV 6) (aC (eV 3) (aN)))))) (eNot (eF h_l_closed (aC (eV 4) (aC (eV 6) (aC (eV 3) (aN)))))))
    (sRet (eK (.bl false)))
    (sSkip)) <|
  sSeq (sSet 8 (eLi (aC (eV 6) (aN)))) <|
  sSeq (sPopN 6) <|
  sRet (eC .eq (eF h_p_all_tables (aC (eV 4) (aN))) (eV 8))
noncomputable def h_p_law : List D → R D := runF 9 b_p_law
section
variable {P : Program} {w : World} {K : PySem.W.Frag} {mg : Str → Option Value} {base : Heap} {cE : Nat → Option (Addr × List Str)}
theorem scx_NoStrip : FnScope ["self", "at"] ["self", "at"] (defScope st_x_NoStrip) := ⟨rfl, rfl, rfl, by decide +kernel, rfl, by decide +kernel, by decide +kernel⟩
theorem xi_NoStrip (T : Tx K mg cE) {C fI : Addr} {fd : FuncData} (a : XcA K mg "NoStrip" "NoStrip.__init__" st_x_NoStrip ["self", "at"] ["at"] C fI fd) : FnOk P w K mg base (L2.CX P w) 1 fI fd ["self", "at"] (spX K C 1 ["at"]) :=
  ok_xinit1 a.Fn scx_NoStrip a.T.T (a.no _ (by decide)) fun cdv A outer s H E => pss_cons (ps_expr (pe_weinit T.b_WayError (pa_cons (pv 0) (pa_cons pe_str pa_nil)))) (pss_one (ps_ost (pv 0) (pv 1)))
theorem sc_p_signs_of : FnScope ["machine"] ["machine"] (defScope st_p_signs_of) := ⟨rfl, rfl, rfl, by decide +kernel, rfl, by decide +kernel, by decide +kernel⟩
theorem ok_p_signs_of (T : Tx K mg cE) : DefOk P w K mg base ⟨P, w, K, cE, fun _ => none, none, none, none, fun _ => none⟩ 1 "signs_of" ["machine"] 1 h_p_signs_of :=
  di_def _ T.d_p_signs_of sc_p_signs_of 1 rfl 1 rfl b_p_signs_of fun f cdv A outer s H E hr tk hp => by
  have hu := hu70 hr
  have nd := sc_p_signs_of.nd
  exact ss_one (t_ret (z_len ⟨rfl, rfl, rfl⟩ (z_aC (z_ix hu ⟨rfl, rfl, rfl⟩ (z_ix hu ⟨rfl, rfl, rfl⟩ (z_v 0) (z_i)) (z_i)) (z_aN)) T.b_len))
theorem sc_p_checked_by : FnScope ["many", "strip", "at", "sign"] ["many", "strip"] (defScope st_p_checked_by) := ⟨rfl, rfl, rfl, by decide +kernel, rfl, by decide +kernel, by decide +kernel⟩
theorem ok_p_checked_by (T : Tx K mg cE) : DefOk P w K mg base ⟨P, w, K, cE, fun _ => none, none, none, none, fun _ => none⟩ 3 "checked_by" ["many", "strip"] 2 h_p_checked_by :=
  di_def _ T.d_p_checked_by sc_p_checked_by 2 rfl 4 rfl b_p_checked_by fun f cdv A outer s H E hr tk hp => by
  have hu := hu70 hr
  have nd := sc_p_checked_by.nd
  exact ss_cons (t_for hp (i_en ⟨rfl, rfl, rfl⟩ (z_aO (z_o (z_v 1)) (z_aN)) T.b_enumerate) (g_many ⟨rfl, rfl, rfl⟩ (g_cons (g_one 2 nd) (g_cons (g_one 3 nd) (g_nil))))
    (ss_one (t_if (y_nin hu ⟨rfl, rfl, rfl⟩ (z_v 3) (z_sl ⟨rfl, rfl, rfl⟩ (z_gs T.c_SIGNS_machines.choose_spec) z_pn (z_pe (z_v 0))))
      (ss_one (t_raise 1 T.x_NoStrip (fun a => xi_NoStrip T a) (hr.mono (by decide)) tk (z_aC (z_v 2) (z_aN)) (len_aC (len_aN))))
      (ss_nil)))) <|
  ss_one (t_retV 1)
theorem sc_p_checked : FnScope ["machine", "strip"] ["machine", "strip"] (defScope st_p_checked) := ⟨rfl, rfl, rfl, by decide +kernel, rfl, by decide +kernel, by decide +kernel⟩
theorem ok_p_checked (T : Tx K mg cE) : DefOk P w K mg base ⟨P, w, K, cE, fun _ => none, none, none, none, fun _ => none⟩ 4 "checked" ["machine", "strip"] 2 h_p_checked :=
  di_def _ T.d_p_checked sc_p_checked 2 rfl 2 rfl b_p_checked fun f cdv A outer s H E hr tk hp => by
  have hu := hu70 hr
  have nd := sc_p_checked.nd
  exact ss_one (t_ret (z_call' (ok_p_checked_by T) (hr.mono (by decide)) tk (z_aC (z_call' (ok_p_signs_of T) (hr.mono (by decide)) tk (z_aC (z_v 0) (z_aN)) (len_aC (len_aN))) (z_aC (z_v 1) (z_aN))) (len_aC (len_aC (len_aN)))))
theorem sc_p_still : FnScope ["rooms", "room"] ["rooms"] (defScope st_p_still) := ⟨rfl, rfl, rfl, by decide +kernel, rfl, by decide +kernel, by decide +kernel⟩
theorem ok_p_still (T : Tx K mg cE) : DefOk P w K mg base ⟨P, w, K, cE, fun _ => none, none, none, none, fun _ => none⟩ 1 "still" ["rooms"] 1 h_p_still :=
  di_def _ T.d_p_still sc_p_still 1 rfl 2 rfl b_p_still fun f cdv A outer s H E hr tk hp => by
  have hu := hu70 hr
  have nd := sc_p_still.nd
  exact ss_one (t_ret (z_tup (z_aO (z_tuple ⟨rfl, rfl, rfl⟩ (z_aC (z_comp [("room", 1)] nd (i_r1 (z_aC (z_v 0) (z_aN)) T.b_range) (fun _ _ _ _ _ => g_one 1 nd) (fun _ _ _ _ _ => sts_nil) (fun _ _ _ _ _ => z_tup (z_aO (z_i) (z_aO (z_o (z_v 1)) (z_aN))))) (z_aN)) T.b_tuple) (z_aO (z_tuple ⟨rfl, rfl, rfl⟩ (z_aC (z_comp [("room", 1)] nd (i_r1 (z_aC (z_v 0) (z_aN)) T.b_range) (fun _ _ _ _ _ => g_one 1 nd) (fun _ _ _ _ _ => sts_nil) (fun _ _ _ _ _ => z_tup (z_aO (z_neg (z_i)) (z_aO (z_o (z_v 1)) (z_aN))))) (z_aN)) T.b_tuple) (z_aN)))))
theorem sc_p_sign_table : FnScope ["machine", "sign", "at", "cells", "things", "row", "cell"] ["machine", "sign"] (defScope st_p_sign_table) := ⟨rfl, rfl, rfl, by decide +kernel, rfl, by decide +kernel, by decide +kernel⟩
theorem ok_p_sign_table (T : Tx K mg cE) : DefOk P w K mg base ⟨P, w, K, cE, fun _ => none, none, none, none, fun _ => none⟩ 5 "sign_table" ["machine", "sign"] 2 h_p_sign_table :=
  di_def _ T.d_p_sign_table sc_p_sign_table 2 rfl 7 rfl b_p_sign_table fun f cdv A outer s H E hr tk hp => by
  have hu := hu70 hr
  have nd := sc_p_sign_table.nd
  exact ss_cons (t_set 2 nd (z_sindex (z_gs T.c_SIGNS_tables.choose_spec) (z_aC (z_call' (ok_p_checked T) (hr.mono (by decide)) tk (z_aC (z_v 0) (z_aC (z_v 1) (z_aN))) (len_aC (len_aC (len_aN)))) (z_aN)))) <|
  ss_cons (t_lc 3 [("row", 5)] nd (i_seq ⟨rfl, rfl, rfl⟩ (z_v 0)) (fun _ _ _ _ _ => g_one 5 nd) (fun _ _ _ _ _ => sts_nil) (fun _ _ _ _ _ => z_o (z_ix hu ⟨rfl, rfl, rfl⟩ (z_ix hu ⟨rfl, rfl, rfl⟩ (z_v 5) (z_i)) (z_v 2)))) <|
  ss_cons (t_set 4 nd (z_tuple ⟨rfl, rfl, rfl⟩ (z_aC (z_comp [("cell", 6)] nd (i_seq ⟨rfl, rfl, rfl⟩ (z_v 3)) (fun _ _ _ _ _ => g_one 6 nd) (fun _ _ _ _ _ => sts_nil) (fun _ _ _ _ _ => z_tup (z_aO (z_o (z_ix hu ⟨rfl, rfl, rfl⟩ (z_v 6) (z_i))) (z_aO (z_o (z_ix hu ⟨rfl, rfl, rfl⟩ (z_v 6) (z_i))) (z_aN))))) (z_aN)) T.b_tuple)) <|
  ss_one (t_ret (z_tup (z_aO (z_o (z_v 4)) (z_aO (z_o (z_v 4)) (z_aN)))))
theorem sc_p_followed : FnScope ["one", "other", "thing", "behind_it", "seen", "way", "room"] ["one", "other", "thing", "behind_it"] (defScope st_p_followed) := ⟨rfl, rfl, rfl, by decide +kernel, rfl, by decide +kernel, by decide +kernel⟩
theorem ok_p_followed (T : Tx K mg cE) : DefOk P w K mg base ⟨P, w, K, cE, fun _ => none, none, none, none, fun _ => none⟩ 1 "followed" ["one", "other", "thing", "behind_it"] 4 h_p_followed :=
  di_def _ T.d_p_followed sc_p_followed 4 rfl 7 rfl b_p_followed fun f cdv A outer s H E hr tk hp => by
  have hu := hu70 hr
  have nd := sc_p_followed.nd
  exact ss_cons (t_set 4 nd (z_d0)) <|
  ss_cons (t_whl hp (y_ntn (z_v 2) (z_non))
    (ss_cons (t_unp (z_v 2) (g_many ⟨rfl, rfl, rfl⟩ (g_cons (g_one 5 nd) (g_cons (g_one 6 nd) (g_nil))))) <|
    ss_cons (t_if (y_eq hu ⟨rfl, rfl, rfl⟩ (z_v 3) (z_eq hu ⟨rfl, rfl, rfl⟩ (z_v 5) (z_i)))
      (ss_one (t_retV 2))
      (ss_nil)) <|
    ss_cons (t_if (y_in hu ⟨rfl, rfl, rfl⟩ (z_tup (z_aO (z_o (z_v 3)) (z_aO (z_o (z_v 6)) (z_aN)))) (z_v 4))
      (ss_one (t_ret (z_non)))
      (ss_nil)) <|
    ss_cons (t_putk 4 hu ⟨rfl, rfl, rfl⟩ (z_b) (z_tup (z_aO (z_o (z_v 3)) (z_aO (z_o (z_v 6)) (z_aN))))) <|
    ss_cons (t_if (y_e (z_v 3))
      (ss_one (t_set 2 nd (z_o (z_ix hu ⟨rfl, rfl, rfl⟩ (z_ix hu ⟨rfl, rfl, rfl⟩ (z_v 0) (z_i)) (z_v 6)))))
      (ss_one (t_set 2 nd (z_o (z_ix hu ⟨rfl, rfl, rfl⟩ (z_ix hu ⟨rfl, rfl, rfl⟩ (z_v 1) (z_i)) (z_v 6)))))) <|
    ss_one (t_set 3 nd (z_not (z_v 3))))) <|
  ss_one (t_ret (z_non))
theorem sc_p_behind : FnScope ["one", "other", "fore", "aft", "thing"] ["one", "other"] (defScope st_p_behind) := ⟨rfl, rfl, rfl, by decide +kernel, rfl, by decide +kernel, by decide +kernel⟩
theorem ok_p_behind (T : Tx K mg cE) : DefOk P w K mg base ⟨P, w, K, cE, fun _ => none, none, none, none, fun _ => none⟩ 2 "behind" ["one", "other"] 2 h_p_behind :=
  di_def _ T.d_p_behind sc_p_behind 2 rfl 5 rfl b_p_behind fun f cdv A outer s H E hr tk hp => by
  have hu := hu70 hr
  have nd := sc_p_behind.nd
  exact ss_cons (t_lc 2 [("thing", 4)] nd (i_seq ⟨rfl, rfl, rfl⟩ (z_ix hu ⟨rfl, rfl, rfl⟩ (z_v 0) (z_i))) (fun _ _ _ _ _ => g_one 4 nd) (fun _ _ _ _ _ => sts_nil) (fun _ _ _ _ _ => z_call' (ok_p_followed T) (hr.mono (by decide)) takes0 (z_aC (z_v 0) (z_aC (z_v 1) (z_aC (z_v 4) (z_aC (z_b) (z_aN))))) (len_aC (len_aC (len_aC (len_aC (len_aN))))))) <|
  ss_cons (t_lc 3 [("thing", 4)] nd (i_seq ⟨rfl, rfl, rfl⟩ (z_ix hu ⟨rfl, rfl, rfl⟩ (z_v 1) (z_i))) (fun _ _ _ _ _ => g_one 4 nd) (fun _ _ _ _ _ => sts_nil) (fun _ _ _ _ _ => z_call' (ok_p_followed T) (hr.mono (by decide)) takes0 (z_aC (z_v 0) (z_aC (z_v 1) (z_aC (z_v 4) (z_aC (z_b) (z_aN))))) (len_aC (len_aC (len_aC (len_aC (len_aN))))))) <|
  ss_one (t_ret (z_tup (z_aO (z_tuple ⟨rfl, rfl, rfl⟩ (z_aC (z_v 2) (z_aN)) T.b_tuple) (z_aO (z_tuple ⟨rfl, rfl, rfl⟩ (z_aC (z_v 3) (z_aN)) T.b_tuple) (z_aN)))))
theorem sc_p_all_tables : FnScope ["machine", "steps", "found", "met", "at", "strip", "table", "sign", "step", "fresh"] ["machine"] (defScope st_p_all_tables) := ⟨rfl, rfl, rfl, by decide +kernel, rfl, by decide +kernel, by decide +kernel⟩
theorem ok_p_all_tables (T : Tx K mg cE) : DefOk P w K mg base ⟨P, w, K, cE, fun _ => none, none, none, none, fun _ => none⟩ 6 "all_tables" ["machine"] 1 h_p_all_tables :=
  di_def _ T.d_p_all_tables sc_p_all_tables 1 rfl 10 rfl b_p_all_tables fun f cdv A outer s H E hr tk hp => by
  have hu := hu70 hr
  have nd := sc_p_all_tables.nd
  exact ss_cons (t_lc 1 [("sign", 7)] nd (i_seq ⟨rfl, rfl, rfl⟩ (z_sl ⟨rfl, rfl, rfl⟩ (z_gs T.c_SIGNS_tables.choose_spec) z_pn (z_pe (z_call' (ok_p_signs_of T) (hr.mono (by decide)) tk (z_aC (z_v 0) (z_aN)) (len_aC (len_aN)))))) (fun _ _ _ _ _ => g_one 7 nd) (fun _ _ _ _ _ => sts_nil) (fun _ _ _ _ _ => z_tup (z_aO (z_o (z_v 7)) (z_aO (z_call' (ok_p_sign_table T) (hr.mono (by decide)) takes0 (z_aC (z_v 0) (z_aC (z_v 7) (z_aN))) (len_aC (len_aC (len_aN)))) (z_aN))))) <|
  ss_cons (t_set 2 nd (z_lst (z_aO (z_tup (z_aO (z_s) (z_aO (z_call' (ok_p_still T) (hr.mono (by decide)) tk (z_aC (z_len ⟨rfl, rfl, rfl⟩ (z_aC (z_v 0) (z_aN)) T.b_len) (z_aN)) (len_aC (len_aN))) (z_aN)))) (z_aN)))) <|
  ss_cons (t_set 3 nd (z_dN1 hu ⟨rfl, rfl, rfl⟩ (z_ix hu ⟨rfl, rfl, rfl⟩ (z_ix hu ⟨rfl, rfl, rfl⟩ (z_v 2) (z_i)) (z_i)) (z_b))) <|
  ss_cons (t_set 4 nd (z_i)) <|
  ss_fz (i := 1) <| ss_cons (t_whl hp (y_lt (z_v 4) (z_len ⟨rfl, rfl, rfl⟩ (z_aC (z_v 2) (z_aN)) T.b_len))
    (ss_cons (t_unp (z_ix hu ⟨rfl, rfl, rfl⟩ (z_v 2) (z_v 4)) (g_many ⟨rfl, rfl, rfl⟩ (g_cons (g_one 5 nd) (g_cons (g_one 6 nd) (g_nil))))) <|
    ss_fz (i := 1) <| ss_cons (t_for hp (i_seq ⟨rfl, rfl, rfl⟩ (z_o (z_v 1))) (g_many ⟨rfl, rfl, rfl⟩ (g_cons (g_one 7 nd) (g_cons (g_one 8 nd) (g_nil))))
      (ss_cons (t_set 9 nd (z_call' (ok_p_behind T) (hr.mono (by decide)) tk (z_aC (z_v 6) (z_aC (z_v 8) (z_aN))) (len_aC (len_aC (len_aN))))) <|
      ss_one (t_if (y_nin hu ⟨rfl, rfl, rfl⟩ (z_v 9) (z_v 3))
        (ss_cons (t_if (y_eq hu ⟨rfl, rfl, rfl⟩ (z_len ⟨rfl, rfl, rfl⟩ (z_aC (z_v 2) (z_aN)) T.b_len) (z_gi T.c_MOST_TABLES.choose_spec))
          (ss_one (t_raise0 T.x_TooMany tk))
          (ss_nil)) <|
        ss_cons (t_putk 3 hu ⟨rfl, rfl, rfl⟩ (z_b) (z_v 9)) <|
        ss_fz (i := 9) <| ss_one (t_app 2 ⟨rfl, rfl, rfl⟩ (z_tup (z_aO (z_add ⟨rfl, rfl, rfl⟩ (z_v 5) (z_v 7)) (z_aO (z_o (z_v 9)) (z_aN))))))
        (ss_nil)))) <|
    ss_one (t_set 4 nd (z_add ⟨rfl, rfl, rfl⟩ (z_v 4) (z_i))))) <|
  ss_one (t_retV 2)
theorem sc_l_whole : FnScope ["_law_found"] ["_law_found"] (defScope st_l_whole) := ⟨rfl, rfl, rfl, by decide +kernel, rfl, by decide +kernel, by decide +kernel⟩
theorem ok_l_whole (T : Tx K mg cE) : DefOk P w K mg base ⟨P, w, K, cE, fun _ => none, none, none, none, fun _ => none⟩ 1 "_law_whole" ["_law_found"] 1 h_l_whole :=
  di_def _ T.d_l_whole sc_l_whole 1 rfl 1 rfl b_l_whole fun f cdv A outer s H E hr tk hp => by
  have hu := hu70 hr
  have nd := sc_l_whole.nd
  exact ss_one (t_ret (z_o (z_and (z_isi ⟨rfl, rfl, rfl⟩ .int (z_v 0) T.b_isinstance T.b_int) (z_one (z_not (z_isi ⟨rfl, rfl, rfl⟩ .bool (z_v 0) T.b_isinstance T.b_bool))))))
theorem sc_l_is_thing : FnScope ["_law_found", "_law_number"] ["_law_found"] (defScope st_l_is_thing) := ⟨rfl, rfl, rfl, by decide +kernel, rfl, by decide +kernel, by decide +kernel⟩
theorem ok_l_is_thing (T : Tx K mg cE) : DefOk P w K mg base ⟨P, w, K, cE, fun _ => none, none, none, none, fun _ => none⟩ 2 "_law_is_thing" ["_law_found"] 1 h_l_is_thing :=
  di_def _ T.d_l_is_thing sc_l_is_thing 1 rfl 2 rfl b_l_is_thing fun f cdv A outer s H E hr tk hp => by
  have hu := hu70 hr
  have nd := sc_l_is_thing.nd
  exact ss_cons (t_if (y_isn (z_v 0) (z_non))
    (ss_one (t_ret (z_b)))
    (ss_nil)) <|
  ss_one (t_ret (z_o (z_and (z_isi ⟨rfl, rfl, rfl⟩ .tuple (z_v 0) T.b_isinstance T.b_tuple) (z_and (z_eq hu ⟨rfl, rfl, rfl⟩ (z_len ⟨rfl, rfl, rfl⟩ (z_aC (z_v 0) (z_aN)) T.b_len) (z_i)) (z_one (z_all rfl ⟨rfl, rfl, rfl⟩ (z_aC (z_comp [("_law_number", 1)] nd (i_seq ⟨rfl, rfl, rfl⟩ (z_v 0)) (fun _ _ _ _ _ => g_one 1 nd) (fun _ _ _ _ _ => sts_nil) (fun _ _ _ _ _ => z_call' (ok_l_whole T) (hr.mono (by decide)) takes0 (z_aC (z_v 1) (z_aN)) (len_aC (len_aN)))) (z_aN)) T.b_all))))))
theorem sc_l_is_table : FnScope ["_law_found", "_law_due", "_law_things", "_law_thing"] ["_law_found", "_law_due"] (defScope st_l_is_table) := ⟨rfl, rfl, rfl, by decide +kernel, rfl, by decide +kernel, by decide +kernel⟩
theorem ok_l_is_table (T : Tx K mg cE) : DefOk P w K mg base ⟨P, w, K, cE, fun _ => none, none, none, none, fun _ => none⟩ 3 "_law_is_table" ["_law_found", "_law_due"] 2 h_l_is_table :=
  di_def _ T.d_l_is_table sc_l_is_table 2 rfl 4 rfl b_l_is_table fun f cdv A outer s H E hr tk hp => by
  have hu := hu70 hr
  have nd := sc_l_is_table.nd
  exact ss_cons (t_if (y_w (w_or (y_not (y_e (z_isi ⟨rfl, rfl, rfl⟩ .tuple (z_v 0) T.b_isinstance T.b_tuple))) (w_or (y_ne hu ⟨rfl, rfl, rfl⟩ (z_len ⟨rfl, rfl, rfl⟩ (z_aC (z_v 0) (z_aN)) T.b_len) (z_i)) (w_or1 (y_ne hu ⟨rfl, rfl, rfl⟩ (z_v 0) (z_v 1))))))
    (ss_one (t_ret (z_b)))
    (ss_nil)) <|
  ss_cons (t_for hp (i_seq ⟨rfl, rfl, rfl⟩ (z_o (z_v 0))) (g_one 2 nd)
    (ss_one (t_if (y_w (w_or (y_not (y_e (z_isi ⟨rfl, rfl, rfl⟩ .tuple (z_v 2) T.b_isinstance T.b_tuple))) (w_or1 (y_not (y_e (z_all rfl ⟨rfl, rfl, rfl⟩ (z_aC (z_comp [("_law_thing", 3)] nd (i_seq ⟨rfl, rfl, rfl⟩ (z_v 2)) (fun _ _ _ _ _ => g_one 3 nd) (fun _ _ _ _ _ => sts_nil) (fun _ _ _ _ _ => z_call' (ok_l_is_thing T) (hr.mono (by decide)) takes0 (z_aC (z_v 3) (z_aN)) (len_aC (len_aN)))) (z_aN)) T.b_all))))))
      (ss_one (t_ret (z_b)))
      (ss_nil)))) <|
  ss_one (t_ret (z_b))
theorem sc_l_cell : FnScope ["_law_script", "_law_k", "_law_cell_here", "_law_mixed"] ["_law_script", "_law_k"] (defScope st_l_cell) := ⟨rfl, rfl, rfl, by decide +kernel, rfl, by decide +kernel, by decide +kernel⟩
theorem ok_l_cell (T : Tx K mg cE) : DefOk P w K mg base ⟨P, w, K, cE, fun _ => none, none, none, none, fun _ => none⟩ 1 "_law_cell" ["_law_script", "_law_k"] 2 h_l_cell :=
  di_def _ T.d_l_cell sc_l_cell 2 rfl 4 rfl b_l_cell fun f cdv A outer s H E hr tk hp => by
  have hu := hu70 hr
  have nd := sc_l_cell.nd
  exact ss_cons (t_set 2 nd (z_i)) <|
  ss_cons (t_if (y_gt (z_len ⟨rfl, rfl, rfl⟩ (z_aC (z_v 0) (z_aN)) T.b_len) (z_i))
    (ss_one (t_set 2 nd (z_o (z_ix hu ⟨rfl, rfl, rfl⟩ (z_v 0) (z_mod (z_v 1) (z_len ⟨rfl, rfl, rfl⟩ (z_aC (z_v 0) (z_aN)) T.b_len))))))
    (ss_nil)) <|
  ss_cons (t_set 3 nd (z_mod (z_mul (z_add ⟨rfl, rfl, rfl⟩ (z_add ⟨rfl, rfl, rfl⟩ (z_mod (z_v 2) (z_i)) (z_mul (z_i) (z_v 1))) (z_i)) (z_i)) (z_i))) <|
  ss_one (t_ret (z_add ⟨rfl, rfl, rfl⟩ (z_mul (z_fdiv (z_v 2) (z_i)) (z_i)) (z_mod (z_add ⟨rfl, rfl, rfl⟩ (z_mul (z_v 3) (z_i)) (z_mul (z_i) (z_v 1))) (z_i))))
theorem sc_l_end : FnScope ["_law_number", "_law_rooms"] ["_law_number", "_law_rooms"] (defScope st_l_end) := ⟨rfl, rfl, rfl, by decide +kernel, rfl, by decide +kernel, by decide +kernel⟩
theorem ok_l_end (T : Tx K mg cE) : DefOk P w K mg base ⟨P, w, K, cE, fun _ => none, none, none, none, fun _ => none⟩ 1 "_law_end" ["_law_number", "_law_rooms"] 2 h_l_end :=
  di_def _ T.d_l_end sc_l_end 2 rfl 2 rfl b_l_end fun f cdv A outer s H E hr tk hp => by
  have hu := hu70 hr
  have nd := sc_l_end.nd
  exact ss_cons (t_if (y_eq hu ⟨rfl, rfl, rfl⟩ (z_mod (z_v 0) (z_i)) (z_i))
    (ss_one (t_ret (z_o (z_ix hu ⟨rfl, rfl, rfl⟩ (z_lst (z_aO (z_s) (z_aO (z_s) (z_aN)))) (z_mod (z_fdiv (z_v 0) (z_i)) (z_i))))))
    (ss_nil)) <|
  ss_one (t_ret (z_mod (z_fdiv (z_v 0) (z_i)) (z_v 1)))
theorem sc_l_digit_row : FnScope ["_law_number", "_law_rooms", "_law_signs", "_law_left", "_law_cells", "_law_k", "_law_ends", "_law_end_here"] ["_law_number", "_law_rooms", "_law_signs"] (defScope st_l_digit_row) := ⟨rfl, rfl, rfl, by decide +kernel, rfl, by decide +kernel, by decide +kernel⟩
theorem ok_l_digit_row (T : Tx K mg cE) : DefOk P w K mg base ⟨P, w, K, cE, fun _ => none, none, none, none, fun _ => none⟩ 1 "_law_digit_row" ["_law_number", "_law_rooms", "_law_signs"] 3 h_l_digit_row :=
  di_def _ T.d_l_digit_row sc_l_digit_row 3 rfl 8 rfl b_l_digit_row fun f cdv A outer s H E hr tk hp => by
  have hu := hu70 hr
  have nd := sc_l_digit_row.nd
  exact ss_cons (t_set 3 nd (z_mod (z_v 0) (z_add ⟨rfl, rfl, rfl⟩ (z_v 1) (z_i)))) <|
  ss_cons (t_set 0 nd (z_fdiv (z_v 0) (z_add ⟨rfl, rfl, rfl⟩ (z_v 1) (z_i)))) <|
  ss_cons (t_set 4 nd (z_lst (z_aN))) <|
  ss_cons (t_for hp (i_r1 (z_aC (z_v 2) (z_aN)) T.b_range) (g_one 5 nd)
    (ss_cons (t_app 4 ⟨rfl, rfl, rfl⟩ (z_tup (z_aO (z_mod (z_fdiv (z_v 0) (z_i)) (z_v 1)) (z_aO (z_sub (z_i) (z_mul (z_mod (z_v 0) (z_i)) (z_i))) (z_aN))))) <|
    ss_one (t_set 0 nd (z_fdiv (z_v 0) (z_mul (z_i) (z_v 1)))))) <|
  ss_cons (t_set 6 nd (z_lst (z_aO (z_o (z_v 3)) (z_aO (z_mod (z_v 0) (z_add ⟨rfl, rfl, rfl⟩ (z_v 1) (z_i))) (z_aN))))) <|
  ss_cons (t_lc 6 [("_law_end_here", 7)] nd (i_seq ⟨rfl, rfl, rfl⟩ (z_v 6)) (fun _ _ _ _ _ => g_one 7 nd) (fun _ _ _ _ _ => sts_nil) (fun _ _ _ _ _ => z_o (z_if (y_ge (z_v 7) (z_v 1)) (z_ix hu ⟨rfl, rfl, rfl⟩ (z_lst (z_aO (z_s) (z_aO (z_s) (z_aN)))) (z_sub (z_v 7) (z_v 1))) (z_v 7)))) <|
  ss_one (t_ret (z_tup (z_aO (z_o (z_ix hu ⟨rfl, rfl, rfl⟩ (z_v 6) (z_i))) (z_aO (z_tuple ⟨rfl, rfl, rfl⟩ (z_aC (z_v 4) (z_aN)) T.b_tuple) (z_aO (z_o (z_ix hu ⟨rfl, rfl, rfl⟩ (z_v 6) (z_i))) (z_aN))))))
theorem sc_l_mixed_row : FnScope ["_law_number", "_law_rooms", "_law_signs", "_law_pieces", "_law_k", "_law_cells", "_law_piece"] ["_law_number", "_law_rooms", "_law_signs"] (defScope st_l_mixed_row) := ⟨rfl, rfl, rfl, by decide +kernel, rfl, by decide +kernel, by decide +kernel⟩
theorem ok_l_mixed_row (T : Tx K mg cE) : DefOk P w K mg base ⟨P, w, K, cE, fun _ => none, none, none, none, fun _ => none⟩ 2 "_law_mixed_row" ["_law_number", "_law_rooms", "_law_signs"] 3 h_l_mixed_row :=
  di_def _ T.d_l_mixed_row sc_l_mixed_row 3 rfl 7 rfl b_l_mixed_row fun f cdv A outer s H E hr tk hp => by
  have hu := hu70 hr
  have nd := sc_l_mixed_row.nd
  exact ss_cons (t_set 3 nd (z_lst (z_aN))) <|
  ss_cons (t_for hp (i_r1 (z_aC (z_add ⟨rfl, rfl, rfl⟩ (z_v 2) (z_i)) (z_aN)) T.b_range) (g_one 4 nd)
    (ss_cons (t_set 0 nd (z_mod (z_add ⟨rfl, rfl, rfl⟩ (z_mul (z_v 0) (z_i)) (z_i)) (z_i))) <|
    ss_one (t_app 3 ⟨rfl, rfl, rfl⟩ (z_fdiv (z_v 0) (z_i))))) <|
  ss_cons (t_set 5 nd (z_tuple ⟨rfl, rfl, rfl⟩ (z_aC (z_comp [("_law_piece", 6)] nd (i_seq ⟨rfl, rfl, rfl⟩ (z_sl ⟨rfl, rfl, rfl⟩ (z_v 3) (z_pe (z_i)) z_pn)) (fun _ _ _ _ _ => g_one 6 nd) (fun _ _ _ _ _ => sts_nil) (fun _ _ _ _ _ => z_tup (z_aO (z_mod (z_v 6) (z_v 1)) (z_aO (z_sub (z_i) (z_mul (z_fdiv (z_mod (z_fdiv (z_v 6) (z_i)) (z_i)) (z_i)) (z_i))) (z_aN))))) (z_aN)) T.b_tuple)) <|
  ss_one (t_ret (z_tup (z_aO (z_call' (ok_l_end T) (hr.mono (by decide)) tk (z_aC (z_ix hu ⟨rfl, rfl, rfl⟩ (z_v 3) (z_i)) (z_aC (z_v 1) (z_aN))) (len_aC (len_aC (len_aN)))) (z_aO (z_o (z_v 5)) (z_aO (z_call' (ok_l_end T) (hr.mono (by decide)) tk (z_aC (z_ix hu ⟨rfl, rfl, rfl⟩ (z_v 3) (z_i)) (z_aC (z_v 1) (z_aN))) (len_aC (len_aC (len_aN)))) (z_aN))))))
theorem sc_l_machine : FnScope ["_law_script", "_law_at", "_law_rooms", "_law_signs", "_law_rows", "_law_room", "_law_row"] ["_law_script", "_law_at", "_law_rooms", "_law_signs"] (defScope st_l_machine) := ⟨rfl, rfl, rfl, by decide +kernel, rfl, by decide +kernel, by decide +kernel⟩
theorem ok_l_machine (T : Tx K mg cE) : DefOk P w K mg base ⟨P, w, K, cE, fun _ => none, none, none, none, fun _ => none⟩ 3 "_law_machine" ["_law_script", "_law_at", "_law_rooms", "_law_signs"] 4 h_l_machine :=
  di_def _ T.d_l_machine sc_l_machine 4 rfl 7 rfl b_l_machine fun f cdv A outer s H E hr tk hp => by
  have hu := hu70 hr
  have nd := sc_l_machine.nd
  exact ss_cons (t_set 4 nd (z_lst (z_aN))) <|
  ss_cons (t_for hp (i_r1 (z_aC (z_v 2) (z_aN)) T.b_range) (g_one 5 nd)
    (ss_one (t_if (y_w (w_and (y_lt (z_add ⟨rfl, rfl, rfl⟩ (z_v 1) (z_v 5)) (z_len ⟨rfl, rfl, rfl⟩ (z_aC (z_v 0) (z_aN)) T.b_len)) (w_and1 (y_eq hu ⟨rfl, rfl, rfl⟩ (z_mod (z_ix hu ⟨rfl, rfl, rfl⟩ (z_v 0) (z_i)) (z_i)) (z_i)))))
      (ss_one (t_app 4 ⟨rfl, rfl, rfl⟩ (z_call' (ok_l_digit_row T) (hr.mono (by decide)) tk (z_aC (z_ix hu ⟨rfl, rfl, rfl⟩ (z_v 0) (z_add ⟨rfl, rfl, rfl⟩ (z_v 1) (z_v 5))) (z_aC (z_v 2) (z_aC (z_v 3) (z_aN)))) (len_aC (len_aC (len_aC (len_aN)))))))
      (ss_cons (t_set 6 nd (z_call' (ok_l_mixed_row T) (hr.mono (by decide)) tk (z_aC (z_mod (z_call' (ok_l_cell T) (hr.mono (by decide)) tk (z_aC (z_v 0) (z_aC (z_add ⟨rfl, rfl, rfl⟩ (z_v 1) (z_v 5)) (z_aN))) (len_aC (len_aC (len_aN)))) (z_i)) (z_aC (z_v 2) (z_aC (z_v 3) (z_aN)))) (len_aC (len_aC (len_aC (len_aN)))))) <|
      ss_cons (t_if (y_w (w_and (y_eq hu ⟨rfl, rfl, rfl⟩ (z_v 5) (z_i)) (w_and (y_e (z_isi ⟨rfl, rfl, rfl⟩ .str (z_ix hu ⟨rfl, rfl, rfl⟩ (z_v 6) (z_i)) T.b_isinstance T.b_str)) (w_and1 (y_gt (z_mod (z_fdiv (z_call' (ok_l_cell T) (hr.mono (by decide)) tk (z_aC (z_v 0) (z_aC (z_v 1) (z_aN))) (len_aC (len_aC (len_aN)))) (z_i)) (z_i)) (z_i))))))
        (ss_one (t_set 6 nd (z_add ⟨rfl, rfl, rfl⟩ (z_tup (z_aO (z_mod (z_fdiv (z_call' (ok_l_cell T) (hr.mono (by decide)) tk (z_aC (z_v 0) (z_aC (z_v 1) (z_aN))) (len_aC (len_aC (len_aN)))) (z_i)) (z_v 2)) (z_aN))) (z_sl ⟨rfl, rfl, rfl⟩ (z_v 6) (z_pe (z_i)) z_pn))))
        (ss_nil)) <|
      ss_fz (i := 6) <| ss_one (t_app 4 ⟨rfl, rfl, rfl⟩ (z_o (z_v 6))))))) <|
  ss_one (t_ret (z_tuple ⟨rfl, rfl, rfl⟩ (z_aC (z_v 4) (z_aN)) T.b_tuple))
theorem sc_l_within : FnScope ["_law_machine_here", "_law_strip", "_law_place", "_law_room", "_law_met", "_law_step"] ["_law_machine_here", "_law_strip", "_law_place", "_law_room"] (defScope st_l_within) := ⟨rfl, rfl, rfl, by decide +kernel, rfl, by decide +kernel, by decide +kernel⟩
theorem ok_l_within (T : Tx K mg cE) : DefOk P w K mg base ⟨P, w, K, cE, fun _ => none, none, none, none, fun _ => none⟩ 1 "_law_within" ["_law_machine_here", "_law_strip", "_law_place", "_law_room"] 4 h_l_within :=
  di_def _ T.d_l_within sc_l_within 4 rfl 6 rfl b_l_within fun f cdv A outer s H E hr tk hp => by
  have hu := hu70 hr
  have nd := sc_l_within.nd
  exact ss_cons (t_set 4 nd (z_d0)) <|
  ss_cons (t_whl hp (y_ltle (z_i) (z_v 2) (z_len ⟨rfl, rfl, rfl⟩ (z_aC (z_v 1) (z_aN)) T.b_len))
    (ss_cons (t_if (y_in hu ⟨rfl, rfl, rfl⟩ (z_tup (z_aO (z_o (z_v 2)) (z_aO (z_o (z_v 3)) (z_aN)))) (z_v 4))
      (ss_one (t_ret (z_non)))
      (ss_nil)) <|
    ss_cons (t_putk 4 hu ⟨rfl, rfl, rfl⟩ (z_b) (z_tup (z_aO (z_o (z_v 2)) (z_aO (z_o (z_v 3)) (z_aN))))) <|
    ss_cons (t_unp (z_ix hu ⟨rfl, rfl, rfl⟩ (z_ix hu ⟨rfl, rfl, rfl⟩ (z_ix hu ⟨rfl, rfl, rfl⟩ (z_v 0) (z_v 3)) (z_i)) (z_sindex (z_s) (z_aC (z_ix hu ⟨rfl, rfl, rfl⟩ (z_v 1) (z_sub (z_v 2) (z_i))) (z_aN)))) (g_many ⟨rfl, rfl, rfl⟩ (g_cons (g_one 3 nd) (g_cons (g_one 5 nd) (g_nil))))) <|
    ss_one (t_set 2 nd (z_add ⟨rfl, rfl, rfl⟩ (z_v 2) (z_v 5))))) <|
  ss_one (t_ret (z_tup (z_aO (z_o (z_ix hu ⟨rfl, rfl, rfl⟩ (z_lst (z_aO (z_neg (z_i)) (z_aO (z_i) (z_aN)))) (z_int (z_aC (z_gt (z_v 2) (z_i)) (z_aN)) T.b_int))) (z_aO (z_o (z_v 3)) (z_aN)))))
theorem sc_l_table : FnScope ["_law_machine_here", "_law_strip", "_law_rooms", "_law_fore", "_law_aft", "_law_room"] ["_law_machine_here", "_law_strip"] (defScope st_l_table) := ⟨rfl, rfl, rfl, by decide +kernel, rfl, by decide +kernel, by decide +kernel⟩
theorem ok_l_table (T : Tx K mg cE) : DefOk P w K mg base ⟨P, w, K, cE, fun _ => none, none, none, none, fun _ => none⟩ 2 "_law_table" ["_law_machine_here", "_law_strip"] 2 h_l_table :=
  di_def _ T.d_l_table sc_l_table 2 rfl 6 rfl b_l_table fun f cdv A outer s H E hr tk hp => by
  have hu := hu70 hr
  have nd := sc_l_table.nd
  exact ss_cons (t_set 2 nd (z_lrg (z_len ⟨rfl, rfl, rfl⟩ (z_aC (z_v 0) (z_aN)) T.b_len) T.b_list T.b_range)) <|
  ss_cons (t_lc 3 [("_law_room", 5)] nd (i_seq ⟨rfl, rfl, rfl⟩ (z_v 2)) (fun _ _ _ _ _ => g_one 5 nd) (fun _ _ _ _ _ => sts_nil) (fun _ _ _ _ _ => z_call' (ok_l_within T) (hr.mono (by decide)) takes0 (z_aC (z_v 0) (z_aC (z_v 1) (z_aC (z_i) (z_aC (z_v 5) (z_aN))))) (len_aC (len_aC (len_aC (len_aC (len_aN))))))) <|
  ss_cons (t_lc 4 [("_law_room", 5)] nd (i_seq ⟨rfl, rfl, rfl⟩ (z_v 2)) (fun _ _ _ _ _ => g_one 5 nd) (fun _ _ _ _ _ => sts_nil) (fun _ _ _ _ _ => z_call' (ok_l_within T) (hr.mono (by decide)) takes0 (z_aC (z_v 0) (z_aC (z_v 1) (z_aC (z_len ⟨rfl, rfl, rfl⟩ (z_aC (z_v 1) (z_aN)) T.b_len) (z_aC (z_v 5) (z_aN))))) (len_aC (len_aC (len_aC (len_aC (len_aN))))))) <|
  ss_one (t_ret (z_tup (z_aO (z_tuple ⟨rfl, rfl, rfl⟩ (z_aC (z_v 3) (z_aN)) T.b_tuple) (z_aO (z_tuple ⟨rfl, rfl, rfl⟩ (z_aC (z_v 4) (z_aN)) T.b_tuple) (z_aN)))))
theorem sc_l_out : FnScope ["_law_tables", "_law_at", "_law_way", "_law_room", "_law_met", "_law_thing"] ["_law_tables", "_law_at", "_law_way", "_law_room"] (defScope st_l_out) := ⟨rfl, rfl, rfl, by decide +kernel, rfl, by decide +kernel, by decide +kernel⟩
theorem ok_l_out (T : Tx K mg cE) : DefOk P w K mg base ⟨P, w, K, cE, fun _ => none, none, none, none, fun _ => none⟩ 1 "_law_out" ["_law_tables", "_law_at", "_law_way", "_law_room"] 4 h_l_out :=
  di_def _ T.d_l_out sc_l_out 4 rfl 6 rfl b_l_out fun f cdv A outer s H E hr tk hp => by
  have hu := hu70 hr
  have nd := sc_l_out.nd
  exact ss_cons (t_set 4 nd (z_d0)) <|
  ss_cons (t_whl hp (y_lelt (z_i) (z_v 1) (z_len ⟨rfl, rfl, rfl⟩ (z_aC (z_v 0) (z_aN)) T.b_len))
    (ss_cons (t_if (y_in hu ⟨rfl, rfl, rfl⟩ (z_tup (z_aO (z_o (z_v 1)) (z_aO (z_o (z_v 2)) (z_aO (z_o (z_v 3)) (z_aN))))) (z_v 4))
      (ss_one (t_ret (z_non)))
      (ss_nil)) <|
    ss_cons (t_putk 4 hu ⟨rfl, rfl, rfl⟩ (z_b) (z_tup (z_aO (z_o (z_v 1)) (z_aO (z_o (z_v 2)) (z_aO (z_o (z_v 3)) (z_aN)))))) <|
    ss_cons (t_set 5 nd (z_o (z_ix hu ⟨rfl, rfl, rfl⟩ (z_ix hu ⟨rfl, rfl, rfl⟩ (z_ix hu ⟨rfl, rfl, rfl⟩ (z_v 0) (z_v 1)) (z_int (z_aC (z_lt (z_v 2) (z_i)) (z_aN)) T.b_int)) (z_v 3)))) <|
    ss_cons (t_if (y_isn (z_v 5) (z_non))
      (ss_one (t_ret (z_non)))
      (ss_nil)) <|
    ss_cons (t_unp (z_v 5) (g_many ⟨rfl, rfl, rfl⟩ (g_cons (g_one 2 nd) (g_cons (g_one 3 nd) (g_nil))))) <|
    ss_one (t_set 1 nd (z_add ⟨rfl, rfl, rfl⟩ (z_v 1) (z_v 2))))) <|
  ss_one (t_ret (z_tup (z_aO (z_o (z_v 2)) (z_aO (z_o (z_v 3)) (z_aN)))))
theorem sc_l_boxes : FnScope ["_law_tables", "_law_rooms", "_law_fore", "_law_aft", "_law_room"] ["_law_tables", "_law_rooms"] (defScope st_l_boxes) := ⟨rfl, rfl, rfl, by decide +kernel, rfl, by decide +kernel, by decide +kernel⟩
theorem ok_l_boxes (T : Tx K mg cE) : DefOk P w K mg base ⟨P, w, K, cE, fun _ => none, none, none, none, fun _ => none⟩ 2 "_law_boxes" ["_law_tables", "_law_rooms"] 2 h_l_boxes :=
  di_def _ T.d_l_boxes sc_l_boxes 2 rfl 5 rfl b_l_boxes fun f cdv A outer s H E hr tk hp => by
  have hu := hu70 hr
  have nd := sc_l_boxes.nd
  exact ss_cons (t_lc 2 [("_law_room", 4)] nd (i_r1 (z_aC (z_v 1) (z_aN)) T.b_range) (fun _ _ _ _ _ => g_one 4 nd) (fun _ _ _ _ _ => sts_nil) (fun _ _ _ _ _ => z_call' (ok_l_out T) (hr.mono (by decide)) takes0 (z_aC (z_v 0) (z_aC (z_i) (z_aC (z_i) (z_aC (z_v 4) (z_aN))))) (len_aC (len_aC (len_aC (len_aC (len_aN))))))) <|
  ss_cons (t_lc 3 [("_law_room", 4)] nd (i_r1 (z_aC (z_v 1) (z_aN)) T.b_range) (fun _ _ _ _ _ => g_one 4 nd) (fun _ _ _ _ _ => sts_nil) (fun _ _ _ _ _ => z_call' (ok_l_out T) (hr.mono (by decide)) takes0 (z_aC (z_v 0) (z_aC (z_sub (z_len ⟨rfl, rfl, rfl⟩ (z_aC (z_v 0) (z_aN)) T.b_len) (z_i)) (z_aC (z_neg (z_i)) (z_aC (z_v 4) (z_aN))))) (len_aC (len_aC (len_aC (len_aC (len_aN))))))) <|
  ss_one (t_ret (z_tup (z_aO (z_tuple ⟨rfl, rfl, rfl⟩ (z_aC (z_v 2) (z_aN)) T.b_tuple) (z_aO (z_tuple ⟨rfl, rfl, rfl⟩ (z_aC (z_v 3) (z_aN)) T.b_tuple) (z_aN)))))
theorem sc_l_counted : FnScope ["_law_machine_here", "_law_signs", "_law_most", "_law_ones", "_law_waiting", "_law_met", "_law_at", "_law_one", "_law_fresh", "_law_sign"] ["_law_machine_here", "_law_signs", "_law_most"] (defScope st_l_counted) := ⟨rfl, rfl, rfl, by decide +kernel, rfl, by decide +kernel, by decide +kernel⟩
theorem ok_l_counted (T : Tx K mg cE) : DefOk P w K mg base ⟨P, w, K, cE, fun _ => none, none, none, none, fun _ => none⟩ 3 "_law_counted" ["_law_machine_here", "_law_signs", "_law_most"] 3 h_l_counted :=
  di_def _ T.d_l_counted sc_l_counted 3 rfl 10 rfl b_l_counted fun f cdv A outer s H E hr tk hp => by
  have hu := hu70 hr
  have nd := sc_l_counted.nd
  exact ss_cons (t_lc 3 [("_law_sign", 9)] nd (i_seq ⟨rfl, rfl, rfl⟩ (z_sl ⟨rfl, rfl, rfl⟩ (z_s) z_pn (z_pe (z_v 1)))) (fun _ _ _ _ _ => g_one 9 nd) (fun _ _ _ _ _ => sts_nil) (fun _ _ _ _ _ => z_call' (ok_l_table T) (hr.mono (by decide)) takes0 (z_aC (z_v 0) (z_aC (z_v 9) (z_aN))) (len_aC (len_aC (len_aN))))) <|
  ss_cons (t_set 4 nd (z_lst (z_aO (z_call' (ok_l_table T) (hr.mono (by decide)) tk (z_aC (z_v 0) (z_aC (z_s) (z_aN))) (len_aC (len_aC (len_aN)))) (z_aN)))) <|
  ss_cons (t_set 5 nd (z_dN1 hu ⟨rfl, rfl, rfl⟩ (z_ix hu ⟨rfl, rfl, rfl⟩ (z_v 4) (z_i)) (z_b))) <|
  ss_cons (t_set 6 nd (z_i)) <|
  ss_fz (i := 3) <| ss_cons (t_whl hp (y_w (w_and (y_lt (z_v 6) (z_len ⟨rfl, rfl, rfl⟩ (z_aC (z_v 4) (z_aN)) T.b_len)) (w_and1 (y_le (z_len ⟨rfl, rfl, rfl⟩ (z_aC (z_v 4) (z_aN)) T.b_len) (z_v 2)))))
    (ss_fz (i := 3) <| ss_cons (t_for hp (i_seq ⟨rfl, rfl, rfl⟩ (z_o (z_v 3))) (g_one 7 nd)
      (ss_cons (t_set 8 nd (z_call' (ok_l_boxes T) (hr.mono (by decide)) tk (z_aC (z_lst (z_aO (z_o (z_ix hu ⟨rfl, rfl, rfl⟩ (z_v 4) (z_v 6))) (z_aO (z_o (z_v 7)) (z_aN)))) (z_aC (z_len ⟨rfl, rfl, rfl⟩ (z_aC (z_v 0) (z_aN)) T.b_len) (z_aN))) (len_aC (len_aC (len_aN))))) <|
      ss_one (t_if (y_nin hu ⟨rfl, rfl, rfl⟩ (z_v 8) (z_v 5))
        (ss_cons (t_putk 5 hu ⟨rfl, rfl, rfl⟩ (z_b) (z_v 8)) <|
        ss_fz (i := 8) <| ss_one (t_app 4 ⟨rfl, rfl, rfl⟩ (z_o (z_v 8))))
        (ss_nil)))) <|
    ss_one (t_set 6 nd (z_add ⟨rfl, rfl, rfl⟩ (z_v 6) (z_i))))) <|
  ss_one (t_ret (z_len ⟨rfl, rfl, rfl⟩ (z_aC (z_v 4) (z_aN)) T.b_len))
theorem sc_l_asked : FnScope ["_law_machine_here", "_law_found", "_law_refused", "error", "_law_plain"] ["_law_machine_here"] (defScope st_l_asked) := ⟨rfl, rfl, rfl, by decide +kernel, rfl, by decide +kernel, by decide +kernel⟩
theorem ok_l_asked (T : Tx K mg cE) : DefOk P w K mg base ⟨P, w, K, cE, fun _ => none, none, none, none, fun _ => none⟩ 7 "_law_asked" ["_law_machine_here"] 1 h_l_asked :=
  di_def _ T.d_l_asked sc_l_asked 1 rfl 5 rfl b_l_asked fun f cdv A outer s H E hr tk hp => by
  have hu := hu70 hr
  have nd := sc_l_asked.nd
  exact ss_cons (t_set 1 nd (z_non)) <|
  ss_cons (t_set 2 nd (z_b)) <|
  ss_cons (t_try_as 3 (oneOfN [3]) (oneOfN [3]) T.m_TooMany (fun c h => by simp [oneOfN] at h; omega) nd tk
    (fun W' pn xe tk hp => ss_one (t_set 1 nd (z_call' (ok_p_all_tables T) (hr.mono (by decide)) tk (z_aC (z_v 0) (z_aN)) (len_aC (len_aN)))))
    (fun a oe d pn c C ns hcl hk hdn hz hd => by
      have hk' : c = 3 := by simpa [oneOfN] using hk
      rcases hk' with rfl
      · obtain ⟨C2, xa, hce⟩ := T.x_TooMany
        obtain ⟨rfl, rfl⟩ := xc_eq hce hcl
        obtain rfl := hdn rfl
        exact ss_cons (t_set 4 nd (z_o (z_and (z_xX (oneOfN [1, 2, 3, 4]) T.i_WayError hcl (by decide) xa.ec hz hd (fun _ _ => rfl) (z_v 3) T.b_isinstance) (z_one (z_xXv T.v_ValueError hcl (by decide) xa.ec hz hd (fun _ _ => rfl) (z_v 3) T.b_isinstance T.b_ValueError))))) <|
    ss_one (t_set 2 nd (z_o (z_and (z_v 4) (z_one (z_not (z_xX2 (oneOfN [2]) (oneOfN [4]) T.i_NoStrip T.i_NotLike hcl (by decide) xa.ec hz hd (fun _ _ => rfl) (z_v 3) T.b_isinstance))))))
      )) <|
  ss_one (t_retT2 1 2)
theorem sc_l_listed : FnScope ["_law_machine_here", "_law_found", "_law_signs", "_law_ahead", "_law_one", "_law_sign"] ["_law_machine_here", "_law_found", "_law_signs"] (defScope st_l_listed) := ⟨rfl, rfl, rfl, by decide +kernel, rfl, by decide +kernel, by decide +kernel⟩
theorem ok_l_listed (T : Tx K mg cE) : DefOk P w K mg base ⟨P, w, K, cE, fun _ => none, none, none, none, fun _ => none⟩ 4 "_law_listed" ["_law_machine_here", "_law_found", "_law_signs"] 3 h_l_listed :=
  di_def _ T.d_l_listed sc_l_listed 3 rfl 6 rfl b_l_listed fun f cdv A outer s H E hr tk hp => by
  have hu := hu70 hr
  have nd := sc_l_listed.nd
  exact ss_cons (t_set 3 nd (z_non)) <|
  ss_cons (t_for hp (i_seq ⟨rfl, rfl, rfl⟩ (z_o (z_v 1))) (g_one 4 nd)
    (ss_cons (t_if (y_w (w_or (y_not (y_e (z_isi ⟨rfl, rfl, rfl⟩ .tuple (z_v 4) T.b_isinstance T.b_tuple))) (w_or (y_ne hu ⟨rfl, rfl, rfl⟩ (z_len ⟨rfl, rfl, rfl⟩ (z_aC (z_v 4) (z_aN)) T.b_len) (z_i)) (w_or1 (y_not (y_e (z_isi ⟨rfl, rfl, rfl⟩ .str (z_ix hu ⟨rfl, rfl, rfl⟩ (z_v 4) (z_i)) T.b_isinstance T.b_str)))))))
      (ss_one (t_ret (z_b)))
      (ss_nil)) <|
    ss_cons (t_if (y_w (w_or (y_not (y_e (z_all rfl ⟨rfl, rfl, rfl⟩ (z_aC (z_comp [("_law_sign", 5)] nd (i_seq ⟨rfl, rfl, rfl⟩ (z_ix hu ⟨rfl, rfl, rfl⟩ (z_v 4) (z_i))) (fun _ _ _ _ _ => g_one 5 nd) (fun _ _ _ _ _ => sts_nil) (fun _ _ _ _ _ => z_in hu ⟨rfl, rfl, rfl⟩ (z_v 5) (z_sl ⟨rfl, rfl, rfl⟩ (z_s) z_pn (z_pe (z_v 2))))) (z_aN)) T.b_all))) (w_or1 (y_gt (z_len ⟨rfl, rfl, rfl⟩ (z_aC (z_ix hu ⟨rfl, rfl, rfl⟩ (z_v 4) (z_i)) (z_aN)) T.b_len) (z_i)))))
      (ss_one (t_ret (z_b)))
      (ss_nil)) <|
    ss_cons (t_if (y_w (w_and (y_ntn (z_v 3) (z_non)) (w_and1 (y_leO hu ⟨rfl, rfl, rfl⟩ (z_tup (z_aO (z_len ⟨rfl, rfl, rfl⟩ (z_aC (z_ix hu ⟨rfl, rfl, rfl⟩ (z_v 4) (z_i)) (z_aN)) T.b_len) (z_aO (z_o (z_ix hu ⟨rfl, rfl, rfl⟩ (z_v 4) (z_i))) (z_aN)))) (z_v 3)))))
      (ss_one (t_ret (z_b)))
      (ss_nil)) <|
    ss_cons (t_set 3 nd (z_tup (z_aO (z_len ⟨rfl, rfl, rfl⟩ (z_aC (z_ix hu ⟨rfl, rfl, rfl⟩ (z_v 4) (z_i)) (z_aN)) T.b_len) (z_aO (z_o (z_ix hu ⟨rfl, rfl, rfl⟩ (z_v 4) (z_i))) (z_aN))))) <|
    ss_one (t_if (y_not (y_e (z_call' (ok_l_is_table T) (hr.mono (by decide)) tk (z_aC (z_ix hu ⟨rfl, rfl, rfl⟩ (z_v 4) (z_i)) (z_aC (z_call' (ok_l_table T) (hr.mono (by decide)) tk (z_aC (z_v 0) (z_aC (z_ix hu ⟨rfl, rfl, rfl⟩ (z_v 4) (z_i)) (z_aN))) (len_aC (len_aC (len_aN)))) (z_aN))) (len_aC (len_aC (len_aN))))))
      (ss_one (t_ret (z_b)))
      (ss_nil)))) <|
  ss_one (t_ret (z_b))
theorem sc_l_closed : FnScope ["_law_machine_here", "_law_found", "_law_signs", "_law_tables", "_law_strip", "_law_table_here", "_law_ones", "_law_one", "_law_sign"] ["_law_machine_here", "_law_found", "_law_signs"] (defScope st_l_closed) := ⟨rfl, rfl, rfl, by decide +kernel, rfl, by decide +kernel, by decide +kernel⟩
theorem ok_l_closed (T : Tx K mg cE) : DefOk P w K mg base ⟨P, w, K, cE, fun _ => none, none, none, none, fun _ => none⟩ 3 "_law_closed" ["_law_machine_here", "_law_found", "_law_signs"] 3 h_l_closed :=
  di_def _ T.d_l_closed sc_l_closed 3 rfl 9 rfl b_l_closed fun f cdv A outer s H E hr tk hp => by
  have hu := hu70 hr
  have nd := sc_l_closed.nd
  exact ss_cons (t_set 3 nd (z_d0)) <|
  ss_cons (t_for hp (i_seq ⟨rfl, rfl, rfl⟩ (z_o (z_v 1))) (g_many ⟨rfl, rfl, rfl⟩ (g_cons (g_one 4 nd) (g_cons (g_one 5 nd) (g_nil))))
    (ss_one (t_putk 3 hu ⟨rfl, rfl, rfl⟩ (z_b) (z_v 5)))) <|
  ss_cons (t_lc 6 [("_law_sign", 8)] nd (i_seq ⟨rfl, rfl, rfl⟩ (z_sl ⟨rfl, rfl, rfl⟩ (z_s) z_pn (z_pe (z_v 2)))) (fun _ _ _ _ _ => g_one 8 nd) (fun _ _ _ _ _ => sts_nil) (fun _ _ _ _ _ => z_call' (ok_l_table T) (hr.mono (by decide)) takes0 (z_aC (z_v 0) (z_aC (z_v 8) (z_aN))) (len_aC (len_aC (len_aN))))) <|
  ss_fz (i := 6) <| ss_cons (t_for hp (i_seq ⟨rfl, rfl, rfl⟩ (z_ld rfl ⟨rfl, rfl, rfl⟩ (z_aC (z_v 3) (z_aN)) T.b_list)) (g_one 5 nd)
    (ss_fz (i := 6) <| ss_one (t_for hp (i_seq ⟨rfl, rfl, rfl⟩ (z_o (z_v 6))) (g_one 7 nd)
      (ss_cons (t_if (y_nin hu ⟨rfl, rfl, rfl⟩ (z_call' (ok_l_boxes T) (hr.mono (by decide)) tk (z_aC (z_lst (z_aO (z_o (z_v 5)) (z_aO (z_o (z_v 7)) (z_aN)))) (z_aC (z_len ⟨rfl, rfl, rfl⟩ (z_aC (z_v 0) (z_aN)) T.b_len) (z_aN))) (len_aC (len_aC (len_aN)))) (z_v 3))
        (ss_one (t_ret (z_b)))
        (ss_nil)) <|
      ss_one (t_if (y_nin hu ⟨rfl, rfl, rfl⟩ (z_call' (ok_l_boxes T) (hr.mono (by decide)) tk (z_aC (z_lst (z_aO (z_o (z_v 7)) (z_aO (z_o (z_v 5)) (z_aN)))) (z_aC (z_len ⟨rfl, rfl, rfl⟩ (z_aC (z_v 0) (z_aN)) T.b_len) (z_aN))) (len_aC (len_aC (len_aN)))) (z_v 3))
        (ss_one (t_ret (z_b)))
        (ss_nil)))))) <|
  ss_one (t_ret (z_eq hu ⟨rfl, rfl, rfl⟩ (z_len ⟨rfl, rfl, rfl⟩ (z_aC (z_v 3) (z_aN)) T.b_len) (z_len ⟨rfl, rfl, rfl⟩ (z_aC (z_v 1) (z_aN)) T.b_len)))
theorem sc_p_law : FnScope ["_law_script", "_law_first", "_law_rooms", "_law_signs", "_law_machine_here", "_law_many", "_law_found", "_law_refused", "_law_kept"] ["_law_script"] (defScope st_p_law) := ⟨rfl, rfl, rfl, by decide +kernel, rfl, by decide +kernel, by decide +kernel⟩
theorem ok_p_law (T : Tx K mg cE) {f : Addr} {fd : FuncData} (F : Fun K "law" "law" st_p_law f fd) : FnOk P w K mg base (L2.CX P w) 8 f fd ["_law_script"] (spI ⟨P, w, K, cE, fun _ => none, none, none, none, fun _ => none⟩ 1 h_p_law) :=
  di_fn _ F sc_p_law 1 rfl 9 rfl b_p_law rfl rfl fun cdv A outer s H E hr tk hp => by
  have hu := hu70 hr
  have nd := sc_p_law.nd
  exact ss_cons (t_set 1 nd (z_call' (ok_l_cell T) (hr.mono (by decide)) tk (z_aC (z_v 0) (z_aC (z_i) (z_aN))) (len_aC (len_aC (len_aN))))) <|
  ss_cons (t_set 2 nd (z_add ⟨rfl, rfl, rfl⟩ (z_i) (z_mod (z_v 1) (z_i)))) <|
  ss_cons (t_set 3 nd (z_add ⟨rfl, rfl, rfl⟩ (z_i) (z_mod (z_fdiv (z_v 1) (z_i)) (z_i)))) <|
  ss_cons (t_set 4 nd (z_call' (ok_l_machine T) (hr.mono (by decide)) tk (z_aC (z_v 0) (z_aC (z_i) (z_aC (z_v 2) (z_aC (z_v 3) (z_aN))))) (len_aC (len_aC (len_aC (len_aC (len_aN))))))) <|
  ss_cons (t_set 5 nd (z_call' (ok_l_counted T) (hr.mono (by decide)) tk (z_aC (z_v 4) (z_aC (z_v 3) (z_aC (z_i) (z_aN)))) (len_aC (len_aC (len_aC (len_aN)))))) <|
  ss_cons (t_unpT2 6 7 ⟨rfl, rfl, rfl⟩ nd (z_call' (ok_l_asked T) (hr.mono (by decide)) tk (z_aC (z_v 4) (z_aN)) (len_aC (len_aN)))) <|
  ss_cons (t_if (y_gt (z_v 5) (z_i))
    (ss_one (t_ret (z_o (z_and (z_isn (z_v 6) (z_non)) (z_one (z_v 7))))))
    (ss_nil)) <|
  ss_cons (t_if (y_w (w_or (y_not (y_e (z_isi ⟨rfl, rfl, rfl⟩ .list (z_v 6) T.b_isinstance T.b_list))) (w_or (y_ne hu ⟨rfl, rfl, rfl⟩ (z_len ⟨rfl, rfl, rfl⟩ (z_aC (z_v 6) (z_aN)) T.b_len) (z_v 5)) (w_or1 (y_ne hu ⟨rfl, rfl, rfl⟩ (z_ix hu ⟨rfl, rfl, rfl⟩ (z_ix hu ⟨rfl, rfl, rfl⟩ (z_v 6) (z_i)) (z_i)) (z_s))))))
    (ss_one (t_ret (z_b)))
    (ss_nil)) <|
  ss_cons (t_if (y_w (w_or (y_not (y_e (z_call' (ok_l_listed T) (hr.mono (by decide)) tk (z_aC (z_v 4) (z_aC (z_v 6) (z_aC (z_v 3) (z_aN)))) (len_aC (len_aC (len_aC (len_aN))))))) (w_or1 (y_not (y_e (z_call' (ok_l_closed T) (hr.mono (by decide)) tk (z_aC (z_v 4) (z_aC (z_v 6) (z_aC (z_v 3) (z_aN)))) (len_aC (len_aC (len_aC (len_aN))))))))))
    (ss_one (t_ret (z_b)))
    (ss_nil)) <|
  ss_cons (t_set 8 nd (z_li rfl ⟨rfl, rfl, rfl⟩ (z_aC (z_v 6) (z_aN)) T.b_list)) <|
  ss_cons (t_popN 6) <|
  ss_one (t_ret (z_eq hu ⟨rfl, rfl, rfl⟩ (z_call' (ok_p_all_tables T) (hr.mono (by decide)) tk (z_aC (z_v 4) (z_aN)) (len_aC (len_aN))) (z_v 8)))
end
set_option maxHeartbeats 4000000 in
theorem all_mk {l : PySem.W.OpenLaw} {w : World} {K : PySem.W.Frag} {h : Heap} {mg : Str → Option Value} {fa : Addr} (X : K.In h) (G : h.Ns mainGlobals mg) (hfa : mg "law" = some (.ref fa)) (hlaw : ∀ ns : List Int, ns.length ≤ 63 → h_p_law [.lst false (ns.map D.int)] = .ok (.bl true))
    {C_WayError : Addr}
    (g_WayError : PySem.W.nsIn K mainGlobals "WayError" = some (some (.ref C_WayError)))
    {C_NoStrip : Addr}
    (g_NoStrip : PySem.W.nsIn K mainGlobals "NoStrip" = some (some (.ref C_NoStrip)))
    {C_TooMany : Addr}
    (g_TooMany : PySem.W.nsIn K mainGlobals "TooMany" = some (some (.ref C_TooMany)))
    {C_NotLike : Addr}
    (g_NotLike : PySem.W.nsIn K mainGlobals "NotLike" = some (some (.ref C_NotLike)))
    {mc_WayError : Value}
    (bs_WayError : PySem.W.specialIn K (.ref C_WayError) "__getattribute__" = some (some (.builtin "type.__getattribute__")))
    (bt_WayError : PySem.W.typeIn K (.ref C_WayError) = some mc_WayError)
    (br_WayError : PySem.W.readsIn K C_WayError mc_WayError = true)
    (bv_WayError : PySem.W.findCls K (.ref C_WayError) mc_WayError "__init__" = some (.val (.builtin "ValueError.__init__")))
    (xk_NoStrip : PySem.W.keepIn K (.ref C_NoStrip) = true)
    (xs_NoStrip : PySem.W.subIn K (.ref C_NoStrip) (.type "BaseException") = some true)
    (xt_NoStrip : PySem.W.typeIn K (.ref C_NoStrip) = some (.type "type"))
    (xo_NoStrip : oexIn K C_NoStrip = true)
    (xa_NoStrip : PySem.W.findIn K (.ref C_NoStrip) "__setattr__" = some (some (.builtin "object.__setattr__")))
    {fI_NoStrip : Addr} {odx_NoStrip anx_NoStrip : Option Addr} {slx_NoStrip : Array (Option Value)} {ocx_NoStrip kVx_NoStrip dcx_NoStrip pmx_NoStrip cdx_NoStrip ctx_NoStrip : Value}
    (xi_NoStrip_ : PySem.W.findIn K (.ref C_NoStrip) "__init__" = some (some (.ref fI_NoStrip)))
    (xf_NoStrip : PySem.W.typeIn K (.ref fI_NoStrip) = some (.type "function"))
    (xl_NoStrip : K.lookup fI_NoStrip = some ⟨ocx_NoStrip, odx_NoStrip, .func (PySem.W.fnOf "__init__" "NoStrip.__init__" (defArgs st_x_NoStrip) (defBody st_x_NoStrip) (defScope st_x_NoStrip) .none kVx_NoStrip dcx_NoStrip pmx_NoStrip anx_NoStrip cdx_NoStrip ctx_NoStrip), slx_NoStrip⟩)
    (xc_NoStrip : PySem.W.codeIn K cdx_NoStrip "NoStrip.__init__" = true)
    (xq_NoStrip : PySem.W.keepIn K (.ref fI_NoStrip) = true)
    (xn_NoStrip_at : PySem.W.findIn K (.ref C_NoStrip) "at" = some none)
    (xb_NoStrip : xfB K C_NoStrip = true)
    (xk_TooMany : PySem.W.keepIn K (.ref C_TooMany) = true)
    (xs_TooMany : PySem.W.subIn K (.ref C_TooMany) (.type "BaseException") = some true)
    (xt_TooMany : PySem.W.typeIn K (.ref C_TooMany) = some (.type "type"))
    (xe_TooMany : PySem.W.excIn K C_TooMany [Value.type "ValueError", Value.type "Exception", Value.type "BaseException", Value.type "object"] "ValueError.__new__" = true)
    (xg_TooMany : PySem.W.findIn K (.ref C_TooMany) "__getattribute__" = some (some (.builtin "BaseException.__getattribute__")))
    (xh_TooMany : PySem.W.findIn K (.ref C_TooMany) "__getattr__" = some none)
    (xd_TooMany : PySem.W.hasDictIn K C_TooMany = true)
    (xy_TooMany : PySem.W.findIn K (.ref C_TooMany) "__class__" = some (some (.builtin "object.__class__")))
    (xz_TooMany : PySem.W.specialIn K (.builtin "object.__class__") "__get__" = some (some (.builtin "getset_descriptor.__get__")))
    (xw_TooMany : PySem.W.takesIn K (.builtin "object.__class__") = some true)
    (xm_TooMany : PySem.W.mroIn K C_TooMany (.type "object") = some true)
    (em_TooMany_NoStrip : PySem.W.exmOne K (.ref C_NoStrip) (.ref C_TooMany) = some false)
    (em_TooMany_TooMany : PySem.W.exmOne K (.ref C_TooMany) (.ref C_TooMany) = some true)
    (ei_WayError_NoStrip : PySem.W.kitOne K (.ref C_NoStrip) (.ref C_WayError) = some true)
    (ei_WayError_TooMany : PySem.W.kitOne K (.ref C_TooMany) (.ref C_WayError) = some true)
    (ei_NoStrip_NoStrip : PySem.W.kitOne K (.ref C_NoStrip) (.ref C_NoStrip) = some true)
    (ei_NoStrip_TooMany : PySem.W.kitOne K (.ref C_TooMany) (.ref C_NoStrip) = some false)
    (ei_NotLike_NoStrip : PySem.W.kitOne K (.ref C_NoStrip) (.ref C_NotLike) = some false)
    (ei_NotLike_TooMany : PySem.W.kitOne K (.ref C_TooMany) (.ref C_NotLike) = some false)
    (ev_ValueError_NoStrip : PySem.W.kitOne K (.ref C_NoStrip) (.type "ValueError") = some true)
    (ev_ValueError_TooMany : PySem.W.kitOne K (.ref C_TooMany) (.type "ValueError") = some true)
    (z0 : PySem.W.nsIn K mainGlobals "ValueError" = some none)
    (z1 : PySem.W.nsIn K mainGlobals "all" = some none)
    (z2 : PySem.W.nsIn K mainGlobals "bool" = some none)
    (z3 : PySem.W.nsIn K mainGlobals "enumerate" = some none)
    (z4 : PySem.W.nsIn K mainGlobals "int" = some none)
    (z5 : PySem.W.nsIn K mainGlobals "isinstance" = some none)
    (z6 : PySem.W.nsIn K mainGlobals "len" = some none)
    (z7 : PySem.W.nsIn K mainGlobals "list" = some none)
    (z8 : PySem.W.nsIn K mainGlobals "range" = some none)
    (z9 : PySem.W.nsIn K mainGlobals "str" = some none)
    (z10 : PySem.W.nsIn K mainGlobals "tuple" = some none)
    {t0 : Tok}
    (v0 : PySem.W.nsIn K mainGlobals "MOST_TABLES" = some (some (Value.int 300 t0)))
    {t1 : Tok}
    (v1 : PySem.W.nsIn K mainGlobals "SIGNS_machines" = some (some (Value.str "abc" t1)))
    {t2 : Tok}
    (v2 : PySem.W.nsIn K mainGlobals "SIGNS_tables" = some (some (Value.str "abc" t2)))
    {f0 : Addr} {od0 an0 : Option Addr} {sl0 : Array (Option Value)} {oc0 kV0 dc0 pm0 cd0 ct0 : Value} (a0 : PySem.W.nsIn K mainGlobals "signs_of" = some (some (.ref f0)))
    (l0 : K.lookup f0 = some ⟨oc0, od0, .func (PySem.W.fnOf "signs_of" "signs_of" (defArgs st_p_signs_of) (defBody st_p_signs_of) (defScope st_p_signs_of) .none kV0 dc0 pm0 an0 cd0 ct0), sl0⟩) (c0 : PySem.W.codeIn K cd0 "signs_of" = true) (k0 : PySem.W.keepIn K (.ref f0) = true)
    {f1 : Addr} {od1 an1 : Option Addr} {sl1 : Array (Option Value)} {oc1 kV1 dc1 pm1 cd1 ct1 : Value} (a1 : PySem.W.nsIn K mainGlobals "checked_by" = some (some (.ref f1)))
    (l1 : K.lookup f1 = some ⟨oc1, od1, .func (PySem.W.fnOf "checked_by" "checked_by" (defArgs st_p_checked_by) (defBody st_p_checked_by) (defScope st_p_checked_by) .none kV1 dc1 pm1 an1 cd1 ct1), sl1⟩) (c1 : PySem.W.codeIn K cd1 "checked_by" = true) (k1 : PySem.W.keepIn K (.ref f1) = true)
    {f2 : Addr} {od2 an2 : Option Addr} {sl2 : Array (Option Value)} {oc2 kV2 dc2 pm2 cd2 ct2 : Value} (a2 : PySem.W.nsIn K mainGlobals "checked" = some (some (.ref f2)))
    (l2 : K.lookup f2 = some ⟨oc2, od2, .func (PySem.W.fnOf "checked" "checked" (defArgs st_p_checked) (defBody st_p_checked) (defScope st_p_checked) .none kV2 dc2 pm2 an2 cd2 ct2), sl2⟩) (c2 : PySem.W.codeIn K cd2 "checked" = true) (k2 : PySem.W.keepIn K (.ref f2) = true)
    {f3 : Addr} {od3 an3 : Option Addr} {sl3 : Array (Option Value)} {oc3 kV3 dc3 pm3 cd3 ct3 : Value} (a3 : PySem.W.nsIn K mainGlobals "still" = some (some (.ref f3)))
    (l3 : K.lookup f3 = some ⟨oc3, od3, .func (PySem.W.fnOf "still" "still" (defArgs st_p_still) (defBody st_p_still) (defScope st_p_still) .none kV3 dc3 pm3 an3 cd3 ct3), sl3⟩) (c3 : PySem.W.codeIn K cd3 "still" = true) (k3 : PySem.W.keepIn K (.ref f3) = true)
    {f4 : Addr} {od4 an4 : Option Addr} {sl4 : Array (Option Value)} {oc4 kV4 dc4 pm4 cd4 ct4 : Value} (a4 : PySem.W.nsIn K mainGlobals "sign_table" = some (some (.ref f4)))
    (l4 : K.lookup f4 = some ⟨oc4, od4, .func (PySem.W.fnOf "sign_table" "sign_table" (defArgs st_p_sign_table) (defBody st_p_sign_table) (defScope st_p_sign_table) .none kV4 dc4 pm4 an4 cd4 ct4), sl4⟩) (c4 : PySem.W.codeIn K cd4 "sign_table" = true) (k4 : PySem.W.keepIn K (.ref f4) = true)
    {f5 : Addr} {od5 an5 : Option Addr} {sl5 : Array (Option Value)} {oc5 kV5 dc5 pm5 cd5 ct5 : Value} (a5 : PySem.W.nsIn K mainGlobals "followed" = some (some (.ref f5)))
    (l5 : K.lookup f5 = some ⟨oc5, od5, .func (PySem.W.fnOf "followed" "followed" (defArgs st_p_followed) (defBody st_p_followed) (defScope st_p_followed) .none kV5 dc5 pm5 an5 cd5 ct5), sl5⟩) (c5 : PySem.W.codeIn K cd5 "followed" = true) (k5 : PySem.W.keepIn K (.ref f5) = true)
    {f6 : Addr} {od6 an6 : Option Addr} {sl6 : Array (Option Value)} {oc6 kV6 dc6 pm6 cd6 ct6 : Value} (a6 : PySem.W.nsIn K mainGlobals "behind" = some (some (.ref f6)))
    (l6 : K.lookup f6 = some ⟨oc6, od6, .func (PySem.W.fnOf "behind" "behind" (defArgs st_p_behind) (defBody st_p_behind) (defScope st_p_behind) .none kV6 dc6 pm6 an6 cd6 ct6), sl6⟩) (c6 : PySem.W.codeIn K cd6 "behind" = true) (k6 : PySem.W.keepIn K (.ref f6) = true)
    {f7 : Addr} {od7 an7 : Option Addr} {sl7 : Array (Option Value)} {oc7 kV7 dc7 pm7 cd7 ct7 : Value} (a7 : PySem.W.nsIn K mainGlobals "all_tables" = some (some (.ref f7)))
    (l7 : K.lookup f7 = some ⟨oc7, od7, .func (PySem.W.fnOf "all_tables" "all_tables" (defArgs st_p_all_tables) (defBody st_p_all_tables) (defScope st_p_all_tables) .none kV7 dc7 pm7 an7 cd7 ct7), sl7⟩) (c7 : PySem.W.codeIn K cd7 "all_tables" = true) (k7 : PySem.W.keepIn K (.ref f7) = true)
    {f8 : Addr} {od8 an8 : Option Addr} {sl8 : Array (Option Value)} {oc8 kV8 dc8 pm8 cd8 ct8 : Value} (a8 : PySem.W.nsIn K mainGlobals "_law_whole" = some (some (.ref f8)))
    (l8 : K.lookup f8 = some ⟨oc8, od8, .func (PySem.W.fnOf "_law_whole" "_law_whole" (defArgs st_l_whole) (defBody st_l_whole) (defScope st_l_whole) .none kV8 dc8 pm8 an8 cd8 ct8), sl8⟩) (c8 : PySem.W.codeIn K cd8 "_law_whole" = true) (k8 : PySem.W.keepIn K (.ref f8) = true)
    {f9 : Addr} {od9 an9 : Option Addr} {sl9 : Array (Option Value)} {oc9 kV9 dc9 pm9 cd9 ct9 : Value} (a9 : PySem.W.nsIn K mainGlobals "_law_is_thing" = some (some (.ref f9)))
    (l9 : K.lookup f9 = some ⟨oc9, od9, .func (PySem.W.fnOf "_law_is_thing" "_law_is_thing" (defArgs st_l_is_thing) (defBody st_l_is_thing) (defScope st_l_is_thing) .none kV9 dc9 pm9 an9 cd9 ct9), sl9⟩) (c9 : PySem.W.codeIn K cd9 "_law_is_thing" = true) (k9 : PySem.W.keepIn K (.ref f9) = true)
    {f10 : Addr} {od10 an10 : Option Addr} {sl10 : Array (Option Value)} {oc10 kV10 dc10 pm10 cd10 ct10 : Value} (a10 : PySem.W.nsIn K mainGlobals "_law_is_table" = some (some (.ref f10)))
    (l10 : K.lookup f10 = some ⟨oc10, od10, .func (PySem.W.fnOf "_law_is_table" "_law_is_table" (defArgs st_l_is_table) (defBody st_l_is_table) (defScope st_l_is_table) .none kV10 dc10 pm10 an10 cd10 ct10), sl10⟩) (c10 : PySem.W.codeIn K cd10 "_law_is_table" = true) (k10 : PySem.W.keepIn K (.ref f10) = true)
    {f11 : Addr} {od11 an11 : Option Addr} {sl11 : Array (Option Value)} {oc11 kV11 dc11 pm11 cd11 ct11 : Value} (a11 : PySem.W.nsIn K mainGlobals "_law_cell" = some (some (.ref f11)))
    (l11 : K.lookup f11 = some ⟨oc11, od11, .func (PySem.W.fnOf "_law_cell" "_law_cell" (defArgs st_l_cell) (defBody st_l_cell) (defScope st_l_cell) .none kV11 dc11 pm11 an11 cd11 ct11), sl11⟩) (c11 : PySem.W.codeIn K cd11 "_law_cell" = true) (k11 : PySem.W.keepIn K (.ref f11) = true)
    {f12 : Addr} {od12 an12 : Option Addr} {sl12 : Array (Option Value)} {oc12 kV12 dc12 pm12 cd12 ct12 : Value} (a12 : PySem.W.nsIn K mainGlobals "_law_end" = some (some (.ref f12)))
    (l12 : K.lookup f12 = some ⟨oc12, od12, .func (PySem.W.fnOf "_law_end" "_law_end" (defArgs st_l_end) (defBody st_l_end) (defScope st_l_end) .none kV12 dc12 pm12 an12 cd12 ct12), sl12⟩) (c12 : PySem.W.codeIn K cd12 "_law_end" = true) (k12 : PySem.W.keepIn K (.ref f12) = true)
    {f13 : Addr} {od13 an13 : Option Addr} {sl13 : Array (Option Value)} {oc13 kV13 dc13 pm13 cd13 ct13 : Value} (a13 : PySem.W.nsIn K mainGlobals "_law_digit_row" = some (some (.ref f13)))
    (l13 : K.lookup f13 = some ⟨oc13, od13, .func (PySem.W.fnOf "_law_digit_row" "_law_digit_row" (defArgs st_l_digit_row) (defBody st_l_digit_row) (defScope st_l_digit_row) .none kV13 dc13 pm13 an13 cd13 ct13), sl13⟩) (c13 : PySem.W.codeIn K cd13 "_law_digit_row" = true) (k13 : PySem.W.keepIn K (.ref f13) = true)
    {f14 : Addr} {od14 an14 : Option Addr} {sl14 : Array (Option Value)} {oc14 kV14 dc14 pm14 cd14 ct14 : Value} (a14 : PySem.W.nsIn K mainGlobals "_law_mixed_row" = some (some (.ref f14)))
    (l14 : K.lookup f14 = some ⟨oc14, od14, .func (PySem.W.fnOf "_law_mixed_row" "_law_mixed_row" (defArgs st_l_mixed_row) (defBody st_l_mixed_row) (defScope st_l_mixed_row) .none kV14 dc14 pm14 an14 cd14 ct14), sl14⟩) (c14 : PySem.W.codeIn K cd14 "_law_mixed_row" = true) (k14 : PySem.W.keepIn K (.ref f14) = true)
    {f15 : Addr} {od15 an15 : Option Addr} {sl15 : Array (Option Value)} {oc15 kV15 dc15 pm15 cd15 ct15 : Value} (a15 : PySem.W.nsIn K mainGlobals "_law_machine" = some (some (.ref f15)))
    (l15 : K.lookup f15 = some ⟨oc15, od15, .func (PySem.W.fnOf "_law_machine" "_law_machine" (defArgs st_l_machine) (defBody st_l_machine) (defScope st_l_machine) .none kV15 dc15 pm15 an15 cd15 ct15), sl15⟩) (c15 : PySem.W.codeIn K cd15 "_law_machine" = true) (k15 : PySem.W.keepIn K (.ref f15) = true)
    {f16 : Addr} {od16 an16 : Option Addr} {sl16 : Array (Option Value)} {oc16 kV16 dc16 pm16 cd16 ct16 : Value} (a16 : PySem.W.nsIn K mainGlobals "_law_within" = some (some (.ref f16)))
    (l16 : K.lookup f16 = some ⟨oc16, od16, .func (PySem.W.fnOf "_law_within" "_law_within" (defArgs st_l_within) (defBody st_l_within) (defScope st_l_within) .none kV16 dc16 pm16 an16 cd16 ct16), sl16⟩) (c16 : PySem.W.codeIn K cd16 "_law_within" = true) (k16 : PySem.W.keepIn K (.ref f16) = true)
    {f17 : Addr} {od17 an17 : Option Addr} {sl17 : Array (Option Value)} {oc17 kV17 dc17 pm17 cd17 ct17 : Value} (a17 : PySem.W.nsIn K mainGlobals "_law_table" = some (some (.ref f17)))
    (l17 : K.lookup f17 = some ⟨oc17, od17, .func (PySem.W.fnOf "_law_table" "_law_table" (defArgs st_l_table) (defBody st_l_table) (defScope st_l_table) .none kV17 dc17 pm17 an17 cd17 ct17), sl17⟩) (c17 : PySem.W.codeIn K cd17 "_law_table" = true) (k17 : PySem.W.keepIn K (.ref f17) = true)
    {f18 : Addr} {od18 an18 : Option Addr} {sl18 : Array (Option Value)} {oc18 kV18 dc18 pm18 cd18 ct18 : Value} (a18 : PySem.W.nsIn K mainGlobals "_law_out" = some (some (.ref f18)))
    (l18 : K.lookup f18 = some ⟨oc18, od18, .func (PySem.W.fnOf "_law_out" "_law_out" (defArgs st_l_out) (defBody st_l_out) (defScope st_l_out) .none kV18 dc18 pm18 an18 cd18 ct18), sl18⟩) (c18 : PySem.W.codeIn K cd18 "_law_out" = true) (k18 : PySem.W.keepIn K (.ref f18) = true)
    {f19 : Addr} {od19 an19 : Option Addr} {sl19 : Array (Option Value)} {oc19 kV19 dc19 pm19 cd19 ct19 : Value} (a19 : PySem.W.nsIn K mainGlobals "_law_boxes" = some (some (.ref f19)))
    (l19 : K.lookup f19 = some ⟨oc19, od19, .func (PySem.W.fnOf "_law_boxes" "_law_boxes" (defArgs st_l_boxes) (defBody st_l_boxes) (defScope st_l_boxes) .none kV19 dc19 pm19 an19 cd19 ct19), sl19⟩) (c19 : PySem.W.codeIn K cd19 "_law_boxes" = true) (k19 : PySem.W.keepIn K (.ref f19) = true)
    {f20 : Addr} {od20 an20 : Option Addr} {sl20 : Array (Option Value)} {oc20 kV20 dc20 pm20 cd20 ct20 : Value} (a20 : PySem.W.nsIn K mainGlobals "_law_counted" = some (some (.ref f20)))
    (l20 : K.lookup f20 = some ⟨oc20, od20, .func (PySem.W.fnOf "_law_counted" "_law_counted" (defArgs st_l_counted) (defBody st_l_counted) (defScope st_l_counted) .none kV20 dc20 pm20 an20 cd20 ct20), sl20⟩) (c20 : PySem.W.codeIn K cd20 "_law_counted" = true) (k20 : PySem.W.keepIn K (.ref f20) = true)
    {f21 : Addr} {od21 an21 : Option Addr} {sl21 : Array (Option Value)} {oc21 kV21 dc21 pm21 cd21 ct21 : Value} (a21 : PySem.W.nsIn K mainGlobals "_law_asked" = some (some (.ref f21)))
    (l21 : K.lookup f21 = some ⟨oc21, od21, .func (PySem.W.fnOf "_law_asked" "_law_asked" (defArgs st_l_asked) (defBody st_l_asked) (defScope st_l_asked) .none kV21 dc21 pm21 an21 cd21 ct21), sl21⟩) (c21 : PySem.W.codeIn K cd21 "_law_asked" = true) (k21 : PySem.W.keepIn K (.ref f21) = true)
    {f22 : Addr} {od22 an22 : Option Addr} {sl22 : Array (Option Value)} {oc22 kV22 dc22 pm22 cd22 ct22 : Value} (a22 : PySem.W.nsIn K mainGlobals "_law_listed" = some (some (.ref f22)))
    (l22 : K.lookup f22 = some ⟨oc22, od22, .func (PySem.W.fnOf "_law_listed" "_law_listed" (defArgs st_l_listed) (defBody st_l_listed) (defScope st_l_listed) .none kV22 dc22 pm22 an22 cd22 ct22), sl22⟩) (c22 : PySem.W.codeIn K cd22 "_law_listed" = true) (k22 : PySem.W.keepIn K (.ref f22) = true)
    {f23 : Addr} {od23 an23 : Option Addr} {sl23 : Array (Option Value)} {oc23 kV23 dc23 pm23 cd23 ct23 : Value} (a23 : PySem.W.nsIn K mainGlobals "_law_closed" = some (some (.ref f23)))
    (l23 : K.lookup f23 = some ⟨oc23, od23, .func (PySem.W.fnOf "_law_closed" "_law_closed" (defArgs st_l_closed) (defBody st_l_closed) (defScope st_l_closed) .none kV23 dc23 pm23 an23 cd23 ct23), sl23⟩) (c23 : PySem.W.codeIn K cd23 "_law_closed" = true) (k23 : PySem.W.keepIn K (.ref f23) = true)
    {f24 : Addr} {od24 an24 : Option Addr} {sl24 : Array (Option Value)} {oc24 kV24 dc24 pm24 cd24 ct24 : Value} (a24 : PySem.W.nsIn K mainGlobals "law" = some (some (.ref f24)))
    (l24 : K.lookup f24 = some ⟨oc24, od24, .func (PySem.W.fnOf "law" "law" (defArgs st_p_law) (defBody st_p_law) (defScope st_p_law) .none kV24 dc24 pm24 an24 cd24 ct24), sl24⟩) (c24 : PySem.W.codeIn K cd24 "law" = true) (k24 : PySem.W.keepIn K (.ref f24) = true)
    : ∃ fd : FuncData, (∀ (s : Shared) (v : Value), BindsTo s fd ⟨[v], []⟩ [("_law_script", v)]) ∧ ∀ base : Heap, K.In base → base.Ns mainGlobals mg → FnOk l.prog w K mg base (L2.CX l.prog w) 8 fa fd ["_law_script"] (spLaw K) := by
  have T : Tx K mg (tabE [(2, C_NoStrip, ["at"]), (3, C_TooMany, [])]) := {
    b_WayError := ⟨C_WayError, mc_WayError, PySem.W.mg_of X G g_WayError, bs_WayError, br_WayError, bv_WayError⟩,
    x_NoStrip := ⟨C_NoStrip, fI_NoStrip, _, ⟨xct_mk xo_NoStrip xa_NoStrip xs_NoStrip xt_NoStrip xk_NoStrip (PySem.W.mg_of X G g_NoStrip), xi_NoStrip_, xf_NoStrip, fun_mk xl_NoStrip xc_NoStrip xq_NoStrip, (fun_mk xl_NoStrip xc_NoStrip xq_NoStrip).binds (fun _ _ _ _ _ _ us hl => match us, hl with | [_, _], _ => rfl), fun f hf => by simp only [List.mem_cons, List.not_mem_nil, or_false] at hf; rcases hf with rfl <;> assumption, xfB_ok xb_NoStrip⟩, rfl⟩,
    x_TooMany := ⟨C_TooMany, ⟨xe_TooMany, PySem.W.mg_of X G g_TooMany, xk_TooMany, xs_TooMany, xt_TooMany, ⟨xg_TooMany, xh_TooMany, xs_TooMany, xd_TooMany, xy_TooMany, xz_TooMany, xw_TooMany, xm_TooMany⟩⟩, rfl⟩,
    m_TooMany := ⟨C_TooMany, PySem.W.mg_of X G g_TooMany, tabE_all (List.forall_mem_cons.mpr ⟨em_TooMany_NoStrip, List.forall_mem_cons.mpr ⟨em_TooMany_TooMany, fun _ h => nomatch h⟩⟩)⟩,
    i_WayError := ⟨C_WayError, PySem.W.mg_of X G g_WayError, tabE_all (List.forall_mem_cons.mpr ⟨ei_WayError_NoStrip, List.forall_mem_cons.mpr ⟨ei_WayError_TooMany, fun _ h => nomatch h⟩⟩)⟩,
    i_NoStrip := ⟨C_NoStrip, PySem.W.mg_of X G g_NoStrip, tabE_all (List.forall_mem_cons.mpr ⟨ei_NoStrip_NoStrip, List.forall_mem_cons.mpr ⟨ei_NoStrip_TooMany, fun _ h => nomatch h⟩⟩)⟩,
    i_NotLike := ⟨C_NotLike, PySem.W.mg_of X G g_NotLike, tabE_all (List.forall_mem_cons.mpr ⟨ei_NotLike_NoStrip, List.forall_mem_cons.mpr ⟨ei_NotLike_TooMany, fun _ h => nomatch h⟩⟩)⟩,
    v_ValueError := tabE_all (List.forall_mem_cons.mpr ⟨ev_ValueError_NoStrip, List.forall_mem_cons.mpr ⟨ev_ValueError_TooMany, fun _ h => nomatch h⟩⟩),
    tE := tabE_all (List.forall_mem_cons.mpr ⟨rfl, List.forall_mem_cons.mpr ⟨rfl, fun _ h => nomatch h⟩⟩),
    b_ValueError := PySem.W.mg_none_of X G z0,
    b_all := PySem.W.mg_none_of X G z1,
    b_bool := PySem.W.mg_none_of X G z2,
    b_enumerate := PySem.W.mg_none_of X G z3,
    b_int := PySem.W.mg_none_of X G z4,
    b_isinstance := PySem.W.mg_none_of X G z5,
    b_len := PySem.W.mg_none_of X G z6,
    b_list := PySem.W.mg_none_of X G z7,
    b_range := PySem.W.mg_none_of X G z8,
    b_str := PySem.W.mg_none_of X G z9,
    b_tuple := PySem.W.mg_none_of X G z10,
    c_MOST_TABLES := ⟨_, PySem.W.mg_of X G v0⟩,
    c_SIGNS_machines := ⟨_, PySem.W.mg_of X G v1⟩,
    c_SIGNS_tables := ⟨_, PySem.W.mg_of X G v2⟩,
    d_p_signs_of := txd_mk X G a0 l0 c0 k0 (fun _ _ _ _ _ _ us hl => match us, hl with | [_], _ => rfl),
    d_p_checked_by := txd_mk X G a1 l1 c1 k1 (fun _ _ _ _ _ _ us hl => match us, hl with | [_, _], _ => rfl),
    d_p_checked := txd_mk X G a2 l2 c2 k2 (fun _ _ _ _ _ _ us hl => match us, hl with | [_, _], _ => rfl),
    d_p_still := txd_mk X G a3 l3 c3 k3 (fun _ _ _ _ _ _ us hl => match us, hl with | [_], _ => rfl),
    d_p_sign_table := txd_mk X G a4 l4 c4 k4 (fun _ _ _ _ _ _ us hl => match us, hl with | [_, _], _ => rfl),
    d_p_followed := txd_mk X G a5 l5 c5 k5 (fun _ _ _ _ _ _ us hl => match us, hl with | [_, _, _, _], _ => rfl),
    d_p_behind := txd_mk X G a6 l6 c6 k6 (fun _ _ _ _ _ _ us hl => match us, hl with | [_, _], _ => rfl),
    d_p_all_tables := txd_mk X G a7 l7 c7 k7 (fun _ _ _ _ _ _ us hl => match us, hl with | [_], _ => rfl),
    d_l_whole := txd_mk X G a8 l8 c8 k8 (fun _ _ _ _ _ _ us hl => match us, hl with | [_], _ => rfl),
    d_l_is_thing := txd_mk X G a9 l9 c9 k9 (fun _ _ _ _ _ _ us hl => match us, hl with | [_], _ => rfl),
    d_l_is_table := txd_mk X G a10 l10 c10 k10 (fun _ _ _ _ _ _ us hl => match us, hl with | [_, _], _ => rfl),
    d_l_cell := txd_mk X G a11 l11 c11 k11 (fun _ _ _ _ _ _ us hl => match us, hl with | [_, _], _ => rfl),
    d_l_end := txd_mk X G a12 l12 c12 k12 (fun _ _ _ _ _ _ us hl => match us, hl with | [_, _], _ => rfl),
    d_l_digit_row := txd_mk X G a13 l13 c13 k13 (fun _ _ _ _ _ _ us hl => match us, hl with | [_, _, _], _ => rfl),
    d_l_mixed_row := txd_mk X G a14 l14 c14 k14 (fun _ _ _ _ _ _ us hl => match us, hl with | [_, _, _], _ => rfl),
    d_l_machine := txd_mk X G a15 l15 c15 k15 (fun _ _ _ _ _ _ us hl => match us, hl with | [_, _, _, _], _ => rfl),
    d_l_within := txd_mk X G a16 l16 c16 k16 (fun _ _ _ _ _ _ us hl => match us, hl with | [_, _, _, _], _ => rfl),
    d_l_table := txd_mk X G a17 l17 c17 k17 (fun _ _ _ _ _ _ us hl => match us, hl with | [_, _], _ => rfl),
    d_l_out := txd_mk X G a18 l18 c18 k18 (fun _ _ _ _ _ _ us hl => match us, hl with | [_, _, _, _], _ => rfl),
    d_l_boxes := txd_mk X G a19 l19 c19 k19 (fun _ _ _ _ _ _ us hl => match us, hl with | [_, _], _ => rfl),
    d_l_counted := txd_mk X G a20 l20 c20 k20 (fun _ _ _ _ _ _ us hl => match us, hl with | [_, _, _], _ => rfl),
    d_l_asked := txd_mk X G a21 l21 c21 k21 (fun _ _ _ _ _ _ us hl => match us, hl with | [_], _ => rfl),
    d_l_listed := txd_mk X G a22 l22 c22 k22 (fun _ _ _ _ _ _ us hl => match us, hl with | [_, _, _], _ => rfl),
    d_l_closed := txd_mk X G a23 l23 c23 k23 (fun _ _ _ _ _ _ us hl => match us, hl with | [_, _, _], _ => rfl),
    d_p_law := txd_mk X G a24 l24 c24 k24 (fun _ _ _ _ _ _ us hl => match us, hl with | [_], _ => rfl) }
  have e := hfa.symm.trans (PySem.W.mg_of X G a24)
  cases e
  refine ⟨PySem.W.fnOf "law" "law" (defArgs st_p_law) (defBody st_p_law) (defScope st_p_law) .none kV24 dc24 pm24 an24 cd24 ct24, fun s v => .of_eq rfl, fun base _ _ => ?_⟩
  exact FnOk.imp (ok_p_law T (fun_mk l24 c24 k24)) (sp_law (g := ⟨l.prog, w, K, (tabE [(2, C_NoStrip, ["at"]), (3, C_TooMany, [])]), fun _ => none, none, none, none, fun _ => none⟩) hlaw)
end DI
namespace DI
open PySem
set_option maxHeartbeats 4000000
set_option synthInstance.maxSize 4000
abbrev x_NoStrip : Nat := 2
abbrev x_TooMany : Nat := 3
section
variable {α β γ δ ε ζ η : Type} {σ : Sl}
theorem rf_bip1_m {θ : Type} {b : Bi} {eθ : θ → D} {f1 : Sl → R D} {e1 : α → D} {m1 : R α} {g : α → θ} (T : ∀ a1, Rf (biD b [e1 a1]) (.ok (g a1)) eθ) (h1 : Rf (f1 σ) m1 e1) : Rf (eBi b (aC f1 aN) σ) (m1.bind fun a1 => .ok (g a1)) eθ := rf_bi1 (Φ := fun a1 => .ok (g a1)) T h1
theorem rf_call1_p {θ : Type} {h : List D → R D} {eθ : θ → D} {f1 : Sl → R D} {e1 : α → D} {a1 : α} {e1' : α → D} {Φ : α → R θ} (T : ∀ a1, Rf (h [e1' a1]) (Φ a1) eθ) (z1 : Fz e1 e1') (hc : (Cl e1 ∧ True) ∨ Nf eθ) (h1 : Rf (f1 σ) (.ok a1) e1) : Rf (eF h (aC f1 aN) σ) (Φ a1) eθ := rf_call1 T z1 hc h1
theorem rf_call2_mp {θ : Type} {h : List D → R D} {eθ : θ → D} {f1 : Sl → R D} {e1 : α → D} {m1 : R α} {f2 : Sl → R D} {e2 : β → D} {a2 : β} {e1' : α → D} {e2' : β → D} {Φ : α → β → R θ} (T : ∀ a1 a2, Rf (h [e1' a1, e2' a2]) (Φ a1 a2) eθ) (z1 : Fz e1 e1') (z2 : Fz e2 e2') (hc : (Cl e1 ∧ Cl e2 ∧ True) ∨ Nf eθ) (h1 : Rf (f1 σ) m1 e1) (h2 : Rf (f2 σ) (.ok a2) e2) : Rf (eF h (aC f1 (aC f2 aN)) σ) (m1.bind fun a1 => Φ a1 a2) eθ := rf_call2 T z1 z2 hc h1 h2
theorem rf_tup2_pp {f1 : Sl → R D} {e1 : α → D} {a1 : α} {f2 : Sl → R D} {e2 : β → D} {a2 : β} (h1 : Rf (f1 σ) (.ok a1) e1) (h2 : Rf (f2 σ) (.ok a2) e2) : Rf (eTup (aC f1 (aC f2 aN)) σ) (.ok (a1, a2)) (eT2 e1 e2) := rf_tup2 h1 h2
theorem rf_tup2_mm {f1 : Sl → R D} {e1 : α → D} {m1 : R α} {f2 : Sl → R D} {e2 : β → D} {m2 : R β} (h1 : Rf (f1 σ) m1 e1) (h2 : Rf (f2 σ) m2 e2) : Rf (eTup (aC f1 (aC f2 aN)) σ) (m1.bind fun a1 => m2.bind fun a2 => .ok (a1, a2)) (eT2 e1 e2) := rf_tup2 h1 h2
theorem rf_call2_pp {θ : Type} {h : List D → R D} {eθ : θ → D} {f1 : Sl → R D} {e1 : α → D} {a1 : α} {f2 : Sl → R D} {e2 : β → D} {a2 : β} {e1' : α → D} {e2' : β → D} {Φ : α → β → R θ} (T : ∀ a1 a2, Rf (h [e1' a1, e2' a2]) (Φ a1 a2) eθ) (z1 : Fz e1 e1') (z2 : Fz e2 e2') (hc : (Cl e1 ∧ Cl e2 ∧ True) ∨ Nf eθ) (h1 : Rf (f1 σ) (.ok a1) e1) (h2 : Rf (f2 σ) (.ok a2) e2) : Rf (eF h (aC f1 (aC f2 aN)) σ) (Φ a1 a2) eθ := rf_call2 T z1 z2 hc h1 h2
theorem rf_call4_pppp {θ : Type} {h : List D → R D} {eθ : θ → D} {f1 : Sl → R D} {e1 : α → D} {a1 : α} {f2 : Sl → R D} {e2 : β → D} {a2 : β} {f3 : Sl → R D} {e3 : γ → D} {a3 : γ} {f4 : Sl → R D} {e4 : δ → D} {a4 : δ} {e1' : α → D} {e2' : β → D} {e3' : γ → D} {e4' : δ → D} {Φ : α → β → γ → δ → R θ} (T : ∀ a1 a2 a3 a4, Rf (h [e1' a1, e2' a2, e3' a3, e4' a4]) (Φ a1 a2 a3 a4) eθ) (z1 : Fz e1 e1') (z2 : Fz e2 e2') (z3 : Fz e3 e3') (z4 : Fz e4 e4') (hc : (Cl e1 ∧ Cl e2 ∧ Cl e3 ∧ Cl e4 ∧ True) ∨ Nf eθ) (h1 : Rf (f1 σ) (.ok a1) e1) (h2 : Rf (f2 σ) (.ok a2) e2) (h3 : Rf (f3 σ) (.ok a3) e3) (h4 : Rf (f4 σ) (.ok a4) e4) : Rf (eF h (aC f1 (aC f2 (aC f3 (aC f4 aN)))) σ) (Φ a1 a2 a3 a4) eθ := rf_call4 T z1 z2 z3 z4 hc h1 h2 h3 h4
theorem rf_bip1_p {θ : Type} {b : Bi} {eθ : θ → D} {f1 : Sl → R D} {e1 : α → D} {a1 : α} {g : α → θ} (T : ∀ a1, Rf (biD b [e1 a1]) (.ok (g a1)) eθ) (h1 : Rf (f1 σ) (.ok a1) e1) : Rf (eBi b (aC f1 aN) σ) (.ok (g a1)) eθ := rf_bi1 (Φ := fun a1 => .ok (g a1)) T h1
theorem rf_tup2_pm {f1 : Sl → R D} {e1 : α → D} {a1 : α} {f2 : Sl → R D} {e2 : β → D} {m2 : R β} (h1 : Rf (f1 σ) (.ok a1) e1) (h2 : Rf (f2 σ) m2 e2) : Rf (eTup (aC f1 (aC f2 aN)) σ) (m2.bind fun a2 => .ok (a1, a2)) (eT2 e1 e2) := rf_tup2 h1 h2
theorem rf_tup2_mp {f1 : Sl → R D} {e1 : α → D} {m1 : R α} {f2 : Sl → R D} {e2 : β → D} {a2 : β} (h1 : Rf (f1 σ) m1 e1) (h2 : Rf (f2 σ) (.ok a2) e2) : Rf (eTup (aC f1 (aC f2 aN)) σ) (m1.bind fun a1 => .ok (a1, a2)) (eT2 e1 e2) := rf_tup2 h1 h2
theorem rf_tup3_mpm {f1 : Sl → R D} {e1 : α → D} {m1 : R α} {f2 : Sl → R D} {e2 : β → D} {a2 : β} {f3 : Sl → R D} {e3 : γ → D} {m3 : R γ} (h1 : Rf (f1 σ) m1 e1) (h2 : Rf (f2 σ) (.ok a2) e2) (h3 : Rf (f3 σ) m3 e3) : Rf (eTup (aC f1 (aC f2 (aC f3 aN))) σ) (m1.bind fun a1 => m3.bind fun a3 => .ok (a1, a2, a3)) (eT3 e1 e2 e3) := rf_tup3 h1 h2 h3
theorem rf_call3_mpp {θ : Type} {h : List D → R D} {eθ : θ → D} {f1 : Sl → R D} {e1 : α → D} {m1 : R α} {f2 : Sl → R D} {e2 : β → D} {a2 : β} {f3 : Sl → R D} {e3 : γ → D} {a3 : γ} {e1' : α → D} {e2' : β → D} {e3' : γ → D} {Φ : α → β → γ → R θ} (T : ∀ a1 a2 a3, Rf (h [e1' a1, e2' a2, e3' a3]) (Φ a1 a2 a3) eθ) (z1 : Fz e1 e1') (z2 : Fz e2 e2') (z3 : Fz e3 e3') (hc : (Cl e1 ∧ Cl e2 ∧ Cl e3 ∧ True) ∨ Nf eθ) (h1 : Rf (f1 σ) m1 e1) (h2 : Rf (f2 σ) (.ok a2) e2) (h3 : Rf (f3 σ) (.ok a3) e3) : Rf (eF h (aC f1 (aC f2 (aC f3 aN))) σ) (m1.bind fun a1 => Φ a1 a2 a3) eθ := rf_call3 T z1 z2 z3 hc h1 h2 h3
theorem rf_tup1_m {f1 : Sl → R D} {e1 : α → D} {m1 : R α} (h1 : Rf (f1 σ) m1 e1) : Rf (eTup (aC f1 aN) σ) (m1.bind fun a1 => .ok a1) (eT1 e1) := rf_tup1 h1
theorem rf_bi1_p {θ : Type} {b : Bi} {eθ : θ → D} {f1 : Sl → R D} {e1 : α → D} {a1 : α} {Φ : α → R θ} (T : ∀ a1, Rf (biD b [e1 a1]) (Φ a1) eθ) (h1 : Rf (f1 σ) (.ok a1) e1) : Rf (eBi b (aC f1 aN) σ) (Φ a1) eθ := rf_bi1 T h1
theorem rf_call4_ppmp {θ : Type} {h : List D → R D} {eθ : θ → D} {f1 : Sl → R D} {e1 : α → D} {a1 : α} {f2 : Sl → R D} {e2 : β → D} {a2 : β} {f3 : Sl → R D} {e3 : γ → D} {m3 : R γ} {f4 : Sl → R D} {e4 : δ → D} {a4 : δ} {e1' : α → D} {e2' : β → D} {e3' : γ → D} {e4' : δ → D} {Φ : α → β → γ → δ → R θ} (T : ∀ a1 a2 a3 a4, Rf (h [e1' a1, e2' a2, e3' a3, e4' a4]) (Φ a1 a2 a3 a4) eθ) (z1 : Fz e1 e1') (z2 : Fz e2 e2') (z3 : Fz e3 e3') (z4 : Fz e4 e4') (hc : (Cl e1 ∧ Cl e2 ∧ Cl e3 ∧ Cl e4 ∧ True) ∨ Nf eθ) (h1 : Rf (f1 σ) (.ok a1) e1) (h2 : Rf (f2 σ) (.ok a2) e2) (h3 : Rf (f3 σ) m3 e3) (h4 : Rf (f4 σ) (.ok a4) e4) : Rf (eF h (aC f1 (aC f2 (aC f3 (aC f4 aN)))) σ) (m3.bind fun a3 => Φ a1 a2 a3 a4) eθ := rf_call4 T z1 z2 z3 z4 hc h1 h2 h3 h4
theorem rf_tup3_ppp {f1 : Sl → R D} {e1 : α → D} {a1 : α} {f2 : Sl → R D} {e2 : β → D} {a2 : β} {f3 : Sl → R D} {e3 : γ → D} {a3 : γ} (h1 : Rf (f1 σ) (.ok a1) e1) (h2 : Rf (f2 σ) (.ok a2) e2) (h3 : Rf (f3 σ) (.ok a3) e3) : Rf (eTup (aC f1 (aC f2 (aC f3 aN))) σ) (.ok (a1, a2, a3)) (eT3 e1 e2 e3) := rf_tup3 h1 h2 h3
theorem rf_call2_pm {θ : Type} {h : List D → R D} {eθ : θ → D} {f1 : Sl → R D} {e1 : α → D} {a1 : α} {f2 : Sl → R D} {e2 : β → D} {m2 : R β} {e1' : α → D} {e2' : β → D} {Φ : α → β → R θ} (T : ∀ a1 a2, Rf (h [e1' a1, e2' a2]) (Φ a1 a2) eθ) (z1 : Fz e1 e1') (z2 : Fz e2 e2') (hc : (Cl e1 ∧ Cl e2 ∧ True) ∨ Nf eθ) (h1 : Rf (f1 σ) (.ok a1) e1) (h2 : Rf (f2 σ) m2 e2) : Rf (eF h (aC f1 (aC f2 aN)) σ) (m2.bind fun a2 => Φ a1 a2) eθ := rf_call2 T z1 z2 hc h1 h2
theorem rf_call3_ppp {θ : Type} {h : List D → R D} {eθ : θ → D} {f1 : Sl → R D} {e1 : α → D} {a1 : α} {f2 : Sl → R D} {e2 : β → D} {a2 : β} {f3 : Sl → R D} {e3 : γ → D} {a3 : γ} {e1' : α → D} {e2' : β → D} {e3' : γ → D} {Φ : α → β → γ → R θ} (T : ∀ a1 a2 a3, Rf (h [e1' a1, e2' a2, e3' a3]) (Φ a1 a2 a3) eθ) (z1 : Fz e1 e1') (z2 : Fz e2 e2') (z3 : Fz e3 e3') (hc : (Cl e1 ∧ Cl e2 ∧ Cl e3 ∧ True) ∨ Nf eθ) (h1 : Rf (f1 σ) (.ok a1) e1) (h2 : Rf (f2 σ) (.ok a2) e2) (h3 : Rf (f3 σ) (.ok a3) e3) : Rf (eF h (aC f1 (aC f2 (aC f3 aN))) σ) (Φ a1 a2 a3) eθ := rf_call3 T z1 z2 z3 hc h1 h2 h3
end
noncomputable def f_p_signs_of (machine : (List (Turn × (List (Int × Int)) × Turn))) : R Int := runO (L := Unit) (S := Unit) <|
  bnd (((ofR (L2.atI machine 0)).bind fun u => R.ok (u.2.1)).bind fun u => R.ok ((u.length : Int))) .rt
theorem tf_p_signs_of (machine : (List (Turn × (List (Int × Int)) × Turn))) : Rf (h_p_signs_of [(eSq (eT3 eTu (eSq (eT2 D.int D.int)) eTu)) machine]) (f_p_signs_of machine) D.int := by
  unfold h_p_signs_of runF b_p_signs_of f_p_signs_of
  exact g_fun (g_last (g_ret (rf_bip1_m (g := fun u => (List.length u : Int)) bt_lenQ (rf_ix3_1_m (rf_ixQ_pp (rf_v (i := 0) (a := machine) (eSq (eT3 eTu (eSq (eT2 D.int D.int)) eTu)) rfl) (rf_k (a := 0) D.int rfl)))) True.intro))
noncomputable def f_p_checked_by (many : Int) (strip : St) : R St := runO (L := Unit) (S := Unit) <|
  O.thn (forT (enT 0 strip) (fun (at_, sign) (_ : Unit) =>
    bnd ((szT ("abc".toList).length (cutL ("abc".toList) none (some many))).bind fun v => R.ok (!decide (sign ∈ v))) fun b_ => if b_ = true then
      bnd (R.ok (at_)) fun u => O.er 2 [D.int u]
    else
      O.nx ()) () : O (Unit) _ _) fun (_ : Unit) =>
  bnd (R.ok (strip)) .rt
theorem tf_p_checked_by (many : Int) (strip : St) : Rf (h_p_checked_by [D.int many, eSt strip]) (f_p_checked_by many strip) eSt := by
  unfold h_p_checked_by runF b_p_checked_by f_p_checked_by
  exact g_fun (g_last (g_seq (g_thn (I' := (fun (_ : Unit) (σ : Sl) => ∃ d2 d3 : Option D, σ = [some (D.int many), some (eSt strip), d2, d3])) (g_forP (I := (fun (_ : Unit) (σ : Sl) => ∃ d2 d3 : Option D, σ = [some (D.int many), some (eSt strip), d2, d3])) (xs := enT 0 strip) (ri_enS_p (rf_o cl_st (rf_v (i := 1) (a := strip) eSt rfl))) ⟨_, _, rfl⟩ True.intro (fun q_ s_ σ_ h_ => by obtain ⟨at_, sign⟩ := q_; obtain ⟨d2, d3, rfl⟩ := h_; exact ⟨_, rfl, g_last (g_if (rf_ninC_pm (rf_v (i := 3) (a := sign) eCh rfl) (rf_slS_p (rf_k (a := "abc".toList) eSt (k_str _)) (sl_noP rfl) (sl_yesP (rf_v (i := 0) (a := many) D.int rfl)))) True.intro (g_raise1 cl_int nf_int (rf_v (i := 2) (a := at_) D.int rfl) True.intro) (g_skip (g_nx ⟨_, _, rfl⟩)))⟩)) fun s_ σ_ h_ => by obtain ⟨d2, d3, rfl⟩ := h_; exact (g_retR (rf_v (i := 1) (a := strip) eSt rfl) True.intro))))
noncomputable def f_p_checked (machine : (List (Turn × (List (Int × Int)) × Turn))) (strip : St) : R St := runO (L := Unit) (S := Unit) <|
  bnd ((f_p_signs_of machine).bind fun u => f_p_checked_by u strip) .rt
theorem tf_p_checked (machine : (List (Turn × (List (Int × Int)) × Turn))) (strip : St) : Rf (h_p_checked [(eSq (eT3 eTu (eSq (eT2 D.int D.int)) eTu)) machine, eSt strip]) (f_p_checked machine strip) eSt := by
  unfold h_p_checked runF b_p_checked f_p_checked
  exact g_fun (g_last (g_ret (rf_call2_mp (Φ := f_p_checked_by) tf_p_checked_by cl_int.fz cl_st.fz (.inl ⟨cl_int, cl_st, True.intro⟩) (rf_call1_p (Φ := f_p_signs_of) tf_p_signs_of (cl_sq (cl_t3 cl_tu (cl_sq (cl_t2 cl_int cl_int)) cl_tu)).fz (.inl ⟨(cl_sq (cl_t3 cl_tu (cl_sq (cl_t2 cl_int cl_int)) cl_tu)), True.intro⟩) (rf_v (i := 0) (a := machine) (eSq (eT3 eTu (eSq (eT2 D.int D.int)) eTu)) rfl)) (rf_v (i := 1) (a := strip) eSt rfl)) True.intro))
noncomputable def f_p_still (rooms : Int) : R ((List (Option (Int × Int))) × (List (Option (Int × Int)))) := runO (L := Unit) (S := Unit) <|
  bnd ((((rngT rooms).bind fun u => cmT u (fun room => R.ok (some ((1, room))))).bind fun u => R.ok (u)).bind fun u => (((rngT rooms).bind fun u => cmT u (fun room => R.ok (some (((-1), room))))).bind fun u => R.ok (u)).bind fun v => R.ok ((u, v))) .rt
theorem tf_p_still (rooms : Int) : Rf (h_p_still [D.int rooms]) (f_p_still rooms) (eT2 (eSq (eOp (eT2 D.int D.int))) (eSq (eOp (eT2 D.int D.int)))) := by
  unfold h_p_still runF b_p_still f_p_still
  exact g_fun (g_last (g_ret (rf_tup2_mm (rf_bip1_m (g := fun u => u) (bt_tupL (cl_op (cl_t2 cl_int cl_int))) (rf_cm_m (ri_r1_p (rf_v (i := 0) (a := rooms) D.int rfl)) (fun room => ⟨_, rfl, (rf_wid_p some (rf_tup2_pp (rf_k (a := 1) D.int rfl) (rf_o cl_int (rf_v (i := 1) (a := room) D.int rfl))) wd_some)⟩))) (rf_bip1_m (g := fun u => u) (bt_tupL (cl_op (cl_t2 cl_int cl_int))) (rf_cm_m (ri_r1_p (rf_v (i := 0) (a := rooms) D.int rfl)) (fun room => ⟨_, rfl, (rf_wid_p some (rf_tup2_pp (rf_neg_p (rf_k (a := 1) D.int rfl)) (rf_o cl_int (rf_v (i := 1) (a := room) D.int rfl))) wd_some)⟩)))) True.intro))
noncomputable def f_p_sign_table (machine : (List (Turn × (List (Int × Int)) × Turn))) (sign : St) : R ((List (Option (Int × Int))) × (List (Option (Int × Int)))) := runO (L := Unit) (S := Unit) <|
  bnd ((f_p_checked machine sign).bind fun v => idxT ("abc".toList) v : R Int) fun at_ =>
  bnd (cmT machine (fun row => ofR (L2.atI row.2.1 at_)) : R (List (Int × Int))) fun cells =>
  bnd ((cmT cells (fun cell => R.ok ((cell.2, cell.1)))).bind fun u => R.ok (u) : R (List (Int × Int))) fun things =>
  O.rt ((((List.map some) things), ((List.map some) things)))
theorem tf_p_sign_table (machine : (List (Turn × (List (Int × Int)) × Turn))) (sign : St) : Rf (h_p_sign_table [(eSq (eT3 eTu (eSq (eT2 D.int D.int)) eTu)) machine, eSt sign]) (f_p_sign_table machine sign) (eT2 (eSq (eOp (eT2 D.int D.int))) (eSq (eOp (eT2 D.int D.int)))) := by
  unfold h_p_sign_table runF b_p_sign_table f_p_sign_table
  exact g_fun (g_last (g_seq (g_set (i := 2) (rf_sidx_pm (rf_k (a := "abc".toList) eSt (k_str _)) (rf_call2_pp (Φ := f_p_checked) tf_p_checked (cl_sq (cl_t3 cl_tu (cl_sq (cl_t2 cl_int cl_int)) cl_tu)).fz cl_st.fz (.inl ⟨(cl_sq (cl_t3 cl_tu (cl_sq (cl_t2 cl_int cl_int)) cl_tu)), cl_st, True.intro⟩) (rf_v (i := 0) (a := machine) (eSq (eT3 eTu (eSq (eT2 D.int D.int)) eTu)) rfl) (rf_v (i := 1) (a := sign) eSt rfl))) True.intro fun at_ => (g_seq (g_set (i := 3) (rf_cm_p (ri_Q_p (cl_t3 cl_tu (cl_sq (cl_t2 cl_int cl_int)) cl_tu) (rf_v (i := 0) (a := machine) (eSq (eT3 eTu (eSq (eT2 D.int D.int)) eTu)) rfl)) (fun row => ⟨_, rfl, (rf_o (cl_t2 cl_int cl_int) (rf_ixQ_pp (rf_ix3_1_p (rf_v (i := 5) (a := row) (eT3 eTu (eSq (eT2 D.int D.int)) eTu) rfl)) (rf_v (i := 2) (a := at_) D.int rfl)))⟩)) True.intro fun cells => (g_seq (g_set (i := 4) (rf_bip1_m (g := fun u => u) (bt_tupL (cl_t2 cl_int cl_int)) (rf_cm_p (ri_L_p (cl_t2 cl_int cl_int) (rf_v (i := 3) (a := cells) (eLs true (eT2 D.int D.int)) rfl)) (fun cell => ⟨_, rfl, (rf_tup2_pp (rf_o cl_int (rf_ix2_1_p (rf_v (i := 6) (a := cell) (eT2 D.int D.int) rfl))) (rf_o cl_int (rf_ix2_0_p (rf_v (i := 6) (a := cell) (eT2 D.int D.int) rfl))))⟩))) True.intro fun things => (g_retP (a := (((List.map some) things), ((List.map some) things))) (rf_tup2_pp (rf_wid_p (List.map some) (rf_o (cl_sq (cl_t2 cl_int cl_int)) (rf_v (i := 4) (a := things) (eSq (eT2 D.int D.int)) rfl)) (wd_sq wd_some)) (rf_wid_p (List.map some) (rf_o (cl_sq (cl_t2 cl_int cl_int)) (rf_v (i := 4) (a := things) (eSq (eT2 D.int D.int)) rfl)) (wd_sq wd_some)))))))))))
noncomputable def f_p_followed (one : ((List (Option (Int × Int))) × (List (Option (Int × Int))))) (other : ((List (Option (Int × Int))) × (List (Option (Int × Int))))) (thing : (Option (Int × Int))) (behind_it : Bool) : R (Option (Int × Int)) := runO (L := Unit) (S := Unit) <|
  bnd (R.ok ([]) : R (List ((Bool × Int) × Bool))) fun seen =>
  O.thn (whlT (fun (thing, behind_it, seen) => R.ok (!thing.isNone)) (fun (thing, behind_it, seen) =>
    bnd (unO thing) fun (way, room) =>
    if (decide (behind_it = (decide (way = 1)))) = true then
      bnd (R.ok (thing)) .rt
    else
      if (hasT seen ((behind_it, room))) = true then
      O.rt (none)
    else
      bnd (R.ok (true)) fun v => bnd (R.ok ((behind_it, room))) fun k => bnd (puT seen k v) fun seen =>
    O.thn (if behind_it = true then
      bnd (ofR (L2.atI one.2 room) : R (Option (Int × Int))) fun thing =>
      O.nx thing
    else
      bnd (ofR (L2.atI other.1 room) : R (Option (Int × Int))) fun thing =>
      O.nx thing : O (Option (Int × Int)) _ _) fun thing =>
    bnd (R.ok (!behind_it) : R Bool) fun behind_it =>
    O.nx (thing, behind_it, seen)) (thing, behind_it, seen) : O ((Option (Int × Int)) × Bool × (List ((Bool × Int) × Bool))) _ _) fun (thing, behind_it, seen) =>
  O.rt (none)
theorem tf_p_followed (one : ((List (Option (Int × Int))) × (List (Option (Int × Int))))) (other : ((List (Option (Int × Int))) × (List (Option (Int × Int))))) (thing : (Option (Int × Int))) (behind_it : Bool) : Rf (h_p_followed [(eT2 (eSq (eOp (eT2 D.int D.int))) (eSq (eOp (eT2 D.int D.int)))) one, (eT2 (eSq (eOp (eT2 D.int D.int))) (eSq (eOp (eT2 D.int D.int)))) other, (eOp (eT2 D.int D.int)) thing, D.bl behind_it]) (f_p_followed one other thing behind_it) (eOp (eT2 D.int D.int)) := by
  unfold h_p_followed runF b_p_followed f_p_followed
  exact g_fun (g_last (g_seq (g_set (i := 4) (rf_d0 (κ := (kT2 kBl kInt)) (e' := D.bl)) True.intro fun seen => (g_seq (g_thn (I' := (fun (s_ : (Option (Int × Int)) × Bool × (List ((Bool × Int) × Bool))) (σ : Sl) => match s_ with | (thing, behind_it, seen) => ∃ d5 d6 : Option D, σ = [some ((eT2 (eSq (eOp (eT2 D.int D.int))) (eSq (eOp (eT2 D.int D.int)))) one), some ((eT2 (eSq (eOp (eT2 D.int D.int))) (eSq (eOp (eT2 D.int D.int)))) other), some ((eOp (eT2 D.int D.int)) thing), some (D.bl behind_it), some ((eDc true (kT2 kBl kInt) D.bl) seen), d5, d6])) (g_whl (I := (fun (s_ : (Option (Int × Int)) × Bool × (List ((Bool × Int) × Bool))) (σ : Sl) => match s_ with | (thing, behind_it, seen) => ∃ d5 d6 : Option D, σ = [some ((eT2 (eSq (eOp (eT2 D.int D.int))) (eSq (eOp (eT2 D.int D.int)))) one), some ((eT2 (eSq (eOp (eT2 D.int D.int))) (eSq (eOp (eT2 D.int D.int)))) other), some ((eOp (eT2 D.int D.int)) thing), some (D.bl behind_it), some ((eDc true (kT2 kBl kInt) D.bl) seen), d5, d6])) ⟨_, _, rfl⟩ (fun _ _ _ => True.intro) (fun s_ σ_ h_ => by obtain ⟨thing, behind_it, seen⟩ := s_; obtain ⟨d5, d6, rfl⟩ := h_; exact (rf_ntN_p (b := Option.isNone) (isN_op (fun _ => rfl)) (rf_v (i := 2) (a := thing) (eOp (eT2 D.int D.int)) rfl))) (fun s_ σ_ h_ => by obtain ⟨thing, behind_it, seen⟩ := s_; obtain ⟨d5, d6, rfl⟩ := h_; exact g_last (g_seq (g_unp (cl_t2 cl_int cl_int) (rf_nar_p unO (rf_v (i := 2) (a := thing) (eOp (eT2 D.int D.int)) rfl) nw_unO) True.intro fun q_ => by obtain ⟨way, room⟩ := q_; exact ⟨_, rfl, (g_seq (g_ifP (b := decide (behind_it = (decide (way = 1)))) (rf_eq_pp py_bl py_bl pq_bl (by decide) (by decide) (rf_v (i := 3) (a := behind_it) D.bl rfl) (rf_eq_pp py_int py_int pq_int (by decide) (by decide) (rf_v (i := 5) (a := way) D.int rfl) (rf_k (a := 1) D.int rfl))) (g_retR (rf_v (i := 2) (a := thing) (eOp (eT2 D.int D.int)) rfl) True.intro) (g_skip (g_seq (g_ifP (b := hasT seen ((behind_it, room))) (rf_inD_pp kd_bi (rf_tup2_pp (rf_o cl_bl (rf_v (i := 3) (a := behind_it) D.bl rfl)) (rf_o cl_int (rf_v (i := 6) (a := room) D.int rfl))) (rf_v (i := 4) (a := seen) (eDc true (kT2 kBl kInt) D.bl) rfl)) (g_retP (a := none) (rf_wid_p (fun _ => none) (rf_k (a := ()) eNon rfl) (wd_none (e := (eT2 D.int D.int))))) (g_skip (g_seq (g_putk (i := 4) (kvs := seen) D.bl kd_bi cl_bl rfl (rf_k (a := true) D.bl rfl) (rf_tup2_pp (rf_o cl_bl (rf_v (i := 3) (a := behind_it) D.bl rfl)) (rf_o cl_int (rf_v (i := 6) (a := room) D.int rfl))) True.intro fun seen => (g_seq (g_thn (I' := (fun (thing : (Option (Int × Int))) (σ : Sl) => σ = [some ((eT2 (eSq (eOp (eT2 D.int D.int))) (eSq (eOp (eT2 D.int D.int)))) one), some ((eT2 (eSq (eOp (eT2 D.int D.int))) (eSq (eOp (eT2 D.int D.int)))) other), some ((eOp (eT2 D.int D.int)) thing), some (D.bl behind_it), some ((eDc true (kT2 kBl kInt) D.bl) seen), some (D.int way), some (D.int room)])) (g_last (g_ifP (b := behind_it) (rf_v (i := 3) (a := behind_it) D.bl rfl) (g_set (i := 2) (rf_o (cl_op (cl_t2 cl_int cl_int)) (rf_ixQ_pp (rf_ix2_1_p (rf_v (i := 0) (a := one) (eT2 (eSq (eOp (eT2 D.int D.int))) (eSq (eOp (eT2 D.int D.int)))) rfl)) (rf_v (i := 6) (a := room) D.int rfl))) True.intro fun thing => (g_nx rfl)) (g_set (i := 2) (rf_o (cl_op (cl_t2 cl_int cl_int)) (rf_ixQ_pp (rf_ix2_0_p (rf_v (i := 1) (a := other) (eT2 (eSq (eOp (eT2 D.int D.int))) (eSq (eOp (eT2 D.int D.int)))) rfl)) (rf_v (i := 6) (a := room) D.int rfl))) True.intro fun thing => (g_nx rfl)))) fun thing σ_ h_ => by obtain rfl := h_; exact (g_set (i := 3) (rf_not_p (rf_v (i := 3) (a := behind_it) D.bl rfl)) True.intro fun behind_it => (g_nx ⟨_, _, rfl⟩))))))))))))⟩)))) fun s_ σ_ h_ => by obtain ⟨thing, behind_it, seen⟩ := s_; obtain ⟨d5, d6, rfl⟩ := h_; exact (g_retP (a := none) (rf_wid_p (fun _ => none) (rf_k (a := ()) eNon rfl) (wd_none (e := (eT2 D.int D.int))))))))))
noncomputable def f_p_behind (one : ((List (Option (Int × Int))) × (List (Option (Int × Int))))) (other : ((List (Option (Int × Int))) × (List (Option (Int × Int))))) : R ((List (Option (Int × Int))) × (List (Option (Int × Int)))) := runO (L := Unit) (S := Unit) <|
  bnd (cmT one.1 (fun thing => f_p_followed one other thing false) : R (List (Option (Int × Int)))) fun fore =>
  bnd (cmT other.2 (fun thing => f_p_followed one other thing true) : R (List (Option (Int × Int)))) fun aft =>
  O.rt ((fore, aft))
theorem tf_p_behind (one : ((List (Option (Int × Int))) × (List (Option (Int × Int))))) (other : ((List (Option (Int × Int))) × (List (Option (Int × Int))))) : Rf (h_p_behind [(eT2 (eSq (eOp (eT2 D.int D.int))) (eSq (eOp (eT2 D.int D.int)))) one, (eT2 (eSq (eOp (eT2 D.int D.int))) (eSq (eOp (eT2 D.int D.int)))) other]) (f_p_behind one other) (eT2 (eSq (eOp (eT2 D.int D.int))) (eSq (eOp (eT2 D.int D.int)))) := by
  unfold h_p_behind runF b_p_behind f_p_behind
  exact g_fun (g_last (g_seq (g_set (i := 2) (rf_cm_p (ri_Q_p (cl_op (cl_t2 cl_int cl_int)) (rf_ix2_0_p (rf_v (i := 0) (a := one) (eT2 (eSq (eOp (eT2 D.int D.int))) (eSq (eOp (eT2 D.int D.int)))) rfl))) (fun thing => ⟨_, rfl, (rf_call4_pppp (Φ := f_p_followed) tf_p_followed (cl_t2 (cl_sq (cl_op (cl_t2 cl_int cl_int))) (cl_sq (cl_op (cl_t2 cl_int cl_int)))).fz (cl_t2 (cl_sq (cl_op (cl_t2 cl_int cl_int))) (cl_sq (cl_op (cl_t2 cl_int cl_int)))).fz (cl_op (cl_t2 cl_int cl_int)).fz cl_bl.fz (.inl ⟨(cl_t2 (cl_sq (cl_op (cl_t2 cl_int cl_int))) (cl_sq (cl_op (cl_t2 cl_int cl_int)))), (cl_t2 (cl_sq (cl_op (cl_t2 cl_int cl_int))) (cl_sq (cl_op (cl_t2 cl_int cl_int)))), (cl_op (cl_t2 cl_int cl_int)), cl_bl, True.intro⟩) (rf_v (i := 0) (a := one) (eT2 (eSq (eOp (eT2 D.int D.int))) (eSq (eOp (eT2 D.int D.int)))) rfl) (rf_v (i := 1) (a := other) (eT2 (eSq (eOp (eT2 D.int D.int))) (eSq (eOp (eT2 D.int D.int)))) rfl) (rf_v (i := 4) (a := thing) (eOp (eT2 D.int D.int)) rfl) (rf_k (a := false) D.bl rfl))⟩)) True.intro fun fore => (g_seq (g_set (i := 3) (rf_cm_p (ri_Q_p (cl_op (cl_t2 cl_int cl_int)) (rf_ix2_1_p (rf_v (i := 1) (a := other) (eT2 (eSq (eOp (eT2 D.int D.int))) (eSq (eOp (eT2 D.int D.int)))) rfl))) (fun thing => ⟨_, rfl, (rf_call4_pppp (Φ := f_p_followed) tf_p_followed (cl_t2 (cl_sq (cl_op (cl_t2 cl_int cl_int))) (cl_sq (cl_op (cl_t2 cl_int cl_int)))).fz (cl_t2 (cl_sq (cl_op (cl_t2 cl_int cl_int))) (cl_sq (cl_op (cl_t2 cl_int cl_int)))).fz (cl_op (cl_t2 cl_int cl_int)).fz cl_bl.fz (.inl ⟨(cl_t2 (cl_sq (cl_op (cl_t2 cl_int cl_int))) (cl_sq (cl_op (cl_t2 cl_int cl_int)))), (cl_t2 (cl_sq (cl_op (cl_t2 cl_int cl_int))) (cl_sq (cl_op (cl_t2 cl_int cl_int)))), (cl_op (cl_t2 cl_int cl_int)), cl_bl, True.intro⟩) (rf_v (i := 0) (a := one) (eT2 (eSq (eOp (eT2 D.int D.int))) (eSq (eOp (eT2 D.int D.int)))) rfl) (rf_v (i := 1) (a := other) (eT2 (eSq (eOp (eT2 D.int D.int))) (eSq (eOp (eT2 D.int D.int)))) rfl) (rf_v (i := 4) (a := thing) (eOp (eT2 D.int D.int)) rfl) (rf_k (a := true) D.bl rfl))⟩)) True.intro fun aft => (g_retP (a := (fore, aft)) (rf_tup2_pp (rf_bip1_p (g := fun u => u) (bt_tupL (cl_op (cl_t2 cl_int cl_int))) (rf_v (i := 2) (a := fore) (eLs true (eOp (eT2 D.int D.int))) rfl)) (rf_bip1_p (g := fun u => u) (bt_tupL (cl_op (cl_t2 cl_int cl_int))) (rf_v (i := 3) (a := aft) (eLs true (eOp (eT2 D.int D.int))) rfl)))))))))
noncomputable def f_p_all_tables (machine : (List (Turn × (List (Int × Int)) × Turn))) : R (List (St × ((List (Option (Int × Int))) × (List (Option (Int × Int)))))) := runO (L := Unit) (S := Unit) <|
  bnd ((((R.ok ("abc".toList)).bind fun xs => (R.ok none).bind fun i => (okN (f_p_signs_of machine)).bind fun j => szT xs.length (cutL xs i j)).bind fun u => R.ok u).bind fun u => cmT u (fun sign => (f_p_sign_table machine ([sign])).bind fun v => R.ok ((sign, v))) : R (List (Char × ((List (Option (Int × Int))) × (List (Option (Int × Int))))))) fun steps =>
  bnd ((((f_p_still ((machine.length : Int))).bind fun v => R.ok ((("".toList), v))).bind fun u => (R.ok []).bind fun l => R.ok (u :: l)).bind fun l => szT l.length l : R (List (St × ((List (Option (Int × Int))) × (List (Option (Int × Int))))))) fun found =>
  bnd (((ofR (L2.atI found 0)).bind fun u => R.ok (u.2)).bind fun u => (R.ok (true)).bind fun v => R.ok [(u, v)] : R (List (((List (Option (Int × Int))) × (List (Option (Int × Int)))) × Bool))) fun met =>
  bnd (R.ok (0) : R Int) fun at_ =>
  O.thn (whlT (fun (found, met, at_) => R.ok (decide (at_ < ((found.length : Int))))) (fun (found, met, at_) =>
    bnd (ofR (L2.atI found at_)) fun (strip, table) =>
    O.thn (forT steps (fun (sign, step) (found, met) =>
      bnd (f_p_behind table step : R ((List (Option (Int × Int))) × (List (Option (Int × Int))))) fun fresh =>
      if (!hasT met fresh) = true then
        if (decide (((found.length : Int)) = 300)) = true then
          O.er 3 []
        else
          bnd (R.ok (true)) fun v => bnd (R.ok (fresh)) fun k => bnd (puT met k v) fun met =>
        bnd ((szT (strip.length + ([sign]).length) (strip ++ ([sign]))).bind fun u => R.ok ((u, fresh))) fun u => bnd (apT found u) fun found =>
        O.nx (found, met)
      else
        O.nx (found, met)) (found, met) : O ((List (St × ((List (Option (Int × Int))) × (List (Option (Int × Int)))))) × (List (((List (Option (Int × Int))) × (List (Option (Int × Int)))) × Bool))) _ _) fun (found, met) =>
    bnd (R.ok (at_ + 1) : R Int) fun at_ =>
    O.nx (found, met, at_)) (found, met, at_) : O ((List (St × ((List (Option (Int × Int))) × (List (Option (Int × Int)))))) × (List (((List (Option (Int × Int))) × (List (Option (Int × Int)))) × Bool)) × Int) _ _) fun (found, met, at_) =>
  bnd (R.ok (found)) .rt
theorem tf_p_all_tables (machine : (List (Turn × (List (Int × Int)) × Turn))) : Rf (h_p_all_tables [(eSq (eT3 eTu (eSq (eT2 D.int D.int)) eTu)) machine]) (f_p_all_tables machine) (eLs true (eT2 eSt (eT2 (eSq (eOp (eT2 D.int D.int))) (eSq (eOp (eT2 D.int D.int)))))) := by
  unfold h_p_all_tables runF b_p_all_tables f_p_all_tables
  exact g_fun (g_last (g_seq (g_set (i := 1) (rf_cm_m (ri_S_m (rf_slS (lo := R.ok none) (hi := okN (f_p_signs_of machine)) (rf_k (a := "abc".toList) eSt (k_str _)) (fun _ => sl_no rfl) (fun _ => sl_yes (rf_call1_p (Φ := f_p_signs_of) tf_p_signs_of (cl_sq (cl_t3 cl_tu (cl_sq (cl_t2 cl_int cl_int)) cl_tu)).fz (.inl ⟨(cl_sq (cl_t3 cl_tu (cl_sq (cl_t2 cl_int cl_int)) cl_tu)), True.intro⟩) (rf_v (i := 0) (a := machine) (eSq (eT3 eTu (eSq (eT2 D.int D.int)) eTu)) rfl))) ne_no ne_okN)) (fun sign => ⟨_, rfl, (rf_tup2_pm (rf_o cl_ch (rf_v (i := 7) (a := sign) eCh rfl)) (rf_call2_pp (Φ := f_p_sign_table) tf_p_sign_table (cl_sq (cl_t3 cl_tu (cl_sq (cl_t2 cl_int cl_int)) cl_tu)).fz cl_st.fz (.inl ⟨(cl_sq (cl_t3 cl_tu (cl_sq (cl_t2 cl_int cl_int)) cl_tu)), cl_st, True.intro⟩) (rf_v (i := 0) (a := machine) (eSq (eT3 eTu (eSq (eT2 D.int D.int)) eTu)) rfl) (rf_wid_p (fun c => [c]) (rf_v (i := 7) (a := sign) eCh rfl) wd_chr)))⟩)) True.intro fun steps => (g_seq (g_set (i := 2) (rf_lst (rl_cons (rf_tup2_pm (rf_k (a := "".toList) eSt (k_str _)) (rf_call1_p (Φ := f_p_still) tf_p_still cl_int.fz (.inl ⟨cl_int, True.intro⟩) (rf_bip1_p (g := fun u => (List.length u : Int)) bt_lenQ (rf_v (i := 0) (a := machine) (eSq (eT3 eTu (eSq (eT2 D.int D.int)) eTu)) rfl)))) rl_nil)) True.intro fun found => (g_seq (g_set (i := 3) (rf_dN1 (ky_t2 (ky_sq (ky_op (ky_t2 ky_int ky_int) kn_t2)) (ky_sq (ky_op (ky_t2 ky_int ky_int) kn_t2))) kt_t2 (by decide) cl_bl (rf_ix2_1_m (rf_ixL_pp (rf_v (i := 2) (a := found) (eLs true (eT2 eSt (eT2 (eSq (eOp (eT2 D.int D.int))) (eSq (eOp (eT2 D.int D.int)))))) rfl) (rf_k (a := 0) D.int rfl))) (rf_k (a := true) D.bl rfl)) True.intro fun met => (g_seq (g_set (i := 4) (rf_k (a := 0) D.int rfl) True.intro fun at_ => (g_fz (i := 1) (a := steps) (eLs true (eT2 eCh (eT2 (eSq (eOp (eT2 D.int D.int))) (eSq (eOp (eT2 D.int D.int)))))) rfl (fz_ls (cl_t2 cl_ch (cl_t2 (cl_sq (cl_op (cl_t2 cl_int cl_int))) (cl_sq (cl_op (cl_t2 cl_int cl_int))))).fz) (g_seq (g_thn (I' := (fun (s_ : (List (St × ((List (Option (Int × Int))) × (List (Option (Int × Int)))))) × (List (((List (Option (Int × Int))) × (List (Option (Int × Int)))) × Bool)) × Int) (σ : Sl) => match s_ with | (found, met, at_) => ∃ d5 d6 d7 d8 d9 : Option D, σ = [some ((eSq (eT3 eTu (eSq (eT2 D.int D.int)) eTu)) machine), some ((eLs false (eT2 eCh (eT2 (eSq (eOp (eT2 D.int D.int))) (eSq (eOp (eT2 D.int D.int)))))) steps), some ((eLs true (eT2 eSt (eT2 (eSq (eOp (eT2 D.int D.int))) (eSq (eOp (eT2 D.int D.int)))))) found), some ((eDc true (kT2 (kSq (kOp (kT2 kInt kInt))) (kSq (kOp (kT2 kInt kInt)))) D.bl) met), some (D.int at_), d5, d6, d7, d8, d9])) (g_whl (I := (fun (s_ : (List (St × ((List (Option (Int × Int))) × (List (Option (Int × Int)))))) × (List (((List (Option (Int × Int))) × (List (Option (Int × Int)))) × Bool)) × Int) (σ : Sl) => match s_ with | (found, met, at_) => ∃ d5 d6 d7 d8 d9 : Option D, σ = [some ((eSq (eT3 eTu (eSq (eT2 D.int D.int)) eTu)) machine), some ((eLs false (eT2 eCh (eT2 (eSq (eOp (eT2 D.int D.int))) (eSq (eOp (eT2 D.int D.int)))))) steps), some ((eLs true (eT2 eSt (eT2 (eSq (eOp (eT2 D.int D.int))) (eSq (eOp (eT2 D.int D.int)))))) found), some ((eDc true (kT2 (kSq (kOp (kT2 kInt kInt))) (kSq (kOp (kT2 kInt kInt)))) D.bl) met), some (D.int at_), d5, d6, d7, d8, d9])) ⟨_, _, _, _, _, rfl⟩ (fun _ _ _ => True.intro) (fun s_ σ_ h_ => by obtain ⟨found, met, at_⟩ := s_; obtain ⟨d5, d6, d7, d8, d9, rfl⟩ := h_; exact (rf_lt_pp (rf_v (i := 4) (a := at_) D.int rfl) (rf_bip1_p (g := fun u => (List.length u : Int)) bt_lenL (rf_v (i := 2) (a := found) (eLs true (eT2 eSt (eT2 (eSq (eOp (eT2 D.int D.int))) (eSq (eOp (eT2 D.int D.int)))))) rfl)))) (fun s_ σ_ h_ => by obtain ⟨found, met, at_⟩ := s_; obtain ⟨d5, d6, d7, d8, d9, rfl⟩ := h_; exact g_last (g_seq (g_unp (cl_t2 cl_st (cl_t2 (cl_sq (cl_op (cl_t2 cl_int cl_int))) (cl_sq (cl_op (cl_t2 cl_int cl_int))))) (rf_ixL_pp (rf_v (i := 2) (a := found) (eLs true (eT2 eSt (eT2 (eSq (eOp (eT2 D.int D.int))) (eSq (eOp (eT2 D.int D.int)))))) rfl) (rf_v (i := 4) (a := at_) D.int rfl)) True.intro fun q_ => by obtain ⟨strip, table⟩ := q_; exact ⟨_, rfl, (g_fz (i := 1) (a := steps) (eLs false (eT2 eCh (eT2 (eSq (eOp (eT2 D.int D.int))) (eSq (eOp (eT2 D.int D.int)))))) rfl (cl_ls (cl_t2 cl_ch (cl_t2 (cl_sq (cl_op (cl_t2 cl_int cl_int))) (cl_sq (cl_op (cl_t2 cl_int cl_int)))))).fz (g_seq (g_thn (I' := (fun (s_ : (List (St × ((List (Option (Int × Int))) × (List (Option (Int × Int)))))) × (List (((List (Option (Int × Int))) × (List (Option (Int × Int)))) × Bool))) (σ : Sl) => match s_ with | (found, met) => ∃ d7 d8 d9 : Option D, σ = [some ((eSq (eT3 eTu (eSq (eT2 D.int D.int)) eTu)) machine), some ((eLs false (eT2 eCh (eT2 (eSq (eOp (eT2 D.int D.int))) (eSq (eOp (eT2 D.int D.int)))))) steps), some ((eLs true (eT2 eSt (eT2 (eSq (eOp (eT2 D.int D.int))) (eSq (eOp (eT2 D.int D.int)))))) found), some ((eDc true (kT2 (kSq (kOp (kT2 kInt kInt))) (kSq (kOp (kT2 kInt kInt)))) D.bl) met), some (D.int at_), some (eSt strip), some ((eT2 (eSq (eOp (eT2 D.int D.int))) (eSq (eOp (eT2 D.int D.int)))) table), d7, d8, d9])) (g_forP (I := (fun (s_ : (List (St × ((List (Option (Int × Int))) × (List (Option (Int × Int)))))) × (List (((List (Option (Int × Int))) × (List (Option (Int × Int)))) × Bool))) (σ : Sl) => match s_ with | (found, met) => ∃ d7 d8 d9 : Option D, σ = [some ((eSq (eT3 eTu (eSq (eT2 D.int D.int)) eTu)) machine), some ((eLs false (eT2 eCh (eT2 (eSq (eOp (eT2 D.int D.int))) (eSq (eOp (eT2 D.int D.int)))))) steps), some ((eLs true (eT2 eSt (eT2 (eSq (eOp (eT2 D.int D.int))) (eSq (eOp (eT2 D.int D.int)))))) found), some ((eDc true (kT2 (kSq (kOp (kT2 kInt kInt))) (kSq (kOp (kT2 kInt kInt)))) D.bl) met), some (D.int at_), some (eSt strip), some ((eT2 (eSq (eOp (eT2 D.int D.int))) (eSq (eOp (eT2 D.int D.int)))) table), d7, d8, d9])) (xs := steps) (ri_L_p (cl_t2 cl_ch (cl_t2 (cl_sq (cl_op (cl_t2 cl_int cl_int))) (cl_sq (cl_op (cl_t2 cl_int cl_int))))) (rf_o (cl_ls (cl_t2 cl_ch (cl_t2 (cl_sq (cl_op (cl_t2 cl_int cl_int))) (cl_sq (cl_op (cl_t2 cl_int cl_int)))))) (rf_v (i := 1) (a := steps) (eLs false (eT2 eCh (eT2 (eSq (eOp (eT2 D.int D.int))) (eSq (eOp (eT2 D.int D.int)))))) rfl))) ⟨_, _, _, rfl⟩ True.intro (fun q_ s_ σ_ h_ => by obtain ⟨sign, step⟩ := q_; obtain ⟨found, met⟩ := s_; obtain ⟨d7, d8, d9, rfl⟩ := h_; exact ⟨_, rfl, g_last (g_seq (g_set (i := 9) (rf_call2_pp (Φ := f_p_behind) tf_p_behind (cl_t2 (cl_sq (cl_op (cl_t2 cl_int cl_int))) (cl_sq (cl_op (cl_t2 cl_int cl_int)))).fz (cl_t2 (cl_sq (cl_op (cl_t2 cl_int cl_int))) (cl_sq (cl_op (cl_t2 cl_int cl_int)))).fz (.inl ⟨(cl_t2 (cl_sq (cl_op (cl_t2 cl_int cl_int))) (cl_sq (cl_op (cl_t2 cl_int cl_int)))), (cl_t2 (cl_sq (cl_op (cl_t2 cl_int cl_int))) (cl_sq (cl_op (cl_t2 cl_int cl_int)))), True.intro⟩) (rf_v (i := 6) (a := table) (eT2 (eSq (eOp (eT2 D.int D.int))) (eSq (eOp (eT2 D.int D.int)))) rfl) (rf_v (i := 8) (a := step) (eT2 (eSq (eOp (eT2 D.int D.int))) (eSq (eOp (eT2 D.int D.int)))) rfl)) True.intro fun fresh => (g_ifP (b := !hasT met fresh) (rf_ninD_pp ((ky_t2 (ky_sq (ky_op (ky_t2 ky_int ky_int) kn_t2)) (ky_sq (ky_op (ky_t2 ky_int ky_int) kn_t2))).tupk kt_t2 (by decide)) (rf_v (i := 9) (a := fresh) (eT2 (eSq (eOp (eT2 D.int D.int))) (eSq (eOp (eT2 D.int D.int)))) rfl) (rf_v (i := 3) (a := met) (eDc true (kT2 (kSq (kOp (kT2 kInt kInt))) (kSq (kOp (kT2 kInt kInt)))) D.bl) rfl)) (g_seq (g_ifP (b := decide (((found.length : Int)) = 300)) (rf_eq_pp py_int py_int pq_int (by decide) (by decide) (rf_bip1_p (g := fun u => (List.length u : Int)) bt_lenL (rf_v (i := 2) (a := found) (eLs true (eT2 eSt (eT2 (eSq (eOp (eT2 D.int D.int))) (eSq (eOp (eT2 D.int D.int)))))) rfl)) (rf_k (a := 300) D.int rfl)) (g_raise0 True.intro) (g_skip (g_seq (g_putk (i := 3) (kvs := met) D.bl ((ky_t2 (ky_sq (ky_op (ky_t2 ky_int ky_int) kn_t2)) (ky_sq (ky_op (ky_t2 ky_int ky_int) kn_t2))).tupk kt_t2 (by decide)) cl_bl rfl (rf_k (a := true) D.bl rfl) (rf_v (i := 9) (a := fresh) (eT2 (eSq (eOp (eT2 D.int D.int))) (eSq (eOp (eT2 D.int D.int)))) rfl) True.intro fun met => (g_fz (i := 9) (a := fresh) (eT2 (eSq (eOp (eT2 D.int D.int))) (eSq (eOp (eT2 D.int D.int)))) rfl (cl_t2 (cl_sq (cl_op (cl_t2 cl_int cl_int))) (cl_sq (cl_op (cl_t2 cl_int cl_int)))).fz (g_app (i := 2) (xs := found) (eT2 eSt (eT2 (eSq (eOp (eT2 D.int D.int))) (eSq (eOp (eT2 D.int D.int))))) rfl (rf_tup2_mp (rf_addS_pp (rf_v (i := 5) (a := strip) eSt rfl) (rf_wid_p (fun c => [c]) (rf_v (i := 7) (a := sign) eCh rfl) wd_chr)) (rf_o (cl_t2 (cl_sq (cl_op (cl_t2 cl_int cl_int))) (cl_sq (cl_op (cl_t2 cl_int cl_int)))) (rf_v (i := 9) (a := fresh) (eT2 (eSq (eOp (eT2 D.int D.int))) (eSq (eOp (eT2 D.int D.int)))) rfl))) True.intro fun found => (g_nx ⟨_, _, _, rfl⟩)))))))) (g_skip (g_nx ⟨_, _, _, rfl⟩)))))⟩)) fun s_ σ_ h_ => by obtain ⟨found, met⟩ := s_; obtain ⟨d7, d8, d9, rfl⟩ := h_; exact (g_set (i := 4) (rf_add_pp (rf_v (i := 4) (a := at_) D.int rfl) (rf_k (a := 1) D.int rfl)) True.intro fun at_ => (g_nx ⟨_, _, _, _, _, rfl⟩)))))⟩)))) fun s_ σ_ h_ => by obtain ⟨found, met, at_⟩ := s_; obtain ⟨d5, d6, d7, d8, d9, rfl⟩ := h_; exact (g_retR (rf_v (i := 2) (a := found) (eLs true (eT2 eSt (eT2 (eSq (eOp (eT2 D.int D.int))) (eSq (eOp (eT2 D.int D.int)))))) rfl) True.intro)))))))))))))
noncomputable def f_l_whole (found : Int) : R Bool := runO (L := Unit) (S := Unit) <|
  O.rt (true && (!false))
theorem tf_l_whole (found : Int) : Rf (h_l_whole [D.int found]) (f_l_whole found) D.bl := by
  unfold h_l_whole runF b_l_whole f_l_whole
  exact g_fun (g_last (g_retP (a := true && (!false)) (rf_o cl_bl (rf_andP_p (rf_isi_p (b := fun _ => true) (fun _ => rfl) (rf_v (i := 0) (a := found) D.int rfl)) (rf_not_p (rf_isi_p (b := fun _ => false) (fun _ => rfl) (rf_v (i := 0) (a := found) D.int rfl)))))))
noncomputable def f_l_is_thing (found : (Option (Int × Int))) : R Bool := runO (L := Unit) (S := Unit) <|
  if found.isNone = true then
    O.rt (true)
  else
    bnd (if (found.isSome && true) = true then ((((unO found).bind fun u => R.ok ((fun p => [ p.1,  p.2]) u)).bind fun u => R.ok ((u.length : Int))).bind fun u => R.ok (decide (u = 2))).bind fun u => if u = true then ((((unO found).bind fun u => R.ok ((fun p => [ p.1,  p.2]) u)).bind fun u => R.ok u).bind fun u => cmT u (fun number => f_l_whole number)).bind fun u => R.ok (u.all id) else R.ok false else R.ok false) .rt
theorem tf_l_is_thing (found : (Option (Int × Int))) : Rf (h_l_is_thing [(eOp (eT2 D.int D.int)) found]) (f_l_is_thing found) D.bl := by
  unfold h_l_is_thing runF b_l_is_thing f_l_is_thing
  exact g_fun (g_last (g_seq (g_ifP (b := found.isNone) (rf_isN_p (b := Option.isNone) (isN_op (fun _ => rfl)) (rf_v (i := 0) (a := found) (eOp (eT2 D.int D.int)) rfl)) (g_retP (a := true) (rf_k (a := true) D.bl rfl)) (g_skip (g_ret (rf_o cl_bl (rf_and_p (rf_isi_p (b := fun a => a.isSome && true) (op_isTy (fun _ => rfl) rfl) (rf_v (i := 0) (a := found) (eOp (eT2 D.int D.int)) rfl)) (rf_and_m (rf_eq_mp py_int py_int pq_int (by decide) (by decide) (rf_bip1_m (g := fun u => (List.length u : Int)) bt_lenQ (rf_wid_m (fun p => [ p.1,  p.2]) (rf_nar_p unO (rf_v (i := 0) (a := found) (eOp (eT2 D.int D.int)) rfl) nw_unO) (wd_q2 wd_id wd_id))) (rf_k (a := 2) D.int rfl)) (rf_bip1_m (g := fun u => List.all u id) bt_all (rf_cm_m (ri_Q_m cl_int (rf_wid_m (fun p => [ p.1,  p.2]) (rf_nar_p unO (rf_v (i := 0) (a := found) (eOp (eT2 D.int D.int)) rfl) nw_unO) (wd_q2 wd_id wd_id))) (fun number => ⟨_, rfl, (rf_call1_p (Φ := f_l_whole) tf_l_whole cl_int.fz (.inl ⟨cl_int, True.intro⟩) (rf_v (i := 1) (a := number) D.int rfl))⟩)))))) True.intro)))))
noncomputable def f_l_is_table (found : ((List (Option (Int × Int))) × (List (Option (Int × Int))))) (due : ((List (Option (Int × Int))) × (List (Option (Int × Int))))) : R Bool := runO (L := Unit) (S := Unit) <|
  if ((!true) || ((!decide (((((fun p => [ p.1,  p.2]) found).length : Int)) = 2)) || (!decide (found = due)))) = true then
    O.rt (false)
  else
    O.thn (forT ((fun p => [ p.1,  p.2]) found) (fun things (_ : Unit) =>
    bnd (if (!true) = true then R.ok true else ((cmT things (fun thing => f_l_is_thing thing)).bind fun u => R.ok (u.all id)).bind fun u => R.ok (!u)) fun b_ => if b_ = true then
      O.rt (false)
    else
      O.nx ()) () : O (Unit) _ _) fun (_ : Unit) =>
  O.rt (true)
theorem tf_l_is_table (found : ((List (Option (Int × Int))) × (List (Option (Int × Int))))) (due : ((List (Option (Int × Int))) × (List (Option (Int × Int))))) : Rf (h_l_is_table [(eT2 (eSq (eOp (eT2 D.int D.int))) (eSq (eOp (eT2 D.int D.int)))) found, (eT2 (eSq (eOp (eT2 D.int D.int))) (eSq (eOp (eT2 D.int D.int)))) due]) (f_l_is_table found due) D.bl := by
  unfold h_l_is_table runF b_l_is_table f_l_is_table
  exact g_fun (g_last (g_seq (g_ifP (b := (!true) || ((!decide (((((fun p => [ p.1,  p.2]) found).length : Int)) = 2)) || (!decide (found = due)))) (rf_orP_p (rf_not_p (rf_isi_p (b := fun _ => true) (fun _ => rfl) (rf_v (i := 0) (a := found) (eT2 (eSq (eOp (eT2 D.int D.int))) (eSq (eOp (eT2 D.int D.int)))) rfl))) (rf_orP_p (rf_ne_pp py_int py_int pq_int (by decide) (by decide) (rf_bip1_p (g := fun u => (List.length u : Int)) bt_lenQ (rf_wid_p (fun p => [ p.1,  p.2]) (rf_v (i := 0) (a := found) (eT2 (eSq (eOp (eT2 D.int D.int))) (eSq (eOp (eT2 D.int D.int)))) rfl) (wd_q2 wd_id wd_id))) (rf_k (a := 2) D.int rfl)) (rf_ne_pp (py_t2 (py_sq (py_op (py_t2 py_int py_int))) (py_sq (py_op (py_t2 py_int py_int)))) (py_t2 (py_sq (py_op (py_t2 py_int py_int))) (py_sq (py_op (py_t2 py_int py_int)))) (pq_t2 (pq_sq (pq_op (pq_t2 pq_int pq_int) nn_t2)) (pq_sq (pq_op (pq_t2 pq_int pq_int) nn_t2))) (by decide) (by decide) (rf_v (i := 0) (a := found) (eT2 (eSq (eOp (eT2 D.int D.int))) (eSq (eOp (eT2 D.int D.int)))) rfl) (rf_v (i := 1) (a := due) (eT2 (eSq (eOp (eT2 D.int D.int))) (eSq (eOp (eT2 D.int D.int)))) rfl)))) (g_retP (a := false) (rf_k (a := false) D.bl rfl)) (g_skip (g_seq (g_thn (I' := (fun (_ : Unit) (σ : Sl) => ∃ d2 d3 : Option D, σ = [some ((eT2 (eSq (eOp (eT2 D.int D.int))) (eSq (eOp (eT2 D.int D.int)))) found), some ((eT2 (eSq (eOp (eT2 D.int D.int))) (eSq (eOp (eT2 D.int D.int)))) due), d2, d3])) (g_forP (I := (fun (_ : Unit) (σ : Sl) => ∃ d2 d3 : Option D, σ = [some ((eT2 (eSq (eOp (eT2 D.int D.int))) (eSq (eOp (eT2 D.int D.int)))) found), some ((eT2 (eSq (eOp (eT2 D.int D.int))) (eSq (eOp (eT2 D.int D.int)))) due), d2, d3])) (xs := (fun p => [ p.1,  p.2]) found) (ri_Q_p (cl_sq (cl_op (cl_t2 cl_int cl_int))) (rf_wid_p (fun p => [ p.1,  p.2]) (rf_o (cl_t2 (cl_sq (cl_op (cl_t2 cl_int cl_int))) (cl_sq (cl_op (cl_t2 cl_int cl_int)))) (rf_v (i := 0) (a := found) (eT2 (eSq (eOp (eT2 D.int D.int))) (eSq (eOp (eT2 D.int D.int)))) rfl)) (wd_q2 wd_id wd_id))) ⟨_, _, rfl⟩ True.intro (fun things s_ σ_ h_ => by obtain ⟨d2, d3, rfl⟩ := h_; exact ⟨_, rfl, g_last (g_if (rf_or_p (rf_not_p (rf_isi_p (b := fun _ => true) (fun _ => rfl) (rf_v (i := 2) (a := things) (eSq (eOp (eT2 D.int D.int))) rfl))) (rf_not_m (rf_bip1_m (g := fun u => List.all u id) bt_all (rf_cm_p (ri_Q_p (cl_op (cl_t2 cl_int cl_int)) (rf_v (i := 2) (a := things) (eSq (eOp (eT2 D.int D.int))) rfl)) (fun thing => ⟨_, rfl, (rf_call1_p (Φ := f_l_is_thing) tf_l_is_thing (cl_op (cl_t2 cl_int cl_int)).fz (.inl ⟨(cl_op (cl_t2 cl_int cl_int)), True.intro⟩) (rf_v (i := 3) (a := thing) (eOp (eT2 D.int D.int)) rfl))⟩))))) True.intro (g_retP (a := false) (rf_k (a := false) D.bl rfl)) (g_skip (g_nx ⟨_, _, rfl⟩)))⟩)) fun s_ σ_ h_ => by obtain ⟨d2, d3, rfl⟩ := h_; exact (g_retP (a := true) (rf_k (a := true) D.bl rfl))))))))
noncomputable def f_l_cell (script : (List Int)) (k : Int) : R Int := runO (L := Unit) (S := Unit) <|
  bnd (R.ok (0) : R Int) fun cell_here =>
  O.thn (if (decide (0 < ((script.length : Int)))) = true then
    bnd ((modT k ((script.length : Int))).bind fun v => ofR (L2.atI script v) : R Int) fun cell_here =>
    O.nx cell_here
  else
    O.nx cell_here : O Int _ _) fun cell_here =>
  bnd (R.ok (((((cell_here % 2147483647) + (7919 * k)) + 1) * 48271) % 2147483647) : R Int) fun mixed =>
  O.rt (((cell_here / 2147483647) * 2147483659) + (((mixed * 69621) + (104729 * k)) % 2147483659))
theorem tf_l_cell (script : (List Int)) (k : Int) : Rf (h_l_cell [(eLs false D.int) script, D.int k]) (f_l_cell script k) D.int := by
  unfold h_l_cell runF b_l_cell f_l_cell
  exact g_fun (g_last (g_seq (g_set (i := 2) (rf_k (a := 0) D.int rfl) True.intro fun cell_here => (g_seq (g_thn (I' := (fun (cell_here : Int) (σ : Sl) => ∃ d3 : Option D, σ = [some ((eLs false D.int) script), some (D.int k), some (D.int cell_here), d3])) (g_last (g_ifP (b := decide (0 < ((script.length : Int)))) (rf_gt_pp (rf_bip1_p (g := fun u => (List.length u : Int)) bt_lenL (rf_v (i := 0) (a := script) (eLs false D.int) rfl)) (rf_k (a := 0) D.int rfl)) (g_set (i := 2) (rf_o cl_int (rf_ixL_pm (rf_v (i := 0) (a := script) (eLs false D.int) rfl) (rf_mod_pp (rf_v (i := 1) (a := k) D.int rfl) (rf_bip1_p (g := fun u => (List.length u : Int)) bt_lenL (rf_v (i := 0) (a := script) (eLs false D.int) rfl))))) True.intro fun cell_here => (g_nx ⟨_, rfl⟩)) (g_skip (g_nx ⟨_, rfl⟩)))) fun cell_here σ_ h_ => by obtain ⟨d3, rfl⟩ := h_; exact (g_seq (g_set (i := 3) (rf_modK_p (j := 2147483647) (by decide) (rf_mulR_p (j := 48271) (by decide) (rf_add_pp (rf_add_pp (rf_modK_p (j := 2147483647) (by decide) (rf_v (i := 2) (a := cell_here) D.int rfl)) (rf_mulL_p (j := 7919) (by decide) (rf_v (i := 1) (a := k) D.int rfl))) (rf_k (a := 1) D.int rfl)))) True.intro fun mixed => (g_retP (a := ((cell_here / 2147483647) * 2147483659) + (((mixed * 69621) + (104729 * k)) % 2147483659)) (rf_add_pp (rf_mulR_p (j := 2147483659) (by decide) (rf_fdivK_p (j := 2147483647) (by decide) (rf_v (i := 2) (a := cell_here) D.int rfl))) (rf_modK_p (j := 2147483659) (by decide) (rf_add_pp (rf_mulR_p (j := 69621) (by decide) (rf_v (i := 3) (a := mixed) D.int rfl)) (rf_mulL_p (j := 104729) (by decide) (rf_v (i := 1) (a := k) D.int rfl)))))))))))))
noncomputable def f_l_end (number : Int) (rooms : Int) : R Turn := runO (L := Unit) (S := Unit) <|
  if (decide ((number % 3) = 0)) = true then
    bnd ((ofR (L2.atI (["by".toList, "out".toList]) ((number / 3) % 2))).bind fun u => R.ok (Sum.inr u)) .rt
  else
    bnd ((modT (number / 3) rooms).bind fun u => R.ok (Sum.inl u)) .rt
theorem tf_l_end (number : Int) (rooms : Int) : Rf (h_l_end [D.int number, D.int rooms]) (f_l_end number rooms) eTu := by
  unfold h_l_end runF b_l_end f_l_end
  exact g_fun (g_last (g_seq (g_ifP (b := decide ((number % 3) = 0)) (rf_eq_pp py_int py_int pq_int (by decide) (by decide) (rf_modK_p (j := 3) (by decide) (rf_v (i := 0) (a := number) D.int rfl)) (rf_k (a := 0) D.int rfl)) (g_ret (rf_wid_m Sum.inr (rf_o cl_st (rf_ixL_pp (rf_lstP (as := ["by".toList, "out".toList]) (rl_consP (rf_k (a := "by".toList) eSt (k_str _)) (rl_consP (rf_k (a := "out".toList) eSt (k_str _)) rl_nil)) (by simp)) (rf_modK_p (j := 2) (by decide) (rf_fdivK_p (j := 3) (by decide) (rf_v (i := 0) (a := number) D.int rfl))))) wd_ts) True.intro) (g_skip (g_ret (rf_wid_m Sum.inl (rf_mod_pp (rf_fdivK_p (j := 3) (by decide) (rf_v (i := 0) (a := number) D.int rfl)) (rf_v (i := 1) (a := rooms) D.int rfl)) wd_ti) True.intro)))))
noncomputable def f_l_digit_row (number : Int) (rooms : Int) (signs : Int) : R (Turn × (List (Int × Int)) × Turn) := runO (L := Unit) (S := Unit) <|
  bnd (modT number (rooms + 2) : R Int) fun left =>
  bnd (fdivT number (rooms + 2) : R Int) fun number =>
  bnd (R.ok ([]) : R (List (Int × Int))) fun cells =>
  O.thn (bnd (rngT signs) fun l_ => forT l_ (fun k (number, cells) =>
    bnd ((modT (number / 2) rooms).bind fun u => R.ok ((u, (1 - ((number % 2) * 2))))) fun u => bnd (apT cells u) fun cells =>
    bnd (fdivT number (2 * rooms) : R Int) fun number =>
    O.nx (number, cells)) (number, cells) : O (Int × (List (Int × Int))) _ _) fun (number, cells) =>
  bnd (((R.ok (Sum.inl left)).bind fun u => (((modT number (rooms + 2)).bind fun u => R.ok (Sum.inl u)).bind fun v => (R.ok []).bind fun l => R.ok (v :: l)).bind fun l => R.ok (u :: l)).bind fun l => szT l.length l : R (List Turn)) fun ends =>
  bnd (cmT ends (fun end_here => ((tuI end_here).bind fun u => R.ok (decide (rooms ≤ u))).bind fun u => if u = true then (((tuI end_here).bind fun u => R.ok (u - rooms)).bind fun v => ofR (L2.atI (["by".toList, "out".toList]) v)).bind fun u => R.ok (Sum.inr u) else R.ok (end_here)) : R (List Turn)) fun ends =>
  bnd ((ofR (L2.atI ends 0)).bind fun u => (ofR (L2.atI ends 1)).bind fun w => R.ok ((u, cells, w))) .rt
theorem tf_l_digit_row (number : Int) (rooms : Int) (signs : Int) : Rf (h_l_digit_row [D.int number, D.int rooms, D.int signs]) (f_l_digit_row number rooms signs) (eT3 eTu (eSq (eT2 D.int D.int)) eTu) := by
  unfold h_l_digit_row runF b_l_digit_row f_l_digit_row
  exact g_fun (g_last (g_seq (g_set (i := 3) (rf_mod_pp (rf_v (i := 0) (a := number) D.int rfl) (rf_add_pp (rf_v (i := 1) (a := rooms) D.int rfl) (rf_k (a := 2) D.int rfl))) True.intro fun left => (g_seq (g_set (i := 0) (rf_fdiv_pp (rf_v (i := 0) (a := number) D.int rfl) (rf_add_pp (rf_v (i := 1) (a := rooms) D.int rfl) (rf_k (a := 2) D.int rfl))) True.intro fun number => (g_seq (g_set (i := 4) (rf_lstP (e := (eT2 D.int D.int)) (as := []) rl_nil (by simp)) True.intro fun cells => (g_seq (g_thn (I' := (fun (s_ : Int × (List (Int × Int))) (σ : Sl) => match s_ with | (number, cells) => ∃ d5 d6 d7 : Option D, σ = [some (D.int number), some (D.int rooms), some (D.int signs), some (D.int left), some ((eLs true (eT2 D.int D.int)) cells), d5, d6, d7])) (g_for (I := (fun (s_ : Int × (List (Int × Int))) (σ : Sl) => match s_ with | (number, cells) => ∃ d5 d6 d7 : Option D, σ = [some (D.int number), some (D.int rooms), some (D.int signs), some (D.int left), some ((eLs true (eT2 D.int D.int)) cells), d5, d6, d7])) (ri_r1_p (rf_v (i := 2) (a := signs) D.int rfl)) ⟨_, _, _, rfl⟩ True.intro (fun k s_ σ_ h_ => by obtain ⟨number, cells⟩ := s_; obtain ⟨d5, d6, d7, rfl⟩ := h_; exact ⟨_, rfl, g_last (g_seq (g_app (i := 4) (xs := cells) (eT2 D.int D.int) rfl (rf_tup2_mp (rf_mod_pp (rf_fdivK_p (j := 2) (by decide) (rf_v (i := 0) (a := number) D.int rfl)) (rf_v (i := 1) (a := rooms) D.int rfl)) (rf_sub_pp (rf_k (a := 1) D.int rfl) (rf_mulR_p (j := 2) (by decide) (rf_modK_p (j := 2) (by decide) (rf_v (i := 0) (a := number) D.int rfl))))) True.intro fun cells => (g_set (i := 0) (rf_fdiv_pp (rf_v (i := 0) (a := number) D.int rfl) (rf_mulL_p (j := 2) (by decide) (rf_v (i := 1) (a := rooms) D.int rfl))) True.intro fun number => (g_nx ⟨_, _, _, rfl⟩))))⟩)) fun s_ σ_ h_ => by obtain ⟨number, cells⟩ := s_; obtain ⟨d5, d6, d7, rfl⟩ := h_; exact (g_seq (g_set (i := 6) (rf_lst (rl_cons (rf_wid_p Sum.inl (rf_o cl_int (rf_v (i := 3) (a := left) D.int rfl)) wd_ti) (rl_cons (rf_wid_m Sum.inl (rf_mod_pp (rf_v (i := 0) (a := number) D.int rfl) (rf_add_pp (rf_v (i := 1) (a := rooms) D.int rfl) (rf_k (a := 2) D.int rfl))) wd_ti) rl_nil))) True.intro fun ends => (g_seq (g_set (i := 6) (rf_cm_p (ri_L_p cl_tu (rf_v (i := 6) (a := ends) (eLs true eTu) rfl)) (fun end_here => ⟨_, rfl, (rf_o cl_tu (rf_if_m (rf_ge_mp (rf_nar_p tuI (rf_v (i := 7) (a := end_here) eTu rfl) nw_tuI) (rf_v (i := 1) (a := rooms) D.int rfl)) (rf_wid_m Sum.inr (rf_ixL_pm (rf_lstP (as := ["by".toList, "out".toList]) (rl_consP (rf_k (a := "by".toList) eSt (k_str _)) (rl_consP (rf_k (a := "out".toList) eSt (k_str _)) rl_nil)) (by simp)) (rf_sub_mp (rf_nar_p tuI (rf_v (i := 7) (a := end_here) eTu rfl) nw_tuI) (rf_v (i := 1) (a := rooms) D.int rfl))) wd_ts) (rf_v (i := 7) (a := end_here) eTu rfl)))⟩)) True.intro fun ends => (g_ret (rf_tup3_mpm (rf_o cl_tu (rf_ixL_pp (rf_v (i := 6) (a := ends) (eLs true eTu) rfl) (rf_k (a := 0) D.int rfl))) (rf_bip1_p (g := fun u => u) (bt_tupL (cl_t2 cl_int cl_int)) (rf_v (i := 4) (a := cells) (eLs true (eT2 D.int D.int)) rfl)) (rf_o cl_tu (rf_ixL_pp (rf_v (i := 6) (a := ends) (eLs true eTu) rfl) (rf_k (a := 1) D.int rfl)))) True.intro))))))))))))))
noncomputable def f_l_mixed_row (number : Int) (rooms : Int) (signs : Int) : R (Turn × (List (Int × Int)) × Turn) := runO (L := Unit) (S := Unit) <|
  bnd (R.ok ([]) : R (List Int)) fun pieces =>
  O.thn (bnd (rngT (signs + 2)) fun l_ => forT l_ (fun k (number, pieces) =>
    bnd (R.ok (((number * 48271) + 7919) % 2147483647) : R Int) fun number =>
    bnd (apT pieces (number / 64)) fun pieces =>
    O.nx (number, pieces)) (number, pieces) : O (Int × (List Int)) _ _) fun (number, pieces) =>
  bnd ((cmT (cutL pieces (some 2) none) (fun piece => (modT piece rooms).bind fun u => R.ok ((u, (1 - ((((piece / 64) % 3) / 2) * 2)))))).bind fun u => R.ok (u) : R (List (Int × Int))) fun cells =>
  bnd (((ofR (L2.atI pieces 0)).bind fun u => f_l_end u rooms).bind fun u => ((ofR (L2.atI pieces 1)).bind fun u => f_l_end u rooms).bind fun w => R.ok ((u, cells, w))) .rt
theorem tf_l_mixed_row (number : Int) (rooms : Int) (signs : Int) : Rf (h_l_mixed_row [D.int number, D.int rooms, D.int signs]) (f_l_mixed_row number rooms signs) (eT3 eTu (eSq (eT2 D.int D.int)) eTu) := by
  unfold h_l_mixed_row runF b_l_mixed_row f_l_mixed_row
  exact g_fun (g_last (g_seq (g_set (i := 3) (rf_lstP (e := D.int) (as := []) rl_nil (by simp)) True.intro fun pieces => (g_seq (g_thn (I' := (fun (s_ : Int × (List Int)) (σ : Sl) => match s_ with | (number, pieces) => ∃ d4 d5 d6 : Option D, σ = [some (D.int number), some (D.int rooms), some (D.int signs), some ((eLs true D.int) pieces), d4, d5, d6])) (g_for (I := (fun (s_ : Int × (List Int)) (σ : Sl) => match s_ with | (number, pieces) => ∃ d4 d5 d6 : Option D, σ = [some (D.int number), some (D.int rooms), some (D.int signs), some ((eLs true D.int) pieces), d4, d5, d6])) (ri_r1_p (rf_add_pp (rf_v (i := 2) (a := signs) D.int rfl) (rf_k (a := 2) D.int rfl))) ⟨_, _, _, rfl⟩ True.intro (fun k s_ σ_ h_ => by obtain ⟨number, pieces⟩ := s_; obtain ⟨d4, d5, d6, rfl⟩ := h_; exact ⟨_, rfl, g_last (g_seq (g_set (i := 0) (rf_modK_p (j := 2147483647) (by decide) (rf_add_pp (rf_mulR_p (j := 48271) (by decide) (rf_v (i := 0) (a := number) D.int rfl)) (rf_k (a := 7919) D.int rfl))) True.intro fun number => (g_appP (i := 3) (xs := pieces) (a := number / 64) D.int rfl (rf_fdivK_p (j := 64) (by decide) (rf_v (i := 0) (a := number) D.int rfl)) True.intro fun pieces => (g_nx ⟨_, _, _, rfl⟩))))⟩)) fun s_ σ_ h_ => by obtain ⟨number, pieces⟩ := s_; obtain ⟨d4, d5, d6, rfl⟩ := h_; exact (g_seq (g_set (i := 5) (rf_bip1_m (g := fun u => u) (bt_tupL (cl_t2 cl_int cl_int)) (rf_cm_p (ri_L_p cl_int (rf_slL_p cl_int (rf_v (i := 3) (a := pieces) (eLs true D.int) rfl) (sl_yesP (rf_k (a := 2) D.int rfl)) (sl_noP rfl))) (fun piece => ⟨_, rfl, (rf_tup2_mp (rf_mod_pp (rf_v (i := 6) (a := piece) D.int rfl) (rf_v (i := 1) (a := rooms) D.int rfl)) (rf_sub_pp (rf_k (a := 1) D.int rfl) (rf_mulR_p (j := 2) (by decide) (rf_fdivK_p (j := 2) (by decide) (rf_modK_p (j := 3) (by decide) (rf_fdivK_p (j := 64) (by decide) (rf_v (i := 6) (a := piece) D.int rfl)))))))⟩))) True.intro fun cells => (g_ret (rf_tup3_mpm (rf_call2_mp (Φ := f_l_end) tf_l_end cl_int.fz cl_int.fz (.inl ⟨cl_int, cl_int, True.intro⟩) (rf_ixL_pp (rf_v (i := 3) (a := pieces) (eLs true D.int) rfl) (rf_k (a := 0) D.int rfl)) (rf_v (i := 1) (a := rooms) D.int rfl)) (rf_o (cl_sq (cl_t2 cl_int cl_int)) (rf_v (i := 5) (a := cells) (eSq (eT2 D.int D.int)) rfl)) (rf_call2_mp (Φ := f_l_end) tf_l_end cl_int.fz cl_int.fz (.inl ⟨cl_int, cl_int, True.intro⟩) (rf_ixL_pp (rf_v (i := 3) (a := pieces) (eLs true D.int) rfl) (rf_k (a := 1) D.int rfl)) (rf_v (i := 1) (a := rooms) D.int rfl))) True.intro))))))))
noncomputable def f_l_machine (script : (List Int)) (at_ : Int) (rooms : Int) (signs : Int) : R (List (Turn × (List (Int × Int)) × Turn)) := runO (L := Unit) (S := Unit) <|
  bnd (R.ok ([]) : R (List (Turn × (List (Int × Int)) × Turn))) fun rows =>
  O.thn (bnd (rngT rooms) fun l_ => forT l_ (fun room rows =>
    bnd (if (decide ((at_ + room) < ((script.length : Int)))) = true then ((ofR (L2.atI script 0)).bind fun u => R.ok (u % 2)).bind fun u => R.ok (decide (u = 1)) else R.ok false) fun b_ => if b_ = true then
      bnd ((ofR (L2.atI script (at_ + room))).bind fun u => f_l_digit_row u rooms signs) fun u => bnd (apT rows u) fun rows =>
      O.nx rows
    else
      bnd (((f_l_cell script (at_ + room)).bind fun u => R.ok (u % 2147483647)).bind fun u => f_l_mixed_row u rooms signs : R (Turn × (List (Int × Int)) × Turn)) fun row =>
      O.thn (bnd (if (decide (room = 0)) = true then if row.1.isRight = true then (((f_l_cell script at_).bind fun u => R.ok (u / 8)).bind fun u => R.ok (u % 8)).bind fun u => R.ok (decide (0 < u)) else R.ok false else R.ok false) fun b_ => if b_ = true then
        bnd ((((((f_l_cell script at_).bind fun u => R.ok (u / 64)).bind fun u => modT u rooms).bind fun u => R.ok (u)).bind fun u => R.ok ((u, row.2))).bind fun u => R.ok ((fun p => (Sum.inl p.1,  p.2.1,  p.2.2)) u) : R (Turn × (List (Int × Int)) × Turn)) fun row =>
        O.nx row
      else
        O.nx row : O (Turn × (List (Int × Int)) × Turn) _ _) fun row =>
      bnd (apT rows row) fun rows =>
      O.nx rows) rows : O ((List (Turn × (List (Int × Int)) × Turn))) _ _) fun rows =>
  O.rt (rows)
theorem tf_l_machine (script : (List Int)) (at_ : Int) (rooms : Int) (signs : Int) : Rf (h_l_machine [(eLs false D.int) script, D.int at_, D.int rooms, D.int signs]) (f_l_machine script at_ rooms signs) (eSq (eT3 eTu (eSq (eT2 D.int D.int)) eTu)) := by
  unfold h_l_machine runF b_l_machine f_l_machine
  exact g_fun (g_last (g_seq (g_set (i := 4) (rf_lstP (e := (eT3 eTu (eSq (eT2 D.int D.int)) eTu)) (as := []) rl_nil (by simp)) True.intro fun rows => (g_seq (g_thn (I' := (fun (rows : (List (Turn × (List (Int × Int)) × Turn))) (σ : Sl) => ∃ d5 d6 : Option D, σ = [some ((eLs false D.int) script), some (D.int at_), some (D.int rooms), some (D.int signs), some ((eLs true (eT3 eTu (eSq (eT2 D.int D.int)) eTu)) rows), d5, d6])) (g_for (I := (fun (rows : (List (Turn × (List (Int × Int)) × Turn))) (σ : Sl) => ∃ d5 d6 : Option D, σ = [some ((eLs false D.int) script), some (D.int at_), some (D.int rooms), some (D.int signs), some ((eLs true (eT3 eTu (eSq (eT2 D.int D.int)) eTu)) rows), d5, d6])) (ri_r1_p (rf_v (i := 2) (a := rooms) D.int rfl)) ⟨_, _, rfl⟩ True.intro (fun room rows σ_ h_ => by obtain ⟨d5, d6, rfl⟩ := h_; exact ⟨_, rfl, g_last (g_if (rf_and_p (rf_lt_pp (rf_add_pp (rf_v (i := 1) (a := at_) D.int rfl) (rf_v (i := 5) (a := room) D.int rfl)) (rf_bip1_p (g := fun u => (List.length u : Int)) bt_lenL (rf_v (i := 0) (a := script) (eLs false D.int) rfl))) (rf_eq_mp py_int py_int pq_int (by decide) (by decide) (rf_modK_m (j := 2) (by decide) (rf_ixL_pp (rf_v (i := 0) (a := script) (eLs false D.int) rfl) (rf_k (a := 0) D.int rfl))) (rf_k (a := 1) D.int rfl))) True.intro (g_app (i := 4) (xs := rows) (eT3 eTu (eSq (eT2 D.int D.int)) eTu) rfl (rf_call3_mpp (Φ := f_l_digit_row) tf_l_digit_row cl_int.fz cl_int.fz cl_int.fz (.inl ⟨cl_int, cl_int, cl_int, True.intro⟩) (rf_ixL_pp (rf_v (i := 0) (a := script) (eLs false D.int) rfl) (rf_add_pp (rf_v (i := 1) (a := at_) D.int rfl) (rf_v (i := 5) (a := room) D.int rfl))) (rf_v (i := 2) (a := rooms) D.int rfl) (rf_v (i := 3) (a := signs) D.int rfl)) True.intro fun rows => (g_nx ⟨_, _, rfl⟩)) (g_seq (g_set (i := 6) (rf_call3_mpp (Φ := f_l_mixed_row) tf_l_mixed_row cl_int.fz cl_int.fz cl_int.fz (.inl ⟨cl_int, cl_int, cl_int, True.intro⟩) (rf_modK_m (j := 2147483647) (by decide) (rf_call2_pp (Φ := f_l_cell) tf_l_cell (cl_ls cl_int).fz cl_int.fz (.inl ⟨(cl_ls cl_int), cl_int, True.intro⟩) (rf_v (i := 0) (a := script) (eLs false D.int) rfl) (rf_add_pp (rf_v (i := 1) (a := at_) D.int rfl) (rf_v (i := 5) (a := room) D.int rfl)))) (rf_v (i := 2) (a := rooms) D.int rfl) (rf_v (i := 3) (a := signs) D.int rfl)) True.intro fun row => (g_seq (g_thn (I' := (fun (row : (Turn × (List (Int × Int)) × Turn)) (σ : Sl) => σ = [some ((eLs false D.int) script), some (D.int at_), some (D.int rooms), some (D.int signs), some ((eLs true (eT3 eTu (eSq (eT2 D.int D.int)) eTu)) rows), some (D.int room), some ((eT3 eTu (eSq (eT2 D.int D.int)) eTu) row)])) (g_last (g_if (rf_and_p (rf_eq_pp py_int py_int pq_int (by decide) (by decide) (rf_v (i := 5) (a := room) D.int rfl) (rf_k (a := 0) D.int rfl)) (rf_and_p (rf_isi_p (b := Sum.isRight) tu_isStr (rf_ix3_0_p (rf_v (i := 6) (a := row) (eT3 eTu (eSq (eT2 D.int D.int)) eTu) rfl))) (rf_gt_mp (rf_modK_m (j := 8) (by decide) (rf_fdivK_m (j := 8) (by decide) (rf_call2_pp (Φ := f_l_cell) tf_l_cell (cl_ls cl_int).fz cl_int.fz (.inl ⟨(cl_ls cl_int), cl_int, True.intro⟩) (rf_v (i := 0) (a := script) (eLs false D.int) rfl) (rf_v (i := 1) (a := at_) D.int rfl)))) (rf_k (a := 0) D.int rfl)))) True.intro (g_set (i := 6) (rf_wid_m (fun p => (Sum.inl p.1,  p.2.1,  p.2.2)) (rf_cat12_mp cl_int (cl_sq (cl_t2 cl_int cl_int)) cl_tu (rf_tup1_m (rf_mod_mp (rf_fdivK_m (j := 64) (by decide) (rf_call2_pp (Φ := f_l_cell) tf_l_cell (cl_ls cl_int).fz cl_int.fz (.inl ⟨(cl_ls cl_int), cl_int, True.intro⟩) (rf_v (i := 0) (a := script) (eLs false D.int) rfl) (rf_v (i := 1) (a := at_) D.int rfl))) (rf_v (i := 2) (a := rooms) D.int rfl))) (rf_sl3_1_p cl_tu (cl_sq (cl_t2 cl_int cl_int)) cl_tu (rf_v (i := 6) (a := row) (eT3 eTu (eSq (eT2 D.int D.int)) eTu) rfl))) (wd_t3 wd_ti wd_id wd_id)) True.intro fun row => (g_nx rfl)) (g_skip (g_nx rfl)))) fun row σ_ h_ => by obtain rfl := h_; exact (g_fz (i := 6) (a := row) (eT3 eTu (eSq (eT2 D.int D.int)) eTu) rfl (cl_t3 cl_tu (cl_sq (cl_t2 cl_int cl_int)) cl_tu).fz (g_appP (i := 4) (xs := rows) (a := row) (eT3 eTu (eSq (eT2 D.int D.int)) eTu) rfl (rf_o (cl_t3 cl_tu (cl_sq (cl_t2 cl_int cl_int)) cl_tu) (rf_v (i := 6) (a := row) (eT3 eTu (eSq (eT2 D.int D.int)) eTu) rfl)) True.intro fun rows => (g_nx ⟨_, _, rfl⟩))))))))⟩)) fun rows σ_ h_ => by obtain ⟨d5, d6, rfl⟩ := h_; exact (g_retP (a := rows) (rf_bip1_p (g := fun u => u) (bt_tupL (cl_t3 cl_tu (cl_sq (cl_t2 cl_int cl_int)) cl_tu)) (rf_v (i := 4) (a := rows) (eLs true (eT3 eTu (eSq (eT2 D.int D.int)) eTu)) rfl))))))))
noncomputable def f_l_within (machine_here : (List (Turn × (List (Int × Int)) × Turn))) (strip : St) (place : Int) (room : Int) : R (Option (Int × Int)) := runO (L := Unit) (S := Unit) <|
  bnd (R.ok ([]) : R (List ((Int × Int) × Bool))) fun met =>
  O.thn (whlT (fun (place, room, met) => if decide (0 < place) = true then (lenT strip).bind fun z => R.ok (decide (place ≤ z)) else R.ok false) (fun (place, room, met) =>
    if (hasT met ((place, room))) = true then
      O.rt (none)
    else
      bnd (R.ok (true)) fun v => bnd (R.ok ((place, room))) fun k => bnd (puT met k v) fun met =>
    bnd (((ofR (L2.atI machine_here room)).bind fun u => R.ok (u.2.1)).bind fun u => (((sixT strip (place - 1)).bind fun u => R.ok ((fun c => [c]) u)).bind fun v => idxT ("abc".toList) v).bind fun v => ofR (L2.atI u v)) fun (room, step) =>
    bnd (R.ok (place + step) : R Int) fun place =>
    O.nx (place, room, met)) (place, room, met) : O (Int × Int × (List ((Int × Int) × Bool))) _ _) fun (place, room, met) =>
  bnd (((ofR (L2.atI ([-1, 1]) (if (decide (0 < place)) = true then 1 else 0))).bind fun u => R.ok ((u, room))).bind fun u => R.ok (some u)) .rt
theorem tf_l_within (machine_here : (List (Turn × (List (Int × Int)) × Turn))) (strip : St) (place : Int) (room : Int) : Rf (h_l_within [(eSq (eT3 eTu (eSq (eT2 D.int D.int)) eTu)) machine_here, eSt strip, D.int place, D.int room]) (f_l_within machine_here strip place room) (eOp (eT2 D.int D.int)) := by
  unfold h_l_within runF b_l_within f_l_within
  exact g_fun (g_last (g_seq (g_set (i := 4) (rf_d0 (κ := (kT2 kInt kInt)) (e' := D.bl)) True.intro fun met => (g_seq (g_thn (I' := (fun (s_ : Int × Int × (List ((Int × Int) × Bool))) (σ : Sl) => match s_ with | (place, room, met) => ∃ d5 : Option D, σ = [some ((eSq (eT3 eTu (eSq (eT2 D.int D.int)) eTu)) machine_here), some (eSt strip), some (D.int place), some (D.int room), some ((eDc true (kT2 kInt kInt) D.bl) met), d5])) (g_whl (I := (fun (s_ : Int × Int × (List ((Int × Int) × Bool))) (σ : Sl) => match s_ with | (place, room, met) => ∃ d5 : Option D, σ = [some ((eSq (eT3 eTu (eSq (eT2 D.int D.int)) eTu)) machine_here), some (eSt strip), some (D.int place), some (D.int room), some ((eDc true (kT2 kInt kInt) D.bl) met), d5])) ⟨_, rfl⟩ (fun _ _ _ => True.intro) (fun s_ σ_ h_ => by obtain ⟨place, room, met⟩ := s_; obtain ⟨d5, rfl⟩ := h_; exact (rf_ccm_ltle_pp (rf_k (a := 0) D.int rfl) (rf_v (i := 2) (a := place) D.int rfl) (rf_bi1_p (Φ := lenT) bt_lenS (rf_v (i := 1) (a := strip) eSt rfl)))) (fun s_ σ_ h_ => by obtain ⟨place, room, met⟩ := s_; obtain ⟨d5, rfl⟩ := h_; exact g_last (g_seq (g_ifP (b := hasT met ((place, room))) (rf_inD_pp ((ky_t2 ky_int ky_int).tupk kt_t2 (by decide)) (rf_tup2_pp (rf_o cl_int (rf_v (i := 2) (a := place) D.int rfl)) (rf_o cl_int (rf_v (i := 3) (a := room) D.int rfl))) (rf_v (i := 4) (a := met) (eDc true (kT2 kInt kInt) D.bl) rfl)) (g_retP (a := none) (rf_wid_p (fun _ => none) (rf_k (a := ()) eNon rfl) (wd_none (e := (eT2 D.int D.int))))) (g_skip (g_seq (g_putk (i := 4) (kvs := met) D.bl ((ky_t2 ky_int ky_int).tupk kt_t2 (by decide)) cl_bl rfl (rf_k (a := true) D.bl rfl) (rf_tup2_pp (rf_o cl_int (rf_v (i := 2) (a := place) D.int rfl)) (rf_o cl_int (rf_v (i := 3) (a := room) D.int rfl))) True.intro fun met => (g_seq (g_unp (cl_t2 cl_int cl_int) (rf_ixQ_mm (rf_ix3_1_m (rf_ixQ_pp (rf_v (i := 0) (a := machine_here) (eSq (eT3 eTu (eSq (eT2 D.int D.int)) eTu)) rfl) (rf_v (i := 3) (a := room) D.int rfl))) (rf_sidx_pm (rf_k (a := "abc".toList) eSt (k_str _)) (rf_wid_m (fun c => [c]) (rf_ixS_pp (rf_v (i := 1) (a := strip) eSt rfl) (rf_sub_pp (rf_v (i := 2) (a := place) D.int rfl) (rf_k (a := 1) D.int rfl))) wd_chr))) True.intro fun q_ => by obtain ⟨room, step⟩ := q_; exact ⟨_, rfl, (g_set (i := 2) (rf_add_pp (rf_v (i := 2) (a := place) D.int rfl) (rf_v (i := 5) (a := step) D.int rfl)) True.intro fun place => (g_nx ⟨_, rfl⟩))⟩))))))))) fun s_ σ_ h_ => by obtain ⟨place, room, met⟩ := s_; obtain ⟨d5, rfl⟩ := h_; exact (g_ret (rf_wid_m some (rf_tup2_mp (rf_o cl_int (rf_ixL_pp (rf_lstP (as := [-1, 1]) (rl_consP (rf_neg_p (rf_k (a := 1) D.int rfl)) (rl_consP (rf_k (a := 1) D.int rfl) rl_nil)) (by simp)) (rf_bip1_p (g := fun u => if u = true then 1 else 0) bt_intB (rf_gt_pp (rf_v (i := 2) (a := place) D.int rfl) (rf_k (a := 0) D.int rfl))))) (rf_o cl_int (rf_v (i := 3) (a := room) D.int rfl))) wd_some) True.intro))))))
noncomputable def f_l_table (machine_here : (List (Turn × (List (Int × Int)) × Turn))) (strip : St) : R ((List (Option (Int × Int))) × (List (Option (Int × Int)))) := runO (L := Unit) (S := Unit) <|
  bnd (lrT ((machine_here.length : Int)) : R (List Int)) fun rooms =>
  bnd (cmT rooms (fun room => f_l_within machine_here strip 1 room) : R (List (Option (Int × Int)))) fun fore =>
  bnd (cmT rooms (fun room => (lenT strip).bind fun w => f_l_within machine_here strip w room) : R (List (Option (Int × Int)))) fun aft =>
  O.rt ((fore, aft))
theorem tf_l_table (machine_here : (List (Turn × (List (Int × Int)) × Turn))) (strip : St) : Rf (h_l_table [(eSq (eT3 eTu (eSq (eT2 D.int D.int)) eTu)) machine_here, eSt strip]) (f_l_table machine_here strip) (eT2 (eSq (eOp (eT2 D.int D.int))) (eSq (eOp (eT2 D.int D.int)))) := by
  unfold h_l_table runF b_l_table f_l_table
  exact g_fun (g_last (g_seq (g_set (i := 2) (rf_lr_p (rf_bip1_p (g := fun u => (List.length u : Int)) bt_lenQ (rf_v (i := 0) (a := machine_here) (eSq (eT3 eTu (eSq (eT2 D.int D.int)) eTu)) rfl))) True.intro fun rooms => (g_seq (g_set (i := 3) (rf_cm_p (ri_L_p cl_int (rf_v (i := 2) (a := rooms) (eLs true D.int) rfl)) (fun room => ⟨_, rfl, (rf_call4_pppp (Φ := f_l_within) tf_l_within (cl_sq (cl_t3 cl_tu (cl_sq (cl_t2 cl_int cl_int)) cl_tu)).fz cl_st.fz cl_int.fz cl_int.fz (.inl ⟨(cl_sq (cl_t3 cl_tu (cl_sq (cl_t2 cl_int cl_int)) cl_tu)), cl_st, cl_int, cl_int, True.intro⟩) (rf_v (i := 0) (a := machine_here) (eSq (eT3 eTu (eSq (eT2 D.int D.int)) eTu)) rfl) (rf_v (i := 1) (a := strip) eSt rfl) (rf_k (a := 1) D.int rfl) (rf_v (i := 5) (a := room) D.int rfl))⟩)) True.intro fun fore => (g_seq (g_set (i := 4) (rf_cm_p (ri_L_p cl_int (rf_v (i := 2) (a := rooms) (eLs true D.int) rfl)) (fun room => ⟨_, rfl, (rf_call4_ppmp (Φ := f_l_within) tf_l_within (cl_sq (cl_t3 cl_tu (cl_sq (cl_t2 cl_int cl_int)) cl_tu)).fz cl_st.fz cl_int.fz cl_int.fz (.inl ⟨(cl_sq (cl_t3 cl_tu (cl_sq (cl_t2 cl_int cl_int)) cl_tu)), cl_st, cl_int, cl_int, True.intro⟩) (rf_v (i := 0) (a := machine_here) (eSq (eT3 eTu (eSq (eT2 D.int D.int)) eTu)) rfl) (rf_v (i := 1) (a := strip) eSt rfl) (rf_bi1_p (Φ := lenT) bt_lenS (rf_v (i := 1) (a := strip) eSt rfl)) (rf_v (i := 5) (a := room) D.int rfl))⟩)) True.intro fun aft => (g_retP (a := (fore, aft)) (rf_tup2_pp (rf_bip1_p (g := fun u => u) (bt_tupL (cl_op (cl_t2 cl_int cl_int))) (rf_v (i := 3) (a := fore) (eLs true (eOp (eT2 D.int D.int))) rfl)) (rf_bip1_p (g := fun u => u) (bt_tupL (cl_op (cl_t2 cl_int cl_int))) (rf_v (i := 4) (a := aft) (eLs true (eOp (eT2 D.int D.int))) rfl)))))))))))
noncomputable def f_l_out (tables : (List ((List (Option (Int × Int))) × (List (Option (Int × Int)))))) (at_ : Int) (way : Int) (room : Int) : R (Option (Int × Int)) := runO (L := Unit) (S := Unit) <|
  bnd (R.ok ([]) : R (List ((Int × Int × Int) × Bool))) fun met =>
  O.thn (whlT (fun (at_, way, room, met) => R.ok (decide (0 ≤ at_) && decide (at_ < ((tables.length : Int))))) (fun (at_, way, room, met) =>
    if (hasT met ((at_, way, room))) = true then
      O.rt (none)
    else
      bnd (R.ok (true)) fun v => bnd (R.ok ((at_, way, room))) fun k => bnd (puT met k v) fun met =>
    bnd ((((ofR (L2.atI tables at_)).bind fun u => R.ok ((fun p => [ p.1,  p.2]) u)).bind fun u => ofR (L2.atI u (if (decide (way < 0)) = true then 1 else 0))).bind fun u => ofR (L2.atI u room) : R (Option (Int × Int))) fun thing =>
    if thing.isNone = true then
      O.rt (none)
    else
      bnd (unO thing) fun (way, room) =>
    bnd (R.ok (at_ + way) : R Int) fun at_ =>
    O.nx (at_, way, room, met)) (at_, way, room, met) : O (Int × Int × Int × (List ((Int × Int × Int) × Bool))) _ _) fun (at_, way, room, met) =>
  O.rt (some ((way, room)))
theorem tf_l_out (tables : (List ((List (Option (Int × Int))) × (List (Option (Int × Int)))))) (at_ : Int) (way : Int) (room : Int) : Rf (h_l_out [(eLs false (eT2 (eSq (eOp (eT2 D.int D.int))) (eSq (eOp (eT2 D.int D.int))))) tables, D.int at_, D.int way, D.int room]) (f_l_out tables at_ way room) (eOp (eT2 D.int D.int)) := by
  unfold h_l_out runF b_l_out f_l_out
  exact g_fun (g_last (g_seq (g_set (i := 4) (rf_d0 (κ := (kT3 kInt kInt kInt)) (e' := D.bl)) True.intro fun met => (g_seq (g_thn (I' := (fun (s_ : Int × Int × Int × (List ((Int × Int × Int) × Bool))) (σ : Sl) => match s_ with | (at_, way, room, met) => ∃ d5 : Option D, σ = [some ((eLs false (eT2 (eSq (eOp (eT2 D.int D.int))) (eSq (eOp (eT2 D.int D.int))))) tables), some (D.int at_), some (D.int way), some (D.int room), some ((eDc true (kT3 kInt kInt kInt) D.bl) met), d5])) (g_whl (I := (fun (s_ : Int × Int × Int × (List ((Int × Int × Int) × Bool))) (σ : Sl) => match s_ with | (at_, way, room, met) => ∃ d5 : Option D, σ = [some ((eLs false (eT2 (eSq (eOp (eT2 D.int D.int))) (eSq (eOp (eT2 D.int D.int))))) tables), some (D.int at_), some (D.int way), some (D.int room), some ((eDc true (kT3 kInt kInt kInt) D.bl) met), d5])) ⟨_, rfl⟩ (fun _ _ _ => True.intro) (fun s_ σ_ h_ => by obtain ⟨at_, way, room, met⟩ := s_; obtain ⟨d5, rfl⟩ := h_; exact (rf_cc_lelt_pp (rf_k (a := 0) D.int rfl) (rf_v (i := 1) (a := at_) D.int rfl) (rf_bip1_p (g := fun u => (List.length u : Int)) bt_lenL (rf_v (i := 0) (a := tables) (eLs false (eT2 (eSq (eOp (eT2 D.int D.int))) (eSq (eOp (eT2 D.int D.int))))) rfl)))) (fun s_ σ_ h_ => by obtain ⟨at_, way, room, met⟩ := s_; obtain ⟨d5, rfl⟩ := h_; exact g_last (g_seq (g_ifP (b := hasT met ((at_, way, room))) (rf_inD_pp ((ky_t3 ky_int ky_int ky_int).tupk kt_t3 (by decide)) (rf_tup3_ppp (rf_o cl_int (rf_v (i := 1) (a := at_) D.int rfl)) (rf_o cl_int (rf_v (i := 2) (a := way) D.int rfl)) (rf_o cl_int (rf_v (i := 3) (a := room) D.int rfl))) (rf_v (i := 4) (a := met) (eDc true (kT3 kInt kInt kInt) D.bl) rfl)) (g_retP (a := none) (rf_wid_p (fun _ => none) (rf_k (a := ()) eNon rfl) (wd_none (e := (eT2 D.int D.int))))) (g_skip (g_seq (g_putk (i := 4) (kvs := met) D.bl ((ky_t3 ky_int ky_int ky_int).tupk kt_t3 (by decide)) cl_bl rfl (rf_k (a := true) D.bl rfl) (rf_tup3_ppp (rf_o cl_int (rf_v (i := 1) (a := at_) D.int rfl)) (rf_o cl_int (rf_v (i := 2) (a := way) D.int rfl)) (rf_o cl_int (rf_v (i := 3) (a := room) D.int rfl))) True.intro fun met => (g_seq (g_set (i := 5) (rf_o (cl_op (cl_t2 cl_int cl_int)) (rf_ixQ_mp (rf_ixQ_mp (rf_wid_m (fun p => [ p.1,  p.2]) (rf_ixL_pp (rf_v (i := 0) (a := tables) (eLs false (eT2 (eSq (eOp (eT2 D.int D.int))) (eSq (eOp (eT2 D.int D.int))))) rfl) (rf_v (i := 1) (a := at_) D.int rfl)) (wd_q2 wd_id wd_id)) (rf_bip1_p (g := fun u => if u = true then 1 else 0) bt_intB (rf_lt_pp (rf_v (i := 2) (a := way) D.int rfl) (rf_k (a := 0) D.int rfl)))) (rf_v (i := 3) (a := room) D.int rfl))) True.intro fun thing => (g_seq (g_ifP (b := thing.isNone) (rf_isN_p (b := Option.isNone) (isN_op (fun _ => rfl)) (rf_v (i := 5) (a := thing) (eOp (eT2 D.int D.int)) rfl)) (g_retP (a := none) (rf_wid_p (fun _ => none) (rf_k (a := ()) eNon rfl) (wd_none (e := (eT2 D.int D.int))))) (g_skip (g_seq (g_unp (cl_t2 cl_int cl_int) (rf_nar_p unO (rf_v (i := 5) (a := thing) (eOp (eT2 D.int D.int)) rfl) nw_unO) True.intro fun q_ => by obtain ⟨way, room⟩ := q_; exact ⟨_, rfl, (g_set (i := 1) (rf_add_pp (rf_v (i := 1) (a := at_) D.int rfl) (rf_v (i := 2) (a := way) D.int rfl)) True.intro fun at_ => (g_nx ⟨_, rfl⟩))⟩)))))))))))))) fun s_ σ_ h_ => by obtain ⟨at_, way, room, met⟩ := s_; obtain ⟨d5, rfl⟩ := h_; exact (g_retP (a := some ((way, room))) (rf_wid_p some (rf_tup2_pp (rf_o cl_int (rf_v (i := 2) (a := way) D.int rfl)) (rf_o cl_int (rf_v (i := 3) (a := room) D.int rfl))) wd_some)))))))
noncomputable def f_l_boxes (tables : (List ((List (Option (Int × Int))) × (List (Option (Int × Int)))))) (rooms : Int) : R ((List (Option (Int × Int))) × (List (Option (Int × Int)))) := runO (L := Unit) (S := Unit) <|
  bnd ((rngT rooms).bind fun u => cmT u (fun room => f_l_out tables 0 1 room) : R (List (Option (Int × Int)))) fun fore =>
  bnd ((rngT rooms).bind fun u => cmT u (fun room => f_l_out tables (((tables.length : Int)) - 1) (-1) room) : R (List (Option (Int × Int)))) fun aft =>
  O.rt ((fore, aft))
theorem tf_l_boxes (tables : (List ((List (Option (Int × Int))) × (List (Option (Int × Int)))))) (rooms : Int) : Rf (h_l_boxes [(eLs false (eT2 (eSq (eOp (eT2 D.int D.int))) (eSq (eOp (eT2 D.int D.int))))) tables, D.int rooms]) (f_l_boxes tables rooms) (eT2 (eSq (eOp (eT2 D.int D.int))) (eSq (eOp (eT2 D.int D.int)))) := by
  unfold h_l_boxes runF b_l_boxes f_l_boxes
  exact g_fun (g_last (g_seq (g_set (i := 2) (rf_cm_m (ri_r1_p (rf_v (i := 1) (a := rooms) D.int rfl)) (fun room => ⟨_, rfl, (rf_call4_pppp (Φ := f_l_out) tf_l_out (cl_ls (cl_t2 (cl_sq (cl_op (cl_t2 cl_int cl_int))) (cl_sq (cl_op (cl_t2 cl_int cl_int))))).fz cl_int.fz cl_int.fz cl_int.fz (.inl ⟨(cl_ls (cl_t2 (cl_sq (cl_op (cl_t2 cl_int cl_int))) (cl_sq (cl_op (cl_t2 cl_int cl_int))))), cl_int, cl_int, cl_int, True.intro⟩) (rf_v (i := 0) (a := tables) (eLs false (eT2 (eSq (eOp (eT2 D.int D.int))) (eSq (eOp (eT2 D.int D.int))))) rfl) (rf_k (a := 0) D.int rfl) (rf_k (a := 1) D.int rfl) (rf_v (i := 4) (a := room) D.int rfl))⟩)) True.intro fun fore => (g_seq (g_set (i := 3) (rf_cm_m (ri_r1_p (rf_v (i := 1) (a := rooms) D.int rfl)) (fun room => ⟨_, rfl, (rf_call4_pppp (Φ := f_l_out) tf_l_out (cl_ls (cl_t2 (cl_sq (cl_op (cl_t2 cl_int cl_int))) (cl_sq (cl_op (cl_t2 cl_int cl_int))))).fz cl_int.fz cl_int.fz cl_int.fz (.inl ⟨(cl_ls (cl_t2 (cl_sq (cl_op (cl_t2 cl_int cl_int))) (cl_sq (cl_op (cl_t2 cl_int cl_int))))), cl_int, cl_int, cl_int, True.intro⟩) (rf_v (i := 0) (a := tables) (eLs false (eT2 (eSq (eOp (eT2 D.int D.int))) (eSq (eOp (eT2 D.int D.int))))) rfl) (rf_sub_pp (rf_bip1_p (g := fun u => (List.length u : Int)) bt_lenL (rf_v (i := 0) (a := tables) (eLs false (eT2 (eSq (eOp (eT2 D.int D.int))) (eSq (eOp (eT2 D.int D.int))))) rfl)) (rf_k (a := 1) D.int rfl)) (rf_neg_p (rf_k (a := 1) D.int rfl)) (rf_v (i := 4) (a := room) D.int rfl))⟩)) True.intro fun aft => (g_retP (a := (fore, aft)) (rf_tup2_pp (rf_bip1_p (g := fun u => u) (bt_tupL (cl_op (cl_t2 cl_int cl_int))) (rf_v (i := 2) (a := fore) (eLs true (eOp (eT2 D.int D.int))) rfl)) (rf_bip1_p (g := fun u => u) (bt_tupL (cl_op (cl_t2 cl_int cl_int))) (rf_v (i := 3) (a := aft) (eLs true (eOp (eT2 D.int D.int))) rfl)))))))))
noncomputable def f_l_counted (machine_here : (List (Turn × (List (Int × Int)) × Turn))) (signs : Int) (most : Int) : R Int := runO (L := Unit) (S := Unit) <|
  bnd (((szT ("abc".toList).length (cutL ("abc".toList) none (some signs))).bind fun u => R.ok u).bind fun u => cmT u (fun sign => f_l_table machine_here ([sign])) : R (List ((List (Option (Int × Int))) × (List (Option (Int × Int)))))) fun ones =>
  bnd (((f_l_table machine_here ("".toList)).bind fun u => (R.ok []).bind fun l => R.ok (u :: l)).bind fun l => szT l.length l : R (List ((List (Option (Int × Int))) × (List (Option (Int × Int)))))) fun waiting =>
  bnd ((ofR (L2.atI waiting 0)).bind fun u => (R.ok (true)).bind fun v => R.ok [(u, v)] : R (List (((List (Option (Int × Int))) × (List (Option (Int × Int)))) × Bool))) fun met =>
  bnd (R.ok (0) : R Int) fun at_ =>
  O.thn (whlT (fun (waiting, met, at_) => R.ok ((decide (at_ < ((waiting.length : Int)))) && (decide (((waiting.length : Int)) ≤ most)))) (fun (waiting, met, at_) =>
    O.thn (forT ones (fun one (waiting, met) =>
      bnd ((((ofR (L2.atI waiting at_)).bind fun u => ((R.ok (one)).bind fun v => (R.ok []).bind fun l => R.ok (v :: l)).bind fun l => R.ok (u :: l)).bind fun l => szT l.length l).bind fun u => f_l_boxes u ((machine_here.length : Int)) : R ((List (Option (Int × Int))) × (List (Option (Int × Int))))) fun fresh =>
      if (!hasT met fresh) = true then
        bnd (R.ok (true)) fun v => bnd (R.ok (fresh)) fun k => bnd (puT met k v) fun met =>
        bnd (apT waiting fresh) fun waiting =>
        O.nx (waiting, met)
      else
        O.nx (waiting, met)) (waiting, met) : O ((List ((List (Option (Int × Int))) × (List (Option (Int × Int))))) × (List (((List (Option (Int × Int))) × (List (Option (Int × Int)))) × Bool))) _ _) fun (waiting, met) =>
    bnd (R.ok (at_ + 1) : R Int) fun at_ =>
    O.nx (waiting, met, at_)) (waiting, met, at_) : O ((List ((List (Option (Int × Int))) × (List (Option (Int × Int))))) × (List (((List (Option (Int × Int))) × (List (Option (Int × Int)))) × Bool)) × Int) _ _) fun (waiting, met, at_) =>
  O.rt ((waiting.length : Int))
theorem tf_l_counted (machine_here : (List (Turn × (List (Int × Int)) × Turn))) (signs : Int) (most : Int) : Rf (h_l_counted [(eSq (eT3 eTu (eSq (eT2 D.int D.int)) eTu)) machine_here, D.int signs, D.int most]) (f_l_counted machine_here signs most) D.int := by
  unfold h_l_counted runF b_l_counted f_l_counted
  exact g_fun (g_last (g_seq (g_set (i := 3) (rf_cm_m (ri_S_m (rf_slS_p (rf_k (a := "abc".toList) eSt (k_str _)) (sl_noP rfl) (sl_yesP (rf_v (i := 1) (a := signs) D.int rfl)))) (fun sign => ⟨_, rfl, (rf_call2_pp (Φ := f_l_table) tf_l_table (cl_sq (cl_t3 cl_tu (cl_sq (cl_t2 cl_int cl_int)) cl_tu)).fz cl_st.fz (.inl ⟨(cl_sq (cl_t3 cl_tu (cl_sq (cl_t2 cl_int cl_int)) cl_tu)), cl_st, True.intro⟩) (rf_v (i := 0) (a := machine_here) (eSq (eT3 eTu (eSq (eT2 D.int D.int)) eTu)) rfl) (rf_wid_p (fun c => [c]) (rf_v (i := 9) (a := sign) eCh rfl) wd_chr))⟩)) True.intro fun ones => (g_seq (g_set (i := 4) (rf_lst (rl_cons (rf_call2_pp (Φ := f_l_table) tf_l_table (cl_sq (cl_t3 cl_tu (cl_sq (cl_t2 cl_int cl_int)) cl_tu)).fz cl_st.fz (.inl ⟨(cl_sq (cl_t3 cl_tu (cl_sq (cl_t2 cl_int cl_int)) cl_tu)), cl_st, True.intro⟩) (rf_v (i := 0) (a := machine_here) (eSq (eT3 eTu (eSq (eT2 D.int D.int)) eTu)) rfl) (rf_k (a := "".toList) eSt (k_str _))) rl_nil)) True.intro fun waiting => (g_seq (g_set (i := 5) (rf_dN1 (ky_t2 (ky_sq (ky_op (ky_t2 ky_int ky_int) kn_t2)) (ky_sq (ky_op (ky_t2 ky_int ky_int) kn_t2))) kt_t2 (by decide) cl_bl (rf_ixL_pp (rf_v (i := 4) (a := waiting) (eLs true (eT2 (eSq (eOp (eT2 D.int D.int))) (eSq (eOp (eT2 D.int D.int))))) rfl) (rf_k (a := 0) D.int rfl)) (rf_k (a := true) D.bl rfl)) True.intro fun met => (g_seq (g_set (i := 6) (rf_k (a := 0) D.int rfl) True.intro fun at_ => (g_fz (i := 3) (a := ones) (eLs true (eT2 (eSq (eOp (eT2 D.int D.int))) (eSq (eOp (eT2 D.int D.int))))) rfl (fz_ls (cl_t2 (cl_sq (cl_op (cl_t2 cl_int cl_int))) (cl_sq (cl_op (cl_t2 cl_int cl_int)))).fz) (g_seq (g_thn (I' := (fun (s_ : (List ((List (Option (Int × Int))) × (List (Option (Int × Int))))) × (List (((List (Option (Int × Int))) × (List (Option (Int × Int)))) × Bool)) × Int) (σ : Sl) => match s_ with | (waiting, met, at_) => ∃ d7 d8 d9 : Option D, σ = [some ((eSq (eT3 eTu (eSq (eT2 D.int D.int)) eTu)) machine_here), some (D.int signs), some (D.int most), some ((eLs false (eT2 (eSq (eOp (eT2 D.int D.int))) (eSq (eOp (eT2 D.int D.int))))) ones), some ((eLs true (eT2 (eSq (eOp (eT2 D.int D.int))) (eSq (eOp (eT2 D.int D.int))))) waiting), some ((eDc true (kT2 (kSq (kOp (kT2 kInt kInt))) (kSq (kOp (kT2 kInt kInt)))) D.bl) met), some (D.int at_), d7, d8, d9])) (g_whl (I := (fun (s_ : (List ((List (Option (Int × Int))) × (List (Option (Int × Int))))) × (List (((List (Option (Int × Int))) × (List (Option (Int × Int)))) × Bool)) × Int) (σ : Sl) => match s_ with | (waiting, met, at_) => ∃ d7 d8 d9 : Option D, σ = [some ((eSq (eT3 eTu (eSq (eT2 D.int D.int)) eTu)) machine_here), some (D.int signs), some (D.int most), some ((eLs false (eT2 (eSq (eOp (eT2 D.int D.int))) (eSq (eOp (eT2 D.int D.int))))) ones), some ((eLs true (eT2 (eSq (eOp (eT2 D.int D.int))) (eSq (eOp (eT2 D.int D.int))))) waiting), some ((eDc true (kT2 (kSq (kOp (kT2 kInt kInt))) (kSq (kOp (kT2 kInt kInt)))) D.bl) met), some (D.int at_), d7, d8, d9])) ⟨_, _, _, rfl⟩ (fun _ _ _ => True.intro) (fun s_ σ_ h_ => by obtain ⟨waiting, met, at_⟩ := s_; obtain ⟨d7, d8, d9, rfl⟩ := h_; exact (rf_andP_p (rf_lt_pp (rf_v (i := 6) (a := at_) D.int rfl) (rf_bip1_p (g := fun u => (List.length u : Int)) bt_lenL (rf_v (i := 4) (a := waiting) (eLs true (eT2 (eSq (eOp (eT2 D.int D.int))) (eSq (eOp (eT2 D.int D.int))))) rfl))) (rf_le_pp (rf_bip1_p (g := fun u => (List.length u : Int)) bt_lenL (rf_v (i := 4) (a := waiting) (eLs true (eT2 (eSq (eOp (eT2 D.int D.int))) (eSq (eOp (eT2 D.int D.int))))) rfl)) (rf_v (i := 2) (a := most) D.int rfl)))) (fun s_ σ_ h_ => by obtain ⟨waiting, met, at_⟩ := s_; obtain ⟨d7, d8, d9, rfl⟩ := h_; exact g_last (g_fz (i := 3) (a := ones) (eLs false (eT2 (eSq (eOp (eT2 D.int D.int))) (eSq (eOp (eT2 D.int D.int))))) rfl (cl_ls (cl_t2 (cl_sq (cl_op (cl_t2 cl_int cl_int))) (cl_sq (cl_op (cl_t2 cl_int cl_int))))).fz (g_seq (g_thn (I' := (fun (s_ : (List ((List (Option (Int × Int))) × (List (Option (Int × Int))))) × (List (((List (Option (Int × Int))) × (List (Option (Int × Int)))) × Bool))) (σ : Sl) => match s_ with | (waiting, met) => ∃ d7 d8 d9 : Option D, σ = [some ((eSq (eT3 eTu (eSq (eT2 D.int D.int)) eTu)) machine_here), some (D.int signs), some (D.int most), some ((eLs false (eT2 (eSq (eOp (eT2 D.int D.int))) (eSq (eOp (eT2 D.int D.int))))) ones), some ((eLs true (eT2 (eSq (eOp (eT2 D.int D.int))) (eSq (eOp (eT2 D.int D.int))))) waiting), some ((eDc true (kT2 (kSq (kOp (kT2 kInt kInt))) (kSq (kOp (kT2 kInt kInt)))) D.bl) met), some (D.int at_), d7, d8, d9])) (g_forP (I := (fun (s_ : (List ((List (Option (Int × Int))) × (List (Option (Int × Int))))) × (List (((List (Option (Int × Int))) × (List (Option (Int × Int)))) × Bool))) (σ : Sl) => match s_ with | (waiting, met) => ∃ d7 d8 d9 : Option D, σ = [some ((eSq (eT3 eTu (eSq (eT2 D.int D.int)) eTu)) machine_here), some (D.int signs), some (D.int most), some ((eLs false (eT2 (eSq (eOp (eT2 D.int D.int))) (eSq (eOp (eT2 D.int D.int))))) ones), some ((eLs true (eT2 (eSq (eOp (eT2 D.int D.int))) (eSq (eOp (eT2 D.int D.int))))) waiting), some ((eDc true (kT2 (kSq (kOp (kT2 kInt kInt))) (kSq (kOp (kT2 kInt kInt)))) D.bl) met), some (D.int at_), d7, d8, d9])) (xs := ones) (ri_L_p (cl_t2 (cl_sq (cl_op (cl_t2 cl_int cl_int))) (cl_sq (cl_op (cl_t2 cl_int cl_int)))) (rf_o (cl_ls (cl_t2 (cl_sq (cl_op (cl_t2 cl_int cl_int))) (cl_sq (cl_op (cl_t2 cl_int cl_int))))) (rf_v (i := 3) (a := ones) (eLs false (eT2 (eSq (eOp (eT2 D.int D.int))) (eSq (eOp (eT2 D.int D.int))))) rfl))) ⟨_, _, _, rfl⟩ True.intro (fun one s_ σ_ h_ => by obtain ⟨waiting, met⟩ := s_; obtain ⟨d7, d8, d9, rfl⟩ := h_; exact ⟨_, rfl, g_last (g_seq (g_set (i := 8) (rf_call2_mp (Φ := f_l_boxes) tf_l_boxes (fz_ls (cl_t2 (cl_sq (cl_op (cl_t2 cl_int cl_int))) (cl_sq (cl_op (cl_t2 cl_int cl_int)))).fz) cl_int.fz (.inr (nf_t2 (nf_sq (nf_op (nf_t2 nf_int nf_int))) (nf_sq (nf_op (nf_t2 nf_int nf_int))))) (rf_lst (rl_cons (rf_o (cl_t2 (cl_sq (cl_op (cl_t2 cl_int cl_int))) (cl_sq (cl_op (cl_t2 cl_int cl_int)))) (rf_ixL_pp (rf_v (i := 4) (a := waiting) (eLs true (eT2 (eSq (eOp (eT2 D.int D.int))) (eSq (eOp (eT2 D.int D.int))))) rfl) (rf_v (i := 6) (a := at_) D.int rfl))) (rl_cons (rf_o (cl_t2 (cl_sq (cl_op (cl_t2 cl_int cl_int))) (cl_sq (cl_op (cl_t2 cl_int cl_int)))) (rf_v (i := 7) (a := one) (eT2 (eSq (eOp (eT2 D.int D.int))) (eSq (eOp (eT2 D.int D.int)))) rfl)) rl_nil))) (rf_bip1_p (g := fun u => (List.length u : Int)) bt_lenQ (rf_v (i := 0) (a := machine_here) (eSq (eT3 eTu (eSq (eT2 D.int D.int)) eTu)) rfl))) True.intro fun fresh => (g_ifP (b := !hasT met fresh) (rf_ninD_pp ((ky_t2 (ky_sq (ky_op (ky_t2 ky_int ky_int) kn_t2)) (ky_sq (ky_op (ky_t2 ky_int ky_int) kn_t2))).tupk kt_t2 (by decide)) (rf_v (i := 8) (a := fresh) (eT2 (eSq (eOp (eT2 D.int D.int))) (eSq (eOp (eT2 D.int D.int)))) rfl) (rf_v (i := 5) (a := met) (eDc true (kT2 (kSq (kOp (kT2 kInt kInt))) (kSq (kOp (kT2 kInt kInt)))) D.bl) rfl)) (g_seq (g_putk (i := 5) (kvs := met) D.bl ((ky_t2 (ky_sq (ky_op (ky_t2 ky_int ky_int) kn_t2)) (ky_sq (ky_op (ky_t2 ky_int ky_int) kn_t2))).tupk kt_t2 (by decide)) cl_bl rfl (rf_k (a := true) D.bl rfl) (rf_v (i := 8) (a := fresh) (eT2 (eSq (eOp (eT2 D.int D.int))) (eSq (eOp (eT2 D.int D.int)))) rfl) True.intro fun met => (g_fz (i := 8) (a := fresh) (eT2 (eSq (eOp (eT2 D.int D.int))) (eSq (eOp (eT2 D.int D.int)))) rfl (cl_t2 (cl_sq (cl_op (cl_t2 cl_int cl_int))) (cl_sq (cl_op (cl_t2 cl_int cl_int)))).fz (g_appP (i := 4) (xs := waiting) (a := fresh) (eT2 (eSq (eOp (eT2 D.int D.int))) (eSq (eOp (eT2 D.int D.int)))) rfl (rf_o (cl_t2 (cl_sq (cl_op (cl_t2 cl_int cl_int))) (cl_sq (cl_op (cl_t2 cl_int cl_int)))) (rf_v (i := 8) (a := fresh) (eT2 (eSq (eOp (eT2 D.int D.int))) (eSq (eOp (eT2 D.int D.int)))) rfl)) True.intro fun waiting => (g_nx ⟨_, _, _, rfl⟩))))) (g_skip (g_nx ⟨_, _, _, rfl⟩)))))⟩)) fun s_ σ_ h_ => by obtain ⟨waiting, met⟩ := s_; obtain ⟨d7, d8, d9, rfl⟩ := h_; exact (g_set (i := 6) (rf_add_pp (rf_v (i := 6) (a := at_) D.int rfl) (rf_k (a := 1) D.int rfl)) True.intro fun at_ => (g_nx ⟨_, _, _, rfl⟩))))))) fun s_ σ_ h_ => by obtain ⟨waiting, met, at_⟩ := s_; obtain ⟨d7, d8, d9, rfl⟩ := h_; exact (g_retP (a := (waiting.length : Int)) (rf_bip1_p (g := fun u => (List.length u : Int)) bt_lenL (rf_v (i := 4) (a := waiting) (eLs true (eT2 (eSq (eOp (eT2 D.int D.int))) (eSq (eOp (eT2 D.int D.int))))) rfl)))))))))))))))
noncomputable def f_l_asked (machine_here : (List (Turn × (List (Int × Int)) × Turn))) : R ((Option (List (St × ((List (Option (Int × Int))) × (List (Option (Int × Int))))))) × Bool) := runO (L := Unit) (S := Unit) <|
  bnd (R.ok (none) : R (Option (List (St × ((List (Option (Int × Int))) × (List (Option (Int × Int)))))))) fun found =>
  bnd (R.ok (false) : R Bool) fun refused =>
  O.thn (tryT (bnd ((f_p_all_tables machine_here).bind fun u => R.ok (some u) : R (Option (List (St × ((List (Option (Int × Int))) × (List (Option (Int × Int)))))))) fun found =>
    O.nx (found, refused) : O ((Option (List (St × ((List (Option (Int × Int))) × (List (Option (Int × Int))))))) × Bool) _ _) (oneOfN [3]) (oneOfN [3]) (fun c fs =>
    bnd ((isxT (oneOfN [1, 2, 3, 4]) c).bind fun u => if u = true then isxT (fun _ => true) c else R.ok false : R Bool) fun plain =>
    bnd (if plain = true then (isxT (oneOf2 (oneOfN [2]) (oneOfN [4])) c).bind fun u => R.ok (!u) else R.ok false : R Bool) fun refused =>
    O.nx (found, refused)) : O ((Option (List (St × ((List (Option (Int × Int))) × (List (Option (Int × Int))))))) × Bool) _ _) fun (found, refused) =>
  O.rt (found, refused)
theorem tf_l_asked (machine_here : (List (Turn × (List (Int × Int)) × Turn))) : Rf (h_l_asked [(eSq (eT3 eTu (eSq (eT2 D.int D.int)) eTu)) machine_here]) (f_l_asked machine_here) (eT2 (eOp (eLs true (eT2 eSt (eT2 (eSq (eOp (eT2 D.int D.int))) (eSq (eOp (eT2 D.int D.int))))))) D.bl) := by
  unfold h_l_asked runF b_l_asked f_l_asked
  exact g_fun (g_last (g_seq (g_set (i := 1) (rf_wid_p (fun _ => none) (rf_k (a := ()) eNon rfl) (wd_none (e := (eLs true (eT2 eSt (eT2 (eSq (eOp (eT2 D.int D.int))) (eSq (eOp (eT2 D.int D.int))))))))) True.intro fun found => (g_seq (g_set (i := 2) (rf_k (a := false) D.bl rfl) True.intro fun refused => (g_seq (g_thn (I' := (fun (s_ : (Option (List (St × ((List (Option (Int × Int))) × (List (Option (Int × Int))))))) × Bool) (σ : Sl) => match s_ with | (found, refused) => ∃ d3 d4 : Option D, σ = [some ((eSq (eT3 eTu (eSq (eT2 D.int D.int)) eTu)) machine_here), some ((eOp (eLs true (eT2 eSt (eT2 (eSq (eOp (eT2 D.int D.int))) (eSq (eOp (eT2 D.int D.int))))))) found), some (D.bl refused), d3, d4])) (g_try (i := 3) (I := (fun (s_ : (Option (List (St × ((List (Option (Int × Int))) × (List (Option (Int × Int))))))) × Bool) (σ : Sl) => match s_ with | (found, refused) => ∃ d3 d4 : Option D, σ = [some ((eSq (eT3 eTu (eSq (eT2 D.int D.int)) eTu)) machine_here), some ((eOp (eLs true (eT2 eSt (eT2 (eSq (eOp (eT2 D.int D.int))) (eSq (eOp (eT2 D.int D.int))))))) found), some (D.bl refused), d3, d4])) (E' := fun σ => ∃ d3 d4 : Option D, σ = [some ((eSq (eT3 eTu (eSq (eT2 D.int D.int)) eTu)) machine_here), some ((eOp (eLs true (eT2 eSt (eT2 (eSq (eOp (eT2 D.int D.int))) (eSq (eOp (eT2 D.int D.int))))))) found), some (D.bl refused), d3, d4]) (xf_t2 (xf_op (xf_ls (xf_t2 xf_st (xf_t2 (xf_sq (xf_op (xf_t2 xf_int xf_int))) (xf_sq (xf_op (xf_t2 xf_int xf_int))))))) xf_bl) (g_last (g_set (i := 1) (rf_wid_m some (rf_call1_p (Φ := f_p_all_tables) tf_p_all_tables (cl_sq (cl_t3 cl_tu (cl_sq (cl_t2 cl_int cl_int)) cl_tu)).fz (.inl ⟨(cl_sq (cl_t3 cl_tu (cl_sq (cl_t2 cl_int cl_int)) cl_tu)), True.intro⟩) (rf_v (i := 0) (a := machine_here) (eSq (eT3 eTu (eSq (eT2 D.int D.int)) eTu)) rfl)) wd_some) ⟨_, _, rfl⟩ fun found => (g_nx ⟨_, _, rfl⟩))) (fun _ _ => True.intro) (fun s_ σ_ h_ => by obtain ⟨found, refused⟩ := s_; obtain ⟨d3, d4, rfl⟩ := h_; exact ⟨none, cx d4, (clear_c (cx_e (xf_sq (xf_t3 xf_tu (xf_sq (xf_t2 xf_int xf_int)) xf_tu)) _) (clear_c (cx_e (xf_op (xf_ls (xf_t2 xf_st (xf_t2 (xf_sq (xf_op (xf_t2 xf_int xf_int))) (xf_sq (xf_op (xf_t2 xf_int xf_int))))))) _) (clear_c (cx_e xf_bl _) (clear_c rfl (clear_c rfl clearX_nil)))))⟩) (fun _ _ _ => True.intro) (fun c fs σ_ h_ hy_ => by obtain ⟨d3, d4, rfl⟩ := h_; exact g_last (g_seq (g_set (i := 4) (rf_o cl_bl (rf_and_m (rf_xi (i := 3) rfl) (rf_xi (i := 3) rfl))) True.intro fun plain => (g_set (i := 2) (rf_o cl_bl (rf_and_p (rf_v (i := 4) (a := plain) D.bl rfl) (rf_not_m (rf_xi (i := 3) rfl)))) True.intro fun refused => (g_nx ⟨_, _, rfl⟩)))))) fun s_ σ_ h_ => by obtain ⟨found, refused⟩ := s_; obtain ⟨d3, d4, rfl⟩ := h_; exact (g_retT2 (i := 1) (j := 2) (a := found) (b := refused) rfl rfl (by decide)))))))))
noncomputable def f_l_listed (machine_here : (List (Turn × (List (Int × Int)) × Turn))) (found : (Option (List (St × ((List (Option (Int × Int))) × (List (Option (Int × Int)))))))) (signs : Int) : R Bool := runO (L := Unit) (S := Unit) <|
  bnd (R.ok (none) : R (Option (Int × St))) fun ahead =>
  O.thn (bnd ((unO found).bind fun u => R.ok u) fun l_ => forT l_ (fun one ahead =>
    if ((!true) || ((!decide (((((fun p => [eSt p.1, (eT2 (eSq (eOp (eT2 D.int D.int))) (eSq (eOp (eT2 D.int D.int)))) p.2]) one).length : Int)) = 2)) || (!true))) = true then
      O.rt (false)
    else
      bnd ((((cmT one.1 (fun sign => (szT ("abc".toList).length (cutL ("abc".toList) none (some signs))).bind fun v => R.ok (decide (sign ∈ v)))).bind fun u => R.ok (u.all id)).bind fun u => R.ok (!u)).bind fun u => if u = true then R.ok true else (lenT one.1).bind fun u => R.ok (decide (300 < u))) fun b_ => if b_ = true then
      O.rt (false)
    else
      bnd (if (!ahead.isNone) = true then ((lenT one.1).bind fun u => R.ok ((u, one.1))).bind fun u => (unO ahead).bind fun v => R.ok (!ltIS v u) else R.ok false) fun b_ => if b_ = true then
      O.rt (false)
    else
      bnd (((lenT one.1).bind fun u => R.ok ((u, one.1))).bind fun u => R.ok (some u) : R (Option (Int × St))) fun ahead =>
    bnd (((f_l_table machine_here one.1).bind fun v => f_l_is_table one.2 v).bind fun u => R.ok (!u)) fun b_ => if b_ = true then
      O.rt (false)
    else
      O.nx ahead) ahead : O ((Option (Int × St))) _ _) fun ahead =>
  O.rt (true)
theorem tf_l_listed (machine_here : (List (Turn × (List (Int × Int)) × Turn))) (found : (Option (List (St × ((List (Option (Int × Int))) × (List (Option (Int × Int)))))))) (signs : Int) : Rf (h_l_listed [(eSq (eT3 eTu (eSq (eT2 D.int D.int)) eTu)) machine_here, (eOp (eLs false (eT2 eSt (eT2 (eSq (eOp (eT2 D.int D.int))) (eSq (eOp (eT2 D.int D.int))))))) found, D.int signs]) (f_l_listed machine_here found signs) D.bl := by
  unfold h_l_listed runF b_l_listed f_l_listed
  exact g_fun (g_last (g_seq (g_set (i := 3) (rf_wid_p (fun _ => none) (rf_k (a := ()) eNon rfl) (wd_none (e := (eT2 D.int eSt)))) True.intro fun ahead => (g_seq (g_thn (I' := (fun (ahead : (Option (Int × St))) (σ : Sl) => ∃ d4 d5 : Option D, σ = [some ((eSq (eT3 eTu (eSq (eT2 D.int D.int)) eTu)) machine_here), some ((eOp (eLs false (eT2 eSt (eT2 (eSq (eOp (eT2 D.int D.int))) (eSq (eOp (eT2 D.int D.int))))))) found), some (D.int signs), some ((eOp (eT2 D.int eSt)) ahead), d4, d5])) (g_for (I := (fun (ahead : (Option (Int × St))) (σ : Sl) => ∃ d4 d5 : Option D, σ = [some ((eSq (eT3 eTu (eSq (eT2 D.int D.int)) eTu)) machine_here), some ((eOp (eLs false (eT2 eSt (eT2 (eSq (eOp (eT2 D.int D.int))) (eSq (eOp (eT2 D.int D.int))))))) found), some (D.int signs), some ((eOp (eT2 D.int eSt)) ahead), d4, d5])) (ri_L_m (cl_t2 cl_st (cl_t2 (cl_sq (cl_op (cl_t2 cl_int cl_int))) (cl_sq (cl_op (cl_t2 cl_int cl_int))))) (rf_nar_p unO (rf_o (cl_op (cl_ls (cl_t2 cl_st (cl_t2 (cl_sq (cl_op (cl_t2 cl_int cl_int))) (cl_sq (cl_op (cl_t2 cl_int cl_int))))))) (rf_v (i := 1) (a := found) (eOp (eLs false (eT2 eSt (eT2 (eSq (eOp (eT2 D.int D.int))) (eSq (eOp (eT2 D.int D.int))))))) rfl)) nw_unO)) ⟨_, _, rfl⟩ True.intro (fun one ahead σ_ h_ => by obtain ⟨d4, d5, rfl⟩ := h_; exact ⟨_, rfl, g_last (g_seq (g_ifP (b := (!true) || ((!decide (((((fun p => [eSt p.1, (eT2 (eSq (eOp (eT2 D.int D.int))) (eSq (eOp (eT2 D.int D.int)))) p.2]) one).length : Int)) = 2)) || (!true))) (rf_orP_p (rf_not_p (rf_isi_p (b := fun _ => true) (fun _ => rfl) (rf_v (i := 4) (a := one) (eT2 eSt (eT2 (eSq (eOp (eT2 D.int D.int))) (eSq (eOp (eT2 D.int D.int))))) rfl))) (rf_orP_p (rf_ne_pp py_int py_int pq_int (by decide) (by decide) (rf_bip1_p (g := fun u => (List.length u : Int)) bt_lenQ (rf_wid_p (fun p => [eSt p.1, (eT2 (eSq (eOp (eT2 D.int D.int))) (eSq (eOp (eT2 D.int D.int)))) p.2]) (rf_v (i := 4) (a := one) (eT2 eSt (eT2 (eSq (eOp (eT2 D.int D.int))) (eSq (eOp (eT2 D.int D.int))))) rfl) (wd_q2 wd_dy wd_dy))) (rf_k (a := 2) D.int rfl)) (rf_not_p (rf_isi_p (b := fun _ => true) (fun _ => rfl) (rf_ix2_0_p (rf_v (i := 4) (a := one) (eT2 eSt (eT2 (eSq (eOp (eT2 D.int D.int))) (eSq (eOp (eT2 D.int D.int))))) rfl)))))) (g_retP (a := false) (rf_k (a := false) D.bl rfl)) (g_skip (g_seq (g_if (rf_or_m (rf_not_m (rf_bip1_m (g := fun u => List.all u id) bt_all (rf_cm_p (ri_S_p (rf_ix2_0_p (rf_v (i := 4) (a := one) (eT2 eSt (eT2 (eSq (eOp (eT2 D.int D.int))) (eSq (eOp (eT2 D.int D.int))))) rfl))) (fun sign => ⟨_, rfl, (rf_inC_pm (rf_v (i := 5) (a := sign) eCh rfl) (rf_slS_p (rf_k (a := "abc".toList) eSt (k_str _)) (sl_noP rfl) (sl_yesP (rf_v (i := 2) (a := signs) D.int rfl))))⟩)))) (rf_gt_mp (rf_bi1_p (Φ := lenT) bt_lenS (rf_ix2_0_p (rf_v (i := 4) (a := one) (eT2 eSt (eT2 (eSq (eOp (eT2 D.int D.int))) (eSq (eOp (eT2 D.int D.int))))) rfl))) (rf_k (a := 300) D.int rfl))) True.intro (g_retP (a := false) (rf_k (a := false) D.bl rfl)) (g_skip (g_seq (g_if (rf_and_p (rf_ntN_p (b := Option.isNone) (isN_op (fun _ => rfl)) (rf_v (i := 3) (a := ahead) (eOp (eT2 D.int eSt)) rfl)) (rf_leO_mm (rf_tup2_mp (rf_bi1_p (Φ := lenT) bt_lenS (rf_ix2_0_p (rf_v (i := 4) (a := one) (eT2 eSt (eT2 (eSq (eOp (eT2 D.int D.int))) (eSq (eOp (eT2 D.int D.int))))) rfl))) (rf_o cl_st (rf_ix2_0_p (rf_v (i := 4) (a := one) (eT2 eSt (eT2 (eSq (eOp (eT2 D.int D.int))) (eSq (eOp (eT2 D.int D.int))))) rfl)))) (rf_nar_p unO (rf_v (i := 3) (a := ahead) (eOp (eT2 D.int eSt)) rfl) nw_unO))) True.intro (g_retP (a := false) (rf_k (a := false) D.bl rfl)) (g_skip (g_seq (g_set (i := 3) (rf_wid_m some (rf_tup2_mp (rf_bi1_p (Φ := lenT) bt_lenS (rf_ix2_0_p (rf_v (i := 4) (a := one) (eT2 eSt (eT2 (eSq (eOp (eT2 D.int D.int))) (eSq (eOp (eT2 D.int D.int))))) rfl))) (rf_o cl_st (rf_ix2_0_p (rf_v (i := 4) (a := one) (eT2 eSt (eT2 (eSq (eOp (eT2 D.int D.int))) (eSq (eOp (eT2 D.int D.int))))) rfl)))) wd_some) True.intro fun ahead => (g_if (rf_not_m (rf_call2_pm (Φ := f_l_is_table) tf_l_is_table (cl_t2 (cl_sq (cl_op (cl_t2 cl_int cl_int))) (cl_sq (cl_op (cl_t2 cl_int cl_int)))).fz (cl_t2 (cl_sq (cl_op (cl_t2 cl_int cl_int))) (cl_sq (cl_op (cl_t2 cl_int cl_int)))).fz (.inl ⟨(cl_t2 (cl_sq (cl_op (cl_t2 cl_int cl_int))) (cl_sq (cl_op (cl_t2 cl_int cl_int)))), (cl_t2 (cl_sq (cl_op (cl_t2 cl_int cl_int))) (cl_sq (cl_op (cl_t2 cl_int cl_int)))), True.intro⟩) (rf_ix2_1_p (rf_v (i := 4) (a := one) (eT2 eSt (eT2 (eSq (eOp (eT2 D.int D.int))) (eSq (eOp (eT2 D.int D.int))))) rfl)) (rf_call2_pp (Φ := f_l_table) tf_l_table (cl_sq (cl_t3 cl_tu (cl_sq (cl_t2 cl_int cl_int)) cl_tu)).fz cl_st.fz (.inl ⟨(cl_sq (cl_t3 cl_tu (cl_sq (cl_t2 cl_int cl_int)) cl_tu)), cl_st, True.intro⟩) (rf_v (i := 0) (a := machine_here) (eSq (eT3 eTu (eSq (eT2 D.int D.int)) eTu)) rfl) (rf_ix2_0_p (rf_v (i := 4) (a := one) (eT2 eSt (eT2 (eSq (eOp (eT2 D.int D.int))) (eSq (eOp (eT2 D.int D.int))))) rfl))))) True.intro (g_retP (a := false) (rf_k (a := false) D.bl rfl)) (g_skip (g_nx ⟨_, _, rfl⟩))))))))))))))⟩)) fun ahead σ_ h_ => by obtain ⟨d4, d5, rfl⟩ := h_; exact (g_retP (a := true) (rf_k (a := true) D.bl rfl)))))))
noncomputable def f_l_closed (machine_here : (List (Turn × (List (Int × Int)) × Turn))) (found : (Option (List (St × ((List (Option (Int × Int))) × (List (Option (Int × Int)))))))) (signs : Int) : R Bool := runO (L := Unit) (S := Unit) <|
  bnd (R.ok ([]) : R (List (((List (Option (Int × Int))) × (List (Option (Int × Int)))) × Bool))) fun tables =>
  O.thn (bnd ((unO found).bind fun u => R.ok u) fun l_ => forT l_ (fun (strip, table_here) tables =>
    bnd (R.ok (true)) fun v => bnd (R.ok (table_here)) fun k => bnd (puT tables k v) fun tables =>
    O.nx tables) tables : O ((List (((List (Option (Int × Int))) × (List (Option (Int × Int)))) × Bool))) _ _) fun tables =>
  bnd (((szT ("abc".toList).length (cutL ("abc".toList) none (some signs))).bind fun u => R.ok u).bind fun u => cmT u (fun sign => f_l_table machine_here ([sign])) : R (List ((List (Option (Int × Int))) × (List (Option (Int × Int)))))) fun ones =>
  O.thn (forT (tables.map (·.1)) (fun table_here (_ : Unit) =>
    O.thn (forT ones (fun one (_ : Unit) =>
      bnd ((f_l_boxes ([table_here, one]) ((machine_here.length : Int))).bind fun u => R.ok (!hasT tables u)) fun b_ => if b_ = true then
        O.rt (false)
      else
        bnd ((f_l_boxes ([one, table_here]) ((machine_here.length : Int))).bind fun u => R.ok (!hasT tables u)) fun b_ => if b_ = true then
        O.rt (false)
      else
        O.nx ()) () : O (Unit) _ _) fun (_ : Unit) =>
    O.nx ()) () : O (Unit) _ _) fun (_ : Unit) =>
  bnd (((unO found).bind fun u => R.ok ((u.length : Int))).bind fun v => R.ok (decide (((tables.length : Int)) = v))) .rt
theorem tf_l_closed (machine_here : (List (Turn × (List (Int × Int)) × Turn))) (found : (Option (List (St × ((List (Option (Int × Int))) × (List (Option (Int × Int)))))))) (signs : Int) : Rf (h_l_closed [(eSq (eT3 eTu (eSq (eT2 D.int D.int)) eTu)) machine_here, (eOp (eLs false (eT2 eSt (eT2 (eSq (eOp (eT2 D.int D.int))) (eSq (eOp (eT2 D.int D.int))))))) found, D.int signs]) (f_l_closed machine_here found signs) D.bl := by
  unfold h_l_closed runF b_l_closed f_l_closed
  exact g_fun (g_last (g_seq (g_set (i := 3) (rf_d0 (κ := (kT2 (kSq (kOp (kT2 kInt kInt))) (kSq (kOp (kT2 kInt kInt))))) (e' := D.bl)) True.intro fun tables => (g_seq (g_thn (I' := (fun (tables : (List (((List (Option (Int × Int))) × (List (Option (Int × Int)))) × Bool))) (σ : Sl) => ∃ d4 d5 d6 d7 d8 : Option D, σ = [some ((eSq (eT3 eTu (eSq (eT2 D.int D.int)) eTu)) machine_here), some ((eOp (eLs false (eT2 eSt (eT2 (eSq (eOp (eT2 D.int D.int))) (eSq (eOp (eT2 D.int D.int))))))) found), some (D.int signs), some ((eDc true (kT2 (kSq (kOp (kT2 kInt kInt))) (kSq (kOp (kT2 kInt kInt)))) D.bl) tables), d4, d5, d6, d7, d8])) (g_for (I := (fun (tables : (List (((List (Option (Int × Int))) × (List (Option (Int × Int)))) × Bool))) (σ : Sl) => ∃ d4 d5 d6 d7 d8 : Option D, σ = [some ((eSq (eT3 eTu (eSq (eT2 D.int D.int)) eTu)) machine_here), some ((eOp (eLs false (eT2 eSt (eT2 (eSq (eOp (eT2 D.int D.int))) (eSq (eOp (eT2 D.int D.int))))))) found), some (D.int signs), some ((eDc true (kT2 (kSq (kOp (kT2 kInt kInt))) (kSq (kOp (kT2 kInt kInt)))) D.bl) tables), d4, d5, d6, d7, d8])) (ri_L_m (cl_t2 cl_st (cl_t2 (cl_sq (cl_op (cl_t2 cl_int cl_int))) (cl_sq (cl_op (cl_t2 cl_int cl_int))))) (rf_nar_p unO (rf_o (cl_op (cl_ls (cl_t2 cl_st (cl_t2 (cl_sq (cl_op (cl_t2 cl_int cl_int))) (cl_sq (cl_op (cl_t2 cl_int cl_int))))))) (rf_v (i := 1) (a := found) (eOp (eLs false (eT2 eSt (eT2 (eSq (eOp (eT2 D.int D.int))) (eSq (eOp (eT2 D.int D.int))))))) rfl)) nw_unO)) ⟨_, _, _, _, _, rfl⟩ True.intro (fun q_ tables σ_ h_ => by obtain ⟨strip, table_here⟩ := q_; obtain ⟨d4, d5, d6, d7, d8, rfl⟩ := h_; exact ⟨_, rfl, g_last (g_putk (i := 3) (kvs := tables) D.bl ((ky_t2 (ky_sq (ky_op (ky_t2 ky_int ky_int) kn_t2)) (ky_sq (ky_op (ky_t2 ky_int ky_int) kn_t2))).tupk kt_t2 (by decide)) cl_bl rfl (rf_k (a := true) D.bl rfl) (rf_v (i := 5) (a := table_here) (eT2 (eSq (eOp (eT2 D.int D.int))) (eSq (eOp (eT2 D.int D.int)))) rfl) True.intro fun tables => (g_nx ⟨_, _, _, _, _, rfl⟩))⟩)) fun tables σ_ h_ => by obtain ⟨d4, d5, d6, d7, d8, rfl⟩ := h_; exact (g_seq (g_set (i := 6) (rf_cm_m (ri_S_m (rf_slS_p (rf_k (a := "abc".toList) eSt (k_str _)) (sl_noP rfl) (sl_yesP (rf_v (i := 2) (a := signs) D.int rfl)))) (fun sign => ⟨_, rfl, (rf_call2_pp (Φ := f_l_table) tf_l_table (cl_sq (cl_t3 cl_tu (cl_sq (cl_t2 cl_int cl_int)) cl_tu)).fz cl_st.fz (.inl ⟨(cl_sq (cl_t3 cl_tu (cl_sq (cl_t2 cl_int cl_int)) cl_tu)), cl_st, True.intro⟩) (rf_v (i := 0) (a := machine_here) (eSq (eT3 eTu (eSq (eT2 D.int D.int)) eTu)) rfl) (rf_wid_p (fun c => [c]) (rf_v (i := 8) (a := sign) eCh rfl) wd_chr))⟩)) True.intro fun ones => (g_fz (i := 6) (a := ones) (eLs true (eT2 (eSq (eOp (eT2 D.int D.int))) (eSq (eOp (eT2 D.int D.int))))) rfl (fz_ls (cl_t2 (cl_sq (cl_op (cl_t2 cl_int cl_int))) (cl_sq (cl_op (cl_t2 cl_int cl_int)))).fz) (g_seq (g_thn (I' := (fun (_ : Unit) (σ : Sl) => ∃ d4 d5 d7 d8 : Option D, σ = [some ((eSq (eT3 eTu (eSq (eT2 D.int D.int)) eTu)) machine_here), some ((eOp (eLs false (eT2 eSt (eT2 (eSq (eOp (eT2 D.int D.int))) (eSq (eOp (eT2 D.int D.int))))))) found), some (D.int signs), some ((eDc true (kT2 (kSq (kOp (kT2 kInt kInt))) (kSq (kOp (kT2 kInt kInt)))) D.bl) tables), d4, d5, some ((eLs false (eT2 (eSq (eOp (eT2 D.int D.int))) (eSq (eOp (eT2 D.int D.int))))) ones), d7, d8])) (g_forP (I := (fun (_ : Unit) (σ : Sl) => ∃ d4 d5 d7 d8 : Option D, σ = [some ((eSq (eT3 eTu (eSq (eT2 D.int D.int)) eTu)) machine_here), some ((eOp (eLs false (eT2 eSt (eT2 (eSq (eOp (eT2 D.int D.int))) (eSq (eOp (eT2 D.int D.int))))))) found), some (D.int signs), some ((eDc true (kT2 (kSq (kOp (kT2 kInt kInt))) (kSq (kOp (kT2 kInt kInt)))) D.bl) tables), d4, d5, some ((eLs false (eT2 (eSq (eOp (eT2 D.int D.int))) (eSq (eOp (eT2 D.int D.int))))) ones), d7, d8])) (xs := tables.map (·.1)) (ri_L_p (cl_t2 (cl_sq (cl_op (cl_t2 cl_int cl_int))) (cl_sq (cl_op (cl_t2 cl_int cl_int)))) (rf_ldN_p (uk_t2 (uk_sq (uk_op (uk_t2 uk_int uk_int))) (uk_sq (uk_op (uk_t2 uk_int uk_int)))) nl_tab (rf_v (i := 3) (a := tables) (eDc true (kT2 (kSq (kOp (kT2 kInt kInt))) (kSq (kOp (kT2 kInt kInt)))) D.bl) rfl))) ⟨_, _, _, _, rfl⟩ True.intro (fun table_here s_ σ_ h_ => by obtain ⟨d4, d5, d7, d8, rfl⟩ := h_; exact ⟨_, rfl, g_last (g_fz (i := 6) (a := ones) (eLs false (eT2 (eSq (eOp (eT2 D.int D.int))) (eSq (eOp (eT2 D.int D.int))))) rfl (cl_ls (cl_t2 (cl_sq (cl_op (cl_t2 cl_int cl_int))) (cl_sq (cl_op (cl_t2 cl_int cl_int))))).fz (g_thn (I' := (fun (_ : Unit) (σ : Sl) => ∃ d4 d7 d8 : Option D, σ = [some ((eSq (eT3 eTu (eSq (eT2 D.int D.int)) eTu)) machine_here), some ((eOp (eLs false (eT2 eSt (eT2 (eSq (eOp (eT2 D.int D.int))) (eSq (eOp (eT2 D.int D.int))))))) found), some (D.int signs), some ((eDc true (kT2 (kSq (kOp (kT2 kInt kInt))) (kSq (kOp (kT2 kInt kInt)))) D.bl) tables), d4, some ((eT2 (eSq (eOp (eT2 D.int D.int))) (eSq (eOp (eT2 D.int D.int)))) table_here), some ((eLs false (eT2 (eSq (eOp (eT2 D.int D.int))) (eSq (eOp (eT2 D.int D.int))))) ones), d7, d8])) (g_forP (I := (fun (_ : Unit) (σ : Sl) => ∃ d4 d7 d8 : Option D, σ = [some ((eSq (eT3 eTu (eSq (eT2 D.int D.int)) eTu)) machine_here), some ((eOp (eLs false (eT2 eSt (eT2 (eSq (eOp (eT2 D.int D.int))) (eSq (eOp (eT2 D.int D.int))))))) found), some (D.int signs), some ((eDc true (kT2 (kSq (kOp (kT2 kInt kInt))) (kSq (kOp (kT2 kInt kInt)))) D.bl) tables), d4, some ((eT2 (eSq (eOp (eT2 D.int D.int))) (eSq (eOp (eT2 D.int D.int)))) table_here), some ((eLs false (eT2 (eSq (eOp (eT2 D.int D.int))) (eSq (eOp (eT2 D.int D.int))))) ones), d7, d8])) (xs := ones) (ri_L_p (cl_t2 (cl_sq (cl_op (cl_t2 cl_int cl_int))) (cl_sq (cl_op (cl_t2 cl_int cl_int)))) (rf_o (cl_ls (cl_t2 (cl_sq (cl_op (cl_t2 cl_int cl_int))) (cl_sq (cl_op (cl_t2 cl_int cl_int))))) (rf_v (i := 6) (a := ones) (eLs false (eT2 (eSq (eOp (eT2 D.int D.int))) (eSq (eOp (eT2 D.int D.int))))) rfl))) ⟨_, _, _, rfl⟩ True.intro (fun one s_ σ_ h_ => by obtain ⟨d4, d7, d8, rfl⟩ := h_; exact ⟨_, rfl, g_last (g_seq (g_if (rf_ninD_mp ((ky_t2 (ky_sq (ky_op (ky_t2 ky_int ky_int) kn_t2)) (ky_sq (ky_op (ky_t2 ky_int ky_int) kn_t2))).tupk kt_t2 (by decide)) (rf_call2_pp (Φ := f_l_boxes) tf_l_boxes (fz_ls (cl_t2 (cl_sq (cl_op (cl_t2 cl_int cl_int))) (cl_sq (cl_op (cl_t2 cl_int cl_int)))).fz) cl_int.fz (.inr (nf_t2 (nf_sq (nf_op (nf_t2 nf_int nf_int))) (nf_sq (nf_op (nf_t2 nf_int nf_int))))) (rf_lstP (as := [table_here, one]) (rl_consP (rf_o (cl_t2 (cl_sq (cl_op (cl_t2 cl_int cl_int))) (cl_sq (cl_op (cl_t2 cl_int cl_int)))) (rf_v (i := 5) (a := table_here) (eT2 (eSq (eOp (eT2 D.int D.int))) (eSq (eOp (eT2 D.int D.int)))) rfl)) (rl_consP (rf_o (cl_t2 (cl_sq (cl_op (cl_t2 cl_int cl_int))) (cl_sq (cl_op (cl_t2 cl_int cl_int)))) (rf_v (i := 7) (a := one) (eT2 (eSq (eOp (eT2 D.int D.int))) (eSq (eOp (eT2 D.int D.int)))) rfl)) rl_nil)) (by simp)) (rf_bip1_p (g := fun u => (List.length u : Int)) bt_lenQ (rf_v (i := 0) (a := machine_here) (eSq (eT3 eTu (eSq (eT2 D.int D.int)) eTu)) rfl))) (rf_v (i := 3) (a := tables) (eDc true (kT2 (kSq (kOp (kT2 kInt kInt))) (kSq (kOp (kT2 kInt kInt)))) D.bl) rfl)) True.intro (g_retP (a := false) (rf_k (a := false) D.bl rfl)) (g_skip (g_if (rf_ninD_mp ((ky_t2 (ky_sq (ky_op (ky_t2 ky_int ky_int) kn_t2)) (ky_sq (ky_op (ky_t2 ky_int ky_int) kn_t2))).tupk kt_t2 (by decide)) (rf_call2_pp (Φ := f_l_boxes) tf_l_boxes (fz_ls (cl_t2 (cl_sq (cl_op (cl_t2 cl_int cl_int))) (cl_sq (cl_op (cl_t2 cl_int cl_int)))).fz) cl_int.fz (.inr (nf_t2 (nf_sq (nf_op (nf_t2 nf_int nf_int))) (nf_sq (nf_op (nf_t2 nf_int nf_int))))) (rf_lstP (as := [one, table_here]) (rl_consP (rf_o (cl_t2 (cl_sq (cl_op (cl_t2 cl_int cl_int))) (cl_sq (cl_op (cl_t2 cl_int cl_int)))) (rf_v (i := 7) (a := one) (eT2 (eSq (eOp (eT2 D.int D.int))) (eSq (eOp (eT2 D.int D.int)))) rfl)) (rl_consP (rf_o (cl_t2 (cl_sq (cl_op (cl_t2 cl_int cl_int))) (cl_sq (cl_op (cl_t2 cl_int cl_int)))) (rf_v (i := 5) (a := table_here) (eT2 (eSq (eOp (eT2 D.int D.int))) (eSq (eOp (eT2 D.int D.int)))) rfl)) rl_nil)) (by simp)) (rf_bip1_p (g := fun u => (List.length u : Int)) bt_lenQ (rf_v (i := 0) (a := machine_here) (eSq (eT3 eTu (eSq (eT2 D.int D.int)) eTu)) rfl))) (rf_v (i := 3) (a := tables) (eDc true (kT2 (kSq (kOp (kT2 kInt kInt))) (kSq (kOp (kT2 kInt kInt)))) D.bl) rfl)) True.intro (g_retP (a := false) (rf_k (a := false) D.bl rfl)) (g_skip (g_nx ⟨_, _, _, rfl⟩))))))⟩)) fun s_ σ_ h_ => by obtain ⟨d4, d7, d8, rfl⟩ := h_; exact (g_nx ⟨_, _, _, _, rfl⟩)))⟩)) fun s_ σ_ h_ => by obtain ⟨d4, d5, d7, d8, rfl⟩ := h_; exact (g_ret (rf_eq_pm py_int py_int pq_int (by decide) (by decide) (rf_bip1_p (g := fun u => (List.length u : Int)) bt_lenD (rf_v (i := 3) (a := tables) (eDc true (kT2 (kSq (kOp (kT2 kInt kInt))) (kSq (kOp (kT2 kInt kInt)))) D.bl) rfl)) (rf_bip1_m (g := fun u => (List.length u : Int)) bt_lenL (rf_nar_p unO (rf_v (i := 1) (a := found) (eOp (eLs false (eT2 eSt (eT2 (eSq (eOp (eT2 D.int D.int))) (eSq (eOp (eT2 D.int D.int))))))) rfl) nw_unO))) True.intro)))))))))))
noncomputable def f_p_law (script : (List Int)) : R Bool := runO (L := Unit) (S := Unit) <|
  bnd (f_l_cell script 0 : R Int) fun first =>
  bnd (R.ok (1 + (first % 3)) : R Int) fun rooms =>
  bnd (R.ok (1 + ((first / 3) % 3)) : R Int) fun signs =>
  bnd (f_l_machine script 1 rooms signs : R (List (Turn × (List (Int × Int)) × Turn))) fun machine_here =>
  bnd (f_l_counted machine_here signs 300 : R Int) fun many =>
  bnd (f_l_asked machine_here) fun (found, refused) =>
  if (decide (300 < many)) = true then
    O.rt (found.isNone && refused)
  else
    bnd (if (!(found.isSome && true)) = true then R.ok true else (((unO found).bind fun u => R.ok ((u.length : Int))).bind fun u => R.ok (!decide (u = many))).bind fun u => if u = true then R.ok true else (((unO found).bind fun u => ofR (L2.atI u 0)).bind fun u => R.ok (u.1)).bind fun u => R.ok (!decide (u = ("".toList)))) fun b_ => if b_ = true then
    O.rt (false)
  else
    bnd (((f_l_listed machine_here found signs).bind fun u => R.ok (!u)).bind fun u => if u = true then R.ok true else (f_l_closed machine_here found signs).bind fun u => R.ok (!u)) fun b_ => if b_ = true then
    O.rt (false)
  else
    bnd ((unO found).bind fun u => R.ok (u) : R (List (St × ((List (Option (Int × Int))) × (List (Option (Int × Int))))))) fun kept =>
  bnd (unO found) fun xs_ => bnd (popNT xs_) fun ys_ => (fun found =>
  bnd ((f_p_all_tables machine_here).bind fun u => R.ok (decide (u = kept))) .rt) (some ys_)
theorem tf_p_law (script : (List Int)) : Rf (h_p_law [(eLs false D.int) script]) (f_p_law script) D.bl := by
  unfold h_p_law runF b_p_law f_p_law
  exact g_fun (g_last (g_seq (g_set (i := 1) (rf_call2_pp (Φ := f_l_cell) tf_l_cell (cl_ls cl_int).fz cl_int.fz (.inl ⟨(cl_ls cl_int), cl_int, True.intro⟩) (rf_v (i := 0) (a := script) (eLs false D.int) rfl) (rf_k (a := 0) D.int rfl)) True.intro fun first => (g_seq (g_set (i := 2) (rf_add_pp (rf_k (a := 1) D.int rfl) (rf_modK_p (j := 3) (by decide) (rf_v (i := 1) (a := first) D.int rfl))) True.intro fun rooms => (g_seq (g_set (i := 3) (rf_add_pp (rf_k (a := 1) D.int rfl) (rf_modK_p (j := 3) (by decide) (rf_fdivK_p (j := 3) (by decide) (rf_v (i := 1) (a := first) D.int rfl)))) True.intro fun signs => (g_seq (g_set (i := 4) (rf_call4_pppp (Φ := f_l_machine) tf_l_machine (cl_ls cl_int).fz cl_int.fz cl_int.fz cl_int.fz (.inl ⟨(cl_ls cl_int), cl_int, cl_int, cl_int, True.intro⟩) (rf_v (i := 0) (a := script) (eLs false D.int) rfl) (rf_k (a := 1) D.int rfl) (rf_v (i := 2) (a := rooms) D.int rfl) (rf_v (i := 3) (a := signs) D.int rfl)) True.intro fun machine_here => (g_seq (g_set (i := 5) (rf_call3_ppp (Φ := f_l_counted) tf_l_counted (cl_sq (cl_t3 cl_tu (cl_sq (cl_t2 cl_int cl_int)) cl_tu)).fz cl_int.fz cl_int.fz (.inl ⟨(cl_sq (cl_t3 cl_tu (cl_sq (cl_t2 cl_int cl_int)) cl_tu)), cl_int, cl_int, True.intro⟩) (rf_v (i := 4) (a := machine_here) (eSq (eT3 eTu (eSq (eT2 D.int D.int)) eTu)) rfl) (rf_v (i := 3) (a := signs) D.int rfl) (rf_k (a := 300) D.int rfl)) True.intro fun many => (g_seq (g_unpT2 (i := 6) (j := 7) cl_bl (rf_call1_p (Φ := f_l_asked) tf_l_asked (cl_sq (cl_t3 cl_tu (cl_sq (cl_t2 cl_int cl_int)) cl_tu)).fz (.inl ⟨(cl_sq (cl_t3 cl_tu (cl_sq (cl_t2 cl_int cl_int)) cl_tu)), True.intro⟩) (rf_v (i := 4) (a := machine_here) (eSq (eT3 eTu (eSq (eT2 D.int D.int)) eTu)) rfl)) True.intro fun found refused => (g_seq (g_ifP (b := decide (300 < many)) (rf_gt_pp (rf_v (i := 5) (a := many) D.int rfl) (rf_k (a := 300) D.int rfl)) (g_retP (a := found.isNone && refused) (rf_o cl_bl (rf_andP_p (rf_isN_p (b := Option.isNone) (isN_op (fun _ => rfl)) (rf_v (i := 6) (a := found) (eOp (eLs true (eT2 eSt (eT2 (eSq (eOp (eT2 D.int D.int))) (eSq (eOp (eT2 D.int D.int))))))) rfl)) (rf_v (i := 7) (a := refused) D.bl rfl)))) (g_skip (g_seq (g_if (rf_or_p (rf_not_p (rf_isi_p (b := fun a => a.isSome && true) (op_isTy (fun _ => rfl) rfl) (rf_v (i := 6) (a := found) (eOp (eLs true (eT2 eSt (eT2 (eSq (eOp (eT2 D.int D.int))) (eSq (eOp (eT2 D.int D.int))))))) rfl))) (rf_or_m (rf_ne_mp py_int py_int pq_int (by decide) (by decide) (rf_bip1_m (g := fun u => (List.length u : Int)) bt_lenL (rf_nar_p unO (rf_v (i := 6) (a := found) (eOp (eLs true (eT2 eSt (eT2 (eSq (eOp (eT2 D.int D.int))) (eSq (eOp (eT2 D.int D.int))))))) rfl) nw_unO)) (rf_v (i := 5) (a := many) D.int rfl)) (rf_ne_mp py_st py_st pq_st (by decide) (by decide) (rf_ix2_0_m (rf_ixL_mp (rf_nar_p unO (rf_v (i := 6) (a := found) (eOp (eLs true (eT2 eSt (eT2 (eSq (eOp (eT2 D.int D.int))) (eSq (eOp (eT2 D.int D.int))))))) rfl) nw_unO) (rf_k (a := 0) D.int rfl))) (rf_k (a := "".toList) eSt (k_str _))))) True.intro (g_retP (a := false) (rf_k (a := false) D.bl rfl)) (g_skip (g_seq (g_if (rf_or_m (rf_not_m (rf_call3_ppp (Φ := f_l_listed) tf_l_listed (cl_sq (cl_t3 cl_tu (cl_sq (cl_t2 cl_int cl_int)) cl_tu)).fz (fz_op (fz_ls (cl_t2 cl_st (cl_t2 (cl_sq (cl_op (cl_t2 cl_int cl_int))) (cl_sq (cl_op (cl_t2 cl_int cl_int))))).fz)) cl_int.fz (.inr nf_bl) (rf_v (i := 4) (a := machine_here) (eSq (eT3 eTu (eSq (eT2 D.int D.int)) eTu)) rfl) (rf_v (i := 6) (a := found) (eOp (eLs true (eT2 eSt (eT2 (eSq (eOp (eT2 D.int D.int))) (eSq (eOp (eT2 D.int D.int))))))) rfl) (rf_v (i := 3) (a := signs) D.int rfl))) (rf_not_m (rf_call3_ppp (Φ := f_l_closed) tf_l_closed (cl_sq (cl_t3 cl_tu (cl_sq (cl_t2 cl_int cl_int)) cl_tu)).fz (fz_op (fz_ls (cl_t2 cl_st (cl_t2 (cl_sq (cl_op (cl_t2 cl_int cl_int))) (cl_sq (cl_op (cl_t2 cl_int cl_int))))).fz)) cl_int.fz (.inr nf_bl) (rf_v (i := 4) (a := machine_here) (eSq (eT3 eTu (eSq (eT2 D.int D.int)) eTu)) rfl) (rf_v (i := 6) (a := found) (eOp (eLs true (eT2 eSt (eT2 (eSq (eOp (eT2 D.int D.int))) (eSq (eOp (eT2 D.int D.int))))))) rfl) (rf_v (i := 3) (a := signs) D.int rfl)))) True.intro (g_retP (a := false) (rf_k (a := false) D.bl rfl)) (g_skip (g_seq (g_set (i := 8) (rf_liL_m (cl_t2 cl_st (cl_t2 (cl_sq (cl_op (cl_t2 cl_int cl_int))) (cl_sq (cl_op (cl_t2 cl_int cl_int))))) (rf_nar_p unO (rf_v (i := 6) (a := found) (eOp (eLs true (eT2 eSt (eT2 (eSq (eOp (eT2 D.int D.int))) (eSq (eOp (eT2 D.int D.int))))))) rfl) nw_unO)) True.intro fun kept => (g_seq (g_popNo (i := 6) (o := found) (M := fun found =>
  bnd ((f_p_all_tables machine_here).bind fun u => R.ok (decide (u = kept))) .rt) (eT2 eSt (eT2 (eSq (eOp (eT2 D.int D.int))) (eSq (eOp (eT2 D.int D.int))))) (cl_t2 cl_st (cl_t2 (cl_sq (cl_op (cl_t2 cl_int cl_int))) (cl_sq (cl_op (cl_t2 cl_int cl_int))))) rfl fun ys_ => (fun found => (g_ret (rf_eq_mp (py_ls (py_t2 py_st (py_t2 (py_sq (py_op (py_t2 py_int py_int))) (py_sq (py_op (py_t2 py_int py_int)))))) (py_ls (py_t2 py_st (py_t2 (py_sq (py_op (py_t2 py_int py_int))) (py_sq (py_op (py_t2 py_int py_int)))))) (pq_ls (pq_t2 pq_st (pq_t2 (pq_sq (pq_op (pq_t2 pq_int pq_int) nn_t2)) (pq_sq (pq_op (pq_t2 pq_int pq_int) nn_t2))))) (by decide) (by decide) (rf_call1_p (Φ := f_p_all_tables) tf_p_all_tables (cl_sq (cl_t3 cl_tu (cl_sq (cl_t2 cl_int cl_int)) cl_tu)).fz (.inl ⟨(cl_sq (cl_t3 cl_tu (cl_sq (cl_t2 cl_int cl_int)) cl_tu)), True.intro⟩) (rf_v (i := 4) (a := machine_here) (eSq (eT3 eTu (eSq (eT2 D.int D.int)) eTu)) rfl)) (rf_v (i := 8) (a := kept) (eLs true (eT2 eSt (eT2 (eSq (eOp (eT2 D.int D.int))) (eSq (eOp (eT2 D.int D.int)))))) rfl)) True.intro)) (some ys_)))))))))))))))))))))))))))
end DI
namespace DI
open PySem
abbrev Row := Turn × List (Int × Int) × Turn
abbrev Mc := List Row
def EndOk (n : Nat) : Turn → Prop
  | .inl r => 0 ≤ r ∧ r < n
  | .inr w => w = "by".toList ∨ w = "out".toList
def CellOk (n : Nat) (c : Int × Int) : Prop := (0 ≤ c.1 ∧ c.1 < n) ∧ (c.2 = 1 ∨ c.2 = -1)
structure RowOk (n k : Nat) (r : Row) : Prop where
  left : EndOk n r.1
  len : r.2.1.length = k
  cells : ∀ c ∈ r.2.1, CellOk n c
  right : EndOk n r.2.2
structure McOk (n k : Nat) (m : Mc) : Prop where
  len : m.length = n
  rows : ∀ r ∈ m, RowOk n k r
def SgOk (k : Nat) (s : St) : Prop := ∀ c ∈ s, c ∈ "abc".toList.take k
theorem cell_ok (ns : List Int) (k : Int) (hk : 0 ≤ k) : ∃ z : Int, f_l_cell ns k = .ok z := by
  unfold f_l_cell
  by_cases h : 0 < ns.length
  · obtain ⟨c, e, _⟩ := at_ex (xs := ns) (i := k % (ns.length : Int)) (Int.emod_nonneg _ (by omega)) (Int.emod_lt_of_pos _ (by omega))
    simp [h, modT_ok _ (show (0 : Int) < ns.length by omega), e]
  · simp [h]
theorem pick2 {α : Type} (x y : α) {i : Int} (h : 0 ≤ i) (h2 : i < 2) : ofR (L2.atI [x, y] i) = .ok (if i = 0 then x else y) := by
  rcases (show i = 0 ∨ i = 1 by omega) with rfl | rfl <;> rfl
theorem end_ok (z : Int) {n : Nat} (hn : 0 < n) : ∃ t, f_l_end z n = .ok t ∧ EndOk n t := by
  unfold f_l_end
  by_cases h : z % 3 = 0
  · simp only [h, decide_true, if_pos, pick2 _ _ (Int.emod_nonneg (z / 3) (show (2 : Int) ≠ 0 by decide)) (Int.emod_lt_of_pos (z / 3) (show (0 : Int) < 2 by decide)), R.bind_ok, bnd_ok, runO_rt]
    refine ⟨_, rfl, ?_⟩
    show (if z / 3 % 2 = 0 then "by".toList else "out".toList) = _ ∨ _
    split
    · exact .inl rfl
    · exact .inr rfl
  · simp only [h, decide_false, modT_ok _ (show (0 : Int) < n by omega), R.bind_ok, bnd_ok, runO_rt]
    exact ⟨_, rfl, Int.emod_nonneg _ (by omega), Int.emod_lt_of_pos _ (by omega)⟩
theorem digit_row_ok (z : Int) {n k : Nat} (hn : 0 < n) (hn2 : n ≤ 1000) (hk : k ≤ 1000) : ∃ r, f_l_digit_row z n k = .ok r ∧ RowOk n k r := by
  unfold f_l_digit_row
  have hn' : (0 : Int) < (n : Int) + 2 := by omega
  simp only [modT_ok _ hn', fdivT_ok _ hn' (show (n : Int) + 2 < 18446744073709551616 by omega), bnd_ok, rngT_nat (show k < 1000000 by omega)]
  obtain ⟨⟨z', cells⟩, e, hl, hc⟩ := forT_inv (L := Unit) (F := fun (k : Int) (p : Int × List (Int × Int)) => match p with
    | (number, cells) =>
    bnd ((modT (number / 2) n).bind fun u => R.ok ((u, (1 - ((number % 2) * 2))))) fun u => bnd (apT cells u) fun cells =>
    bnd (fdivT number (2 * n) : R Int) fun number =>
    (O.nx (number, cells) : O (Int × List (Int × Int)) (Int × List (Int × Int)) Row)) (fun i (p : Int × List (Int × Int)) => p.2.length = i ∧ ∀ c ∈ p.2, CellOk n c) (rg 0 k) 0 (z / ((n : Int) + 2), []) ⟨rfl, fun _ h => nomatch h⟩ (by
      rintro i x ⟨w, cs⟩ hx ⟨hl, hc⟩
      rw [rg_get] at hx
      have hi : i < k := by
        by_cases q : i < k
        · exact q
        · rw [if_neg q] at hx; cases hx
      simp only [modT_ok _ (show (0 : Int) < n by omega), R.bind_ok, bnd_ok, apT_ok (xs := cs) _ (by simp at hl; omega), fdivT_ok _ (show (0 : Int) < 2 * (n : Int) by omega) (by omega)]
      refine ⟨_, .inl rfl, by simp at hl ⊢; omega, fun c hc' => ?_⟩
      rcases List.mem_append.mp hc' with q | q
      · exact hc c q
      · rw [List.mem_singleton.mp q]
        exact ⟨⟨Int.emod_nonneg _ (by omega), Int.emod_lt_of_pos _ (by omega)⟩, by show 1 - w % 2 * 2 = 1 ∨ 1 - w % 2 * 2 = -1; omega⟩)
  rw [rg_len, Nat.zero_add] at hl
  rw [e]
  have en : ∀ x : Int, 0 ≤ x → x < (n : Int) + 2 → ∃ t, (if decide ((n : Int) ≤ x) = true then (ofR (L2.atI ["by".toList, "out".toList] (x - n))).bind fun u => R.ok (Sum.inr u) else R.ok (Sum.inl x) : R Turn) = .ok t ∧ EndOk n t := by
    intro x h0 h1
    by_cases q : (n : Int) ≤ x
    · rw [if_pos (by simpa using q), pick2 _ _ (by omega) (by omega)]
      refine ⟨_, rfl, ?_⟩
      show (if x - n = 0 then "by".toList else "out".toList) = _ ∨ _
      split
      · exact .inl rfl
      · exact .inr rfl
    · rw [if_neg (by simpa using q)]
      exact ⟨_, rfl, h0, by omega⟩
  obtain ⟨t1, e1, o1⟩ := en (z % ((n : Int) + 2)) (Int.emod_nonneg _ (by omega)) (Int.emod_lt_of_pos _ hn')
  obtain ⟨t2, e2, o2⟩ := en (z' % ((n : Int) + 2)) (Int.emod_nonneg _ (by omega)) (Int.emod_lt_of_pos _ hn')
  refine ⟨(t1, cells, t2), ?_, o1, hl, hc, o2⟩
  simp only [thn_nx', R.bind_ok, modT_ok _ hn', szT_ok _ (show [(Sum.inl (z % ((n : Int) + 2)) : Turn), Sum.inl (z' % ((n : Int) + 2))].length ≤ 1000000 by simp), bnd_ok, cmT, mpT, tuI, e1, e2]
  simp [le_line]
end DI
namespace DI
open PySem
theorem cut_2 {α : Type} (x y : α) (l : List α) : cutL (x :: y :: l) (some 2) none = l := by
  unfold cutL
  rw [show (2 : Int) = ((2 : Nat) : Int) from rfl, HT.sIx_nat, HT.sIx_none]
  simp
theorem mixed_row_ok (z : Int) {n k : Nat} (hn : 0 < n) (hn2 : n ≤ 1000) (hk : k ≤ 1000) : ∃ r, f_l_mixed_row z n k = .ok r ∧ RowOk n k r := by
  unfold f_l_mixed_row
  refine wp_run ?_
  rw [bnd_ok]
  rw [show (k : Int) + 2 = ((k + 2 : Nat) : Int) by omega, rngT_nat (by omega), bnd_ok]
  refine wp_for (fun i (p : Int × List Int) => p.2.length = i) rfl ?_ ?_
  · rintro i x ⟨w, ps⟩ hx (hl : ps.length = i)
    have hi := (List.getElem?_eq_some_iff.mp hx).1
    rw [rg_len] at hi
    simp only [bnd_ok, apT_ok (xs := ps) _ (by omega)]
    show (ps ++ [_]).length = i + 1
    simp [hl]
  · rintro ⟨w, ps⟩ (hl : ps.length = _)
    rw [rg_len] at hl
    obtain ⟨a, b, l, rfl⟩ : ∃ a b l, ps = a :: b :: l := by
      match ps, hl with
      | a :: b :: l, _ => exact ⟨a, b, l, rfl⟩
    have hl' : l.length = k := by simpa using hl
    have ec := cmT_ok (F := fun piece => (modT piece n).bind fun u => R.ok ((u, (1 - ((((piece / 64) % 3) / 2) * 2))))) (xs := l) (fun piece => (piece % n, (1 - ((((piece / 64) % 3) / 2) * 2)))) (fun x _ => by simp [modT_ok _ (show (0 : Int) < n by omega)]) (by omega)
    obtain ⟨t1, e1, o1⟩ := end_ok a hn
    obtain ⟨t2, e2, o2⟩ := end_ok b hn
    have a0 : ofR (L2.atI (a :: b :: l) 0) = .ok a := at_nat (i := 0) rfl
    have a1 : ofR (L2.atI (a :: b :: l) 1) = .ok b := at_nat (i := 1) rfl
    simp only [cut_2, ec, R.bind_ok, bnd_ok, a0, a1, e1, e2]
    refine ⟨o1, by simp [hl'], fun c hc => ?_, o2⟩
    obtain ⟨x, _, rfl⟩ := List.mem_map.mp hc
    exact ⟨⟨Int.emod_nonneg _ (by omega), Int.emod_lt_of_pos _ (by omega)⟩, by show 1 - x / 64 % 3 / 2 * 2 = 1 ∨ 1 - x / 64 % 3 / 2 * 2 = -1; omega⟩
theorem machine_ok (ns : List Int) (at_ : Nat) {n k : Nat} (hn : 0 < n) (hn2 : n ≤ 1000) (hk : k ≤ 1000) : ∃ m, f_l_machine ns at_ n k = .ok m ∧ McOk n k m := by
  unfold f_l_machine
  refine wp_run ?_
  rw [bnd_ok, rngT_nat (by omega), bnd_ok]
  refine wp_for (fun i (rows : Mc) => rows.length = i ∧ ∀ r ∈ rows, RowOk n k r) ⟨rfl, fun _ h => nomatch h⟩ ?_ ?_
  · rintro i x rows hx ⟨hl, hr⟩
    rw [rg_get] at hx
    by_cases hi : i < n
    · rw [if_pos hi, Int.zero_add] at hx
      cases hx
      have fin : ∀ r, RowOk n k r → Wp (bnd (apT rows r) fun rows => (O.nx rows : O Mc Mc Mc)) (fun (rows : Mc) => rows.length = i + 1 ∧ ∀ r ∈ rows, RowOk n k r) (fun (rows : Mc) => rows.length = i + 1 ∧ ∀ r ∈ rows, RowOk n k r) (fun (rows : Mc) => rows.length = (rg 0 n).length ∧ ∀ r ∈ rows, RowOk n k r) (fun m => McOk n k m) := by
        intro r ro
        rw [apT_ok _ (by omega), bnd_ok]
        refine ⟨by simp [hl], fun q hq => ?_⟩
        rcases List.mem_append.mp hq with q1 | q1
        · exact hr q q1
        · rw [List.mem_singleton.mp q1]; exact ro
      have mixed : Wp (bnd (((f_l_cell ns ((at_ : Int) + (i : Int))).bind fun u => R.ok (u % 2147483647)).bind fun u => f_l_mixed_row u n k : R Row) fun row =>
      O.thn (bnd (if (decide ((i : Int) = 0)) = true then if row.1.isRight = true then (((f_l_cell ns at_).bind fun u => R.ok (u / 8)).bind fun u => R.ok (u % 8)).bind fun u => R.ok (decide (0 < u)) else R.ok false else R.ok false) fun b_ => if b_ = true then
        bnd ((((((f_l_cell ns at_).bind fun u => R.ok (u / 64)).bind fun u => modT u n).bind fun u => R.ok (u)).bind fun u => R.ok ((u, row.2))).bind fun u => R.ok ((fun p => (Sum.inl p.1,  p.2.1,  p.2.2)) u) : R Row) fun row =>
        O.nx row
      else
        O.nx row : O Row _ _) fun row =>
      bnd (apT rows row) fun rows =>
      (O.nx rows : O Mc Mc Mc)) (fun (rows : Mc) => rows.length = i + 1 ∧ ∀ r ∈ rows, RowOk n k r) (fun (rows : Mc) => rows.length = i + 1 ∧ ∀ r ∈ rows, RowOk n k r) (fun (rows : Mc) => rows.length = (rg 0 n).length ∧ ∀ r ∈ rows, RowOk n k r) (fun m => McOk n k m) := by
        obtain ⟨z, hz⟩ := cell_ok ns ((at_ : Int) + (i : Int)) (by omega)
        obtain ⟨z0, hz0⟩ := cell_ok ns (at_ : Int) (by omega)
        obtain ⟨r, er, ro⟩ := mixed_row_ok (z % 2147483647) hn hn2 hk
        simp only [hz, hz0, R.bind_ok, er, bnd_ok, modT_ok _ (show (0 : Int) < n by omega)]
        refine wp_thn (fun r => RowOk n k r) ?_ fin
        have alt : RowOk n k (Sum.inl (z0 / 64 % (n : Int)), r.2.1, r.2.2) := ⟨⟨Int.emod_nonneg _ (by omega), Int.emod_lt_of_pos _ (by omega)⟩, ro.len, ro.cells, ro.right⟩
        have key : ∀ b : Bool, Wp (if b = true then (O.nx ((Sum.inl (z0 / 64 % (n : Int)), r.2.1, r.2.2) : Row) : O Row Mc Mc) else O.nx r) (fun r => RowOk n k r) (fun (rows : Mc) => rows.length = i + 1 ∧ ∀ r ∈ rows, RowOk n k r) (fun (rows : Mc) => rows.length = (rg 0 n).length ∧ ∀ r ∈ rows, RowOk n k r) (fun m => McOk n k m) := by
          intro b
          cases b
          · exact ro
          · exact alt
        by_cases q1 : (i : Int) = 0
        · by_cases q2 : r.1.isRight = true
          · simp only [q1, q2, decide_true, if_pos, bnd_ok]; exact key _
          · simp only [q1, q2, decide_true, if_pos, bnd_ok]; exact key false
        · simp only [q1, decide_false, bnd_ok]; exact key false
      by_cases q : (at_ : Int) + (i : Int) < ns.length
      · obtain ⟨v, ev, _⟩ := at_ex (xs := ns) (i := (at_ : Int) + (i : Int)) (by omega) q
        obtain ⟨v0, ev0, _⟩ := at_ex (xs := ns) (i := 0) (by omega) (by omega)
        obtain ⟨r, er, ro⟩ := digit_row_ok v hn hn2 hk
        simp only [q, decide_true, if_pos, ev0, R.bind_ok, bnd_ok, ev, er]
        by_cases q2 : v0 % 2 = 1
        · simp only [q2, decide_true, if_pos]; exact fin r ro
        · simp only [q2, decide_false]; exact mixed
      · simp only [q, decide_false, bnd_ok]; exact mixed
    · rw [if_neg hi] at hx; cases hx
  · rintro rows ⟨hl, hr⟩
    rw [rg_len] at hl
    exact ⟨hl, hr⟩
end DI
namespace DI
section
variable {S O : Type} {f : S → S ⊕ O}
def outN (f : S → S ⊕ O) : Nat → S → Option O
  | 0, _ => none
  | n + 1, s => match f s with
    | .inr o => some o
    | .inl t => outN f n t
theorem outN_inl {s t : S} (h : f s = .inl t) (n : Nat) : outN f (n + 1) s = outN f n t := by rw [outN, h]
theorem outN_inr {s : S} {o : O} (h : f s = .inr o) (n : Nat) : outN f (n + 1) s = some o := by rw [outN, h]
theorem outN_up : ∀ (n : Nat) (s : S) (o : O), outN f n s = some o → outN f (n + 1) s = some o
  | 0, _, _, h => by cases h
  | n + 1, s, o, h => by
    cases e : f s with
    | inr q => rw [outN_inr e] at h ⊢; exact h
    | inl t => rw [outN_inl e] at h ⊢; exact outN_up n t o h
theorem outN_le {n m : Nat} {s : S} {o : O} (h : outN f n s = some o) (hm : n ≤ m) : outN f m s = some o := by
  induction hm with
  | refl => exact h
  | step _ ih => exact outN_up _ _ _ ih
def Ends (f : S → S ⊕ O) (s : S) (o : O) : Prop := ∃ n, outN f n s = some o
theorem Ends.uniq {s : S} {o o' : O} (h : Ends f s o) (h' : Ends f s o') : o = o' := by
  obtain ⟨n, e⟩ := h
  obtain ⟨m, e'⟩ := h'
  have a := outN_le e (Nat.le_max_left n m)
  have b := outN_le e' (Nat.le_max_right n m)
  rw [a] at b
  exact Option.some.inj b
open Classical in
noncomputable def sem (f : S → S ⊕ O) (s : S) : Option O := if h : ∃ o, Ends f s o then some (Classical.choose h) else none
theorem sem_of {s : S} {o : O} (h : Ends f s o) : sem f s = some o := by
  have hx : ∃ o, Ends f s o := ⟨o, h⟩
  unfold sem
  rw [dif_pos hx, (Classical.choose_spec hx).uniq h]
theorem sem_ends {s : S} {o : O} (h : sem f s = some o) : Ends f s o := by
  unfold sem at h
  by_cases hx : ∃ o, Ends f s o
  · rw [dif_pos hx] at h
    have := Classical.choose_spec hx
    rw [Option.some.inj h] at this
    exact this
  · rw [dif_neg hx] at h; cases h
theorem sem_never {s : S} (h : ∀ n, outN f n s = none) : sem f s = none := by
  cases e : sem f s with
  | none => rfl
  | some o =>
    obtain ⟨n, hn⟩ := sem_ends e
    rw [h n] at hn; cases hn
theorem never_sem {s : S} (h : sem f s = none) (n : Nat) : outN f n s = none := by
  cases e : outN f n s with
  | none => rfl
  | some o => rw [sem_of ⟨n, e⟩] at h; cases h
theorem sem_inr {s : S} {o : O} (h : f s = .inr o) : sem f s = some o := sem_of ⟨1, outN_inr h 0⟩
theorem sem_inl {s t : S} (h : f s = .inl t) : sem f s = sem f t := by
  cases e : sem f t with
  | some o =>
    obtain ⟨n, hn⟩ := sem_ends e
    exact sem_of ⟨n + 1, by rw [outN_inl h]; exact hn⟩
  | none =>
    refine sem_never fun n => ?_
    cases n with
    | zero => rfl
    | succ n => rw [outN_inl h]; exact never_sem e n
def itN (f : S → S ⊕ O) : Nat → S → S → Prop
  | 0, s, t => s = t
  | k + 1, s, t => ∃ u, f s = .inl u ∧ itN f k u t
theorem itN_snoc : ∀ {k : Nat} {s t u : S}, itN f k s t → f t = .inl u → itN f (k + 1) s u
  | 0, s, t, u, h, e => by cases h; exact ⟨u, e, rfl⟩
  | k + 1, s, t, u, ⟨v, hv, h⟩, e => ⟨v, hv, itN_snoc h e⟩
theorem itN_out : ∀ {k : Nat} {s t : S} (n : Nat), itN f k s t → outN f (n + k) s = outN f n t
  | 0, s, t, n, h => by cases h; rfl
  | k + 1, s, t, n, ⟨u, hu, h⟩ => by
    rw [show n + (k + 1) = n + k + 1 by omega, outN_inl hu]
    exact itN_out n h
theorem itN_none : ∀ {k m : Nat} {s t : S}, itN f k s t → m ≤ k → outN f m s = none
  | _, 0, _, _, _, _ => rfl
  | 0, m + 1, _, _, _, h => by omega
  | k + 1, m + 1, s, t, ⟨u, hu, h⟩, hm => by rw [outN_inl hu]; exact itN_none h (by omega)
theorem itN_sem {k : Nat} {s t : S} (h : itN f k s t) : sem f s = sem f t := by
  induction k generalizing s with
  | zero => cases h; rfl
  | succ k ih =>
    obtain ⟨u, hu, h⟩ := h
    rw [sem_inl hu, ih h]
theorem cycle_never {k : Nat} {s : S} (h : itN f (k + 1) s s) : ∀ n, outN f n s = none := by
  intro n
  induction n using Nat.strongRecOn with
  | ind n ih =>
    by_cases hn : n ≤ k + 1
    · exact itN_none h hn
    · have := itN_out (n - (k + 1)) h
      rw [show n - (k + 1) + (k + 1) = n by omega] at this
      rw [this]
      exact ih _ (by omega)
end
section
variable {S S' Q : Type} {f : S → S ⊕ Option Q} {g : S' → S' ⊕ Option Q} {e : S' → S} {P : S' → Prop}
noncomputable def val {S Q : Type} (f : S → S ⊕ Option Q) (s : S) : Option Q := (sem f s).join
theorem val_inl {s t : S} (h : f s = .inl t) : val f s = val f t := by unfold val; rw [sem_inl h]
theorem val_inr {s : S} {o : Option Q} (h : f s = .inr o) : val f s = o := by unfold val; rw [sem_inr h]; rfl
theorem val_it {k : Nat} {s t : S} (h : itN f k s t) : val f s = val f t := by unfold val; rw [itN_sem h]
theorem val_great (hP : ∀ s t, P s → g s = .inl t → P t) (h1 : ∀ s o, P s → g s = .inr o → val f (e s) = o) (h2 : ∀ s t, P s → g s = .inl t → ∃ k, itN f (k + 1) (e s) (e t)) {s : S'} (hs : P s) : val g s = val f (e s) := by
  cases hg : sem g s with
  | some o =>
    obtain ⟨n, hn⟩ := sem_ends hg
    have : val f (e s) = o := by
      clear hg
      induction n generalizing s with
      | zero => cases hn
      | succ n ih =>
        cases hx : g s with
        | inr q => rw [outN_inr hx] at hn; cases hn; exact h1 s _ hs hx
        | inl t =>
          rw [outN_inl hx] at hn
          obtain ⟨k, hk⟩ := h2 s t hs hx
          rw [val_it hk]
          exact ih (hP s t hs hx) hn
    rw [this]
    unfold val
    rw [hg]
    rfl
  | none =>
    have never : ∀ n (s : S'), P s → sem g s = none → outN f n (e s) = none := by
      intro n
      induction n using Nat.strongRecOn with
      | ind n ih =>
        intro s hs hg
        cases hx : g s with
        | inr q => rw [sem_inr hx] at hg; cases hg
        | inl t =>
          obtain ⟨k, hk⟩ := h2 s t hs hx
          by_cases hn : n ≤ k + 1
          · exact itN_none hk hn
          · have := itN_out (n - (k + 1)) hk
            rw [show n - (k + 1) + (k + 1) = n by omega] at this
            rw [this]
            exact ih _ (by omega) t (hP s t hs hx) (by rw [← sem_inl hx]; exact hg)
    have : sem f (e s) = none := sem_never fun n => never n s hs hg
    unfold val
    rw [hg, this]
end
end DI
namespace DI
open PySem
section
variable {S O Q : Type} {f g : S → S ⊕ O}
theorem pig_sub {α : Type} [DecidableEq α] : ∀ (L l : List α), l.Nodup → (∀ a ∈ l, a ∈ L) → l.length ≤ L.length
  | [], [], _, _ => Nat.le_refl _
  | [], x :: l, _, h => by cases h x List.mem_cons_self
  | y :: L, l, nd, h => by
    have h1 := pig_sub L (l.erase y) (nd.erase _) fun a ha => by
      obtain ⟨h2, h3⟩ := nd.mem_erase_iff.mp ha
      rcases List.mem_cons.mp (h a h3) with q | q
      · exact absurd q h2
      · exact q
    rw [List.length_cons]
    by_cases hm : y ∈ l
    · rw [List.length_erase_of_mem hm] at h1; omega
    · rw [List.erase_of_not_mem hm] at h1; omega
def pairsL (a : Int) (n : Nat) (b : Int) (m : Nat) : List (Int × Int) := (rg a n).flatMap fun i => (rg b m).map fun j => (i, j)
theorem mem_pairsL {a b : Int} {n m : Nat} {p : Int × Int} : p ∈ pairsL a n b m ↔ (a ≤ p.1 ∧ p.1 < a + n) ∧ b ≤ p.2 ∧ p.2 < b + m := by
  unfold pairsL
  rw [List.mem_flatMap]
  constructor
  · rintro ⟨i, hi, hp⟩
    obtain ⟨j, hj, rfl⟩ := List.mem_map.mp hp
    exact ⟨mem_rg'.mp hi, mem_rg'.mp hj⟩
  · rintro ⟨h1, h2⟩
    exact ⟨p.1, mem_rg'.mpr h1, List.mem_map.mpr ⟨p.2, mem_rg'.mpr h2, rfl⟩⟩
theorem flat_len {α β : Type} (F : α → List β) (m : Nat) : ∀ l : List α, (∀ a ∈ l, (F a).length = m) → (l.flatMap F).length = l.length * m
  | [], _ => by simp
  | x :: l, h => by
    rw [List.flatMap_cons, List.length_append, h x List.mem_cons_self, flat_len F m l fun a ha => h a (List.mem_cons_of_mem _ ha), List.length_cons, Nat.succ_mul]
    omega
theorem pairsL_len (a b : Int) (n m : Nat) : (pairsL a n b m).length = n * m := by
  unfold pairsL
  rw [flat_len _ m _ (fun i _ => by rw [List.length_map, rg_len]), rg_len]
structure MetI [DecidableEq S] (f : S → S ⊕ O) (L : List S) (s0 s : S) (met : List (S × Bool)) : Prop where
  nd : (met.map (·.1)).Nodup
  mp : ∀ t ∈ met.map (·.1), t ∈ L
  it : ∀ t ∈ met.map (·.1), ∃ k, itN f (k + 1) t s
  v : sem f s = sem f s0
theorem MetI.start [DecidableEq S] {L : List S} (s : S) : MetI f L s s [] := ⟨List.nodup_nil, (fun _ h => nomatch h), (fun _ h => nomatch h), rfl⟩
theorem MetI.len [DecidableEq S] {L : List S} {s0 s : S} {met : List (S × Bool)} (h : MetI f L s0 s met) : met.length ≤ L.length := by
  have := pig_sub L (met.map (·.1)) h.nd h.mp
  rwa [List.length_map] at this
theorem MetI.rep [DecidableEq S] {L : List S} {s0 s : S} {met : List (S × Bool)} (h : MetI f L s0 s met) (q : hasT met s = true) : sem f s0 = none := by
  obtain ⟨k, hk⟩ := h.it s (hasT_iff.mp q)
  rw [← h.v]
  exact sem_never (cycle_never hk)
theorem MetI.mem [DecidableEq S] {L : List S} {s0 s : S} {met : List (S × Bool)} (h : MetI f L s0 s met) (q : hasT met s = false) (hs : s ∈ L) : ((putT met s true).map (·.1)).Nodup ∧ (∀ t ∈ (putT met s true).map (·.1), t ∈ L) ∧ (putT met s true).length = met.length + 1 ∧ (putT met s true).map (·.1) = met.map (·.1) ++ [s] := by
  have hn : s ∉ met.map (·.1) := fun z => by rw [hasT_iff.mpr z] at q; cases q
  rw [putT_new hn, List.map_append]
  refine ⟨List.nodup_append.mpr ⟨h.nd, by simp, fun a ha b hb' e => hn (by rw [show b = s by simpa using hb'] at e; rw [← e]; exact ha)⟩, fun t ht => ?_, by simp, by simp⟩
  rcases List.mem_append.mp ht with z | z
  · exact h.mp t z
  · rw [show t = s by simpa using z]; exact hs
theorem MetI.next [DecidableEq S] {L : List S} {s0 s t : S} {met : List (S × Bool)} (h : MetI f L s0 s met) (q : hasT met s = false) (hs : s ∈ L) (e : f s = .inl t) : MetI f L s0 t (putT met s true) := by
  obtain ⟨nd, mp, _, ek⟩ := h.mem q hs
  refine ⟨nd, mp, fun u hu => ?_, by rw [← sem_inl e]; exact h.v⟩
  rw [ek] at hu
  rcases List.mem_append.mp hu with z | z
  · obtain ⟨k, hk⟩ := h.it u z
    exact ⟨k + 1, itN_snoc hk e⟩
  · rw [show u = s by simpa using z]
    exact ⟨0, t, e, rfl⟩
theorem MetI.out [DecidableEq S] {L : List S} {s0 s : S} {o : O} {met : List (S × Bool)} (h : MetI f L s0 s met) (e : f s = .inr o) : sem f s0 = some o := by rw [← h.v, sem_inr e]
end
section
variable {S O O' : Type} {f : S → S ⊕ O} {g : S → S ⊕ O'} {P : S → Prop}
theorem follow_some (h1 : ∀ s t, P s → g s = .inl t → f s = .inl t ∧ P t) : ∀ (n : Nat) (s : S) (o : O'), P s → outN g n s = some o → ∃ k t, itN f k s t ∧ P t ∧ g t = .inr o
  | 0, _, _, _, h => by cases h
  | n + 1, s, o, hs, h => by
    cases e : g s with
    | inr q => rw [outN_inr e] at h; cases h; exact ⟨0, s, rfl, hs, e⟩
    | inl t =>
      rw [outN_inl e] at h
      obtain ⟨hf, ht⟩ := h1 s t hs e
      obtain ⟨k, u, i, hu, eu⟩ := follow_some h1 n t o ht h
      exact ⟨k + 1, u, ⟨t, hf, i⟩, hu, eu⟩
theorem follow_none (h1 : ∀ s t, P s → g s = .inl t → f s = .inl t ∧ P t) {s : S} (hs : P s) (h : sem g s = none) : sem f s = none := by
  have go : ∀ (n : Nat) (s : S), P s → sem g s = none → outN f n s = none := by
    intro n
    induction n with
    | zero => exact fun _ _ _ => rfl
    | succ n ih =>
      intro s hs h
      cases e : g s with
      | inr q => rw [sem_inr e] at h; cases h
      | inl t =>
        obtain ⟨hf, ht⟩ := h1 s t hs e
        rw [outN_inl hf]
        exact ih t ht (by rw [← sem_inl e]; exact h)
  exact sem_never fun n => go n s hs h
end
end DI
namespace DI
open PySem
def sgI (c : Char) : Nat := if c = 'a' then 0 else if c = 'b' then 1 else 2
theorem abc_cases {k : Nat} {c : Char} (h : c ∈ "abc".toList.take k) : c = 'a' ∨ c = 'b' ∨ c = 'c' := by
  have := List.mem_of_mem_take h
  simpa using this
theorem sgI_lt {k : Nat} {c : Char} (h : c ∈ "abc".toList.take k) : sgI c < k := by
  match k, h with
  | 0, h => cases h
  | 1, h =>
    have : c = 'a' := by simpa using h
    subst this; decide
  | 2, h =>
    have : c = 'a' ∨ c = 'b' := by simpa using h
    rcases this with rfl | rfl <;> decide
  | k + 3, h =>
    rcases abc_cases h with rfl | rfl | rfl <;> simp [sgI]
theorem idx_abc {k : Nat} {c : Char} (h : c ∈ "abc".toList.take k) : idxT "abc".toList [c] = .ok (sgI c : Int) := by
  rcases abc_cases h with rfl | rfl | rfl
  · show (match Builtin.Str.occurrences (sD "abc".toList) (sD ['a']) 0 (sD "abc".toList).length 1 with | [] => R.bad | k :: _ => R.ok ((k : Nat) : Int)) = _
    rw [show Builtin.Str.occurrences (sD "abc".toList) (sD ['a']) 0 (sD "abc".toList).length 1 = [0] by decide +kernel]; rfl
  · show (match Builtin.Str.occurrences (sD "abc".toList) (sD ['b']) 0 (sD "abc".toList).length 1 with | [] => R.bad | k :: _ => R.ok ((k : Nat) : Int)) = _
    rw [show Builtin.Str.occurrences (sD "abc".toList) (sD ['b']) 0 (sD "abc".toList).length 1 = [1] by decide +kernel]; rfl
  · show (match Builtin.Str.occurrences (sD "abc".toList) (sD ['c']) 0 (sD "abc".toList).length 1 with | [] => R.bad | k :: _ => R.ok ((k : Nat) : Int)) = _
    rw [show Builtin.Str.occurrences (sD "abc".toList) (sD ['c']) 0 (sD "abc".toList).length 1 = [2] by decide +kernel]; rfl
def rowAt (m : Mc) (r : Int) : Row := m.getD r.toNat (.inr [], [], .inr [])
def cellAt (row : Row) (c : Char) : Int × Int := row.2.1.getD (sgI c) (0, 0)
def signAt (s : St) (p : Int) : Char := s.getD (p - 1).toNat 'a'
structure StOk (n len : Nat) (p : Int × Int) : Prop where
  p0 : 0 ≤ p.1
  p1 : p.1 ≤ (len : Int) + 1
  r0 : 0 ≤ p.2
  r1 : p.2 < n
section
variable {n k : Nat} {m : Mc} {s : St}
theorem row_get (hm : McOk n k m) {r : Int} (h0 : 0 ≤ r) (h1 : r < n) : ofR (L2.atI m r) = .ok (rowAt m r) ∧ RowOk n k (rowAt m r) := by
  have hl : r.toNat < m.length := by rw [hm.len]; omega
  have e : m[r.toNat]? = some (rowAt m r) := by
    unfold rowAt
    rw [List.getD_eq_getElem?_getD, List.getElem?_eq_getElem hl]
    rfl
  refine ⟨at_get h0 e, hm.rows _ (List.mem_of_getElem? e)⟩
theorem cell_get {row : Row} (hr : RowOk n k row) {c : Char} (hc : c ∈ "abc".toList.take k) : ofR (L2.atI row.2.1 (sgI c : Int)) = .ok (cellAt row c) ∧ CellOk n (cellAt row c) := by
  have hl : sgI c < row.2.1.length := by rw [hr.len]; exact sgI_lt hc
  have e : row.2.1[sgI c]? = some (cellAt row c) := by
    unfold cellAt
    rw [List.getD_eq_getElem?_getD, List.getElem?_eq_getElem hl]
    rfl
  exact ⟨at_nat e, hr.cells _ (List.mem_of_getElem? e)⟩
theorem sign_get (hs : SgOk k s) (hl : s.length ≤ 1000000) {p : Int} (h0 : 1 ≤ p) (h1 : p ≤ s.length) : sixT s (p - 1) = .ok (signAt s p) ∧ signAt s p ∈ "abc".toList.take k := by
  have hb : (p - 1).toNat < s.length := by omega
  have e : s[(p - 1).toNat] = signAt s p := by
    unfold signAt
    rw [List.getD_eq_getElem?_getD, List.getElem?_eq_getElem hb]
    rfl
  rw [sixT_ok (by omega) (by omega) hl, e]
  exact ⟨rfl, hs _ (by rw [← e]; exact List.getElem_mem _)⟩
end
end DI
namespace DI
open PySem
theorem take_cut {α : Type} (xs : List α) (k : Nat) : cutL xs none (some (k : Int)) = xs.take k := by
  unfold cutL
  rw [HT.sIx_none, HT.sIx_nat]
  simp
theorem mem_enT {α : Type} {p : Int × α} : ∀ {k : Nat} {xs : List α}, p ∈ enT k xs → p.2 ∈ xs
  | _, [], h => by cases h
  | k, x :: xs, h => by
    rw [enT] at h
    rcases List.mem_cons.mp h with rfl | h
    · exact List.mem_cons_self
    · exact List.mem_cons_of_mem _ (mem_enT h)
theorem checked_by_ok {k : Nat} {s : St} (hs : SgOk k s) : f_p_checked_by k s = .ok s := by
  unfold f_p_checked_by
  rw [forT_same _ _ fun x hx => ?_]
  · rfl
  · obtain ⟨i, c⟩ := x
    have h : decide (c ∈ "abc".toList.take k) = true := decide_eq_true (hs c (mem_enT hx))
    rw [take_cut, szT_ok _ (by decide)]
    simp only [R.bind_ok, h, bnd_ok]
    exact .inl rfl
theorem signs_of_ok {n k : Nat} {m : Mc} (hm : McOk n k m) (hn : 0 < n) : f_p_signs_of m = .ok (k : Int) := by
  unfold f_p_signs_of
  obtain ⟨e, ro⟩ := row_get hm (r := 0) (by omega) (by omega)
  simp [e, ro.len]
theorem checked_ok {n k : Nat} {m : Mc} {s : St} (hm : McOk n k m) (hn : 0 < n) (hs : SgOk k s) : f_p_checked m s = .ok s := by
  unfold f_p_checked
  simp [signs_of_ok hm hn, checked_by_ok hs]
end DI
namespace DI
open PySem
abbrev Th := Option (Int × Int)
abbrev Tab := List Th × List Th
def winF (m : Mc) (s : St) (p : Int × Int) : (Int × Int) ⊕ Th :=
  if 0 < p.1 ∧ p.1 ≤ (s.length : Int) then .inl (p.1 + (cellAt (rowAt m p.2) (signAt s p.1)).2, (cellAt (rowAt m p.2) (signAt s p.1)).1)
  else .inr (some (if 0 < p.1 then 1 else -1, p.2))
noncomputable def winV (m : Mc) (s : St) (p : Int × Int) : Th := val (winF m s) p
noncomputable def tabV (m : Mc) (s : St) : Tab := ((rg 0 m.length).map fun r => winV m s (1, r), (rg 0 m.length).map fun r => winV m s ((s.length : Int), r))
theorem val_of {S Q : Type} {f : S → S ⊕ Option Q} {s : S} {o : Option (Option Q)} (h : sem f s = o) : val f s = o.join := by unfold val; rw [h]
section
variable {n k : Nat} {m : Mc} {s : St} {c : Char}
theorem win_cell (hm : McOk n k m) (hs : SgOk k s) (hl : s.length ≤ 1000) {p : Int × Int} (hp : StOk n s.length p) (h : 0 < p.1 ∧ p.1 ≤ (s.length : Int)) : ofR (L2.atI m p.2) = .ok (rowAt m p.2) ∧ sixT s (p.1 - 1) = .ok (signAt s p.1) ∧ signAt s p.1 ∈ "abc".toList.take k ∧
    ofR (L2.atI (rowAt m p.2).2.1 (sgI (signAt s p.1) : Int)) = .ok (cellAt (rowAt m p.2) (signAt s p.1)) ∧ StOk n s.length (p.1 + (cellAt (rowAt m p.2) (signAt s p.1)).2, (cellAt (rowAt m p.2) (signAt s p.1)).1) := by
  obtain ⟨er, ro⟩ := row_get hm hp.r0 hp.r1
  obtain ⟨es, ms⟩ := sign_get hs (by omega : s.length ≤ 1000000) (p := p.1) (by omega) h.2
  obtain ⟨ec, co⟩ := cell_get ro ms
  have := co.2
  exact ⟨er, es, ms, ec, by show 0 ≤ p.1 + _; omega, by show p.1 + _ ≤ _; omega, co.1.1, co.1.2⟩
theorem win_keep (hm : McOk n k m) (hs : SgOk k s) (hl : s.length ≤ 1000) : ∀ p q, StOk n s.length p → winF m s p = .inl q → StOk n s.length q := by
  intro p q hp e
  unfold winF at e
  by_cases h : 0 < p.1 ∧ p.1 ≤ (s.length : Int)
  · rw [if_pos h] at e
    cases e
    exact (win_cell hm hs hl hp h).2.2.2.2
  · rw [if_neg h] at e; cases e
theorem StOk.mem {len : Nat} {p : Int × Int} (h : StOk n len p) : p ∈ pairsL 0 (len + 2) 0 n := mem_pairsL.mpr ⟨⟨h.p0, by have := h.p1; omega⟩, h.r0, by have := h.r1; omega⟩
theorem l_within_ok (hm : McOk n k m) (hs : SgOk k s) (hl : s.length ≤ 1000) (hn : n ≤ 900) {p : Int × Int} (hp : StOk n s.length p) : f_l_within m s p.1 p.2 = .ok (winV m s p) := by
  unfold f_l_within
  refine wp_eq ?_
  rw [bnd_ok]
  have hN : (pairsL 0 (s.length + 2) 0 n).length < 1000000 := by
    rw [pairsL_len]
    have : (s.length + 2) * n ≤ 1002 * 900 := Nat.mul_le_mul (by omega) hn
    omega
  refine wp_whl (fun (x : Int × Int × List ((Int × Int) × Bool)) => StOk n s.length (x.1, x.2.1) ∧ MetI (winF m s) (pairsL 0 (s.length + 2) 0 n) p (x.1, x.2.1) x.2.2) (fun x => (pairsL 0 (s.length + 2) 0 n).length + 1 - x.2.2.length)
    (fun x => winV m s p = some (if 0 < x.1 then 1 else -1, x.2.1)) ⟨hp, .start p⟩ ?_ ?_
  · rintro ⟨place, room, met⟩ ⟨so, mi⟩
    simp only at so mi
    simp only [lenT_ok (show s.length ≤ 1000000 by omega), R.bind_ok]
    by_cases hlt : 0 < place ∧ place ≤ (s.length : Int)
    · refine .inr ⟨by rw [decide_eq_true hlt.1, decide_eq_true hlt.2]; rfl, ?_⟩
      by_cases hh : hasT met (place, room) = true
      · rw [if_pos hh]
        show _ = winV m s p
        unfold winV
        rw [val_of (mi.rep hh)]; rfl
      · rw [if_neg hh]
        have hf : hasT met (place, room) = false := by simpa using hh
        have ml := mi.len
        obtain ⟨_, _, lk, _⟩ := mi.mem hf so.mem
        obtain ⟨er, es, ms, ec, so2⟩ := win_cell hm hs hl so hlt
        have fe : winF m s (place, room) = .inl (place + (cellAt (rowAt m room) (signAt s place)).2, (cellAt (rowAt m room) (signAt s place)).1) := if_pos hlt
        simp only at er es ec
        simp only [bnd_ok, puT_ok (kvs := met) _ _ (by omega), er, es, R.bind_ok, idx_abc ms, ec]
        exact show _ ∧ _ from ⟨⟨so2, mi.next hf so.mem fe⟩, by show _ - (putT met (place, room) true).length < _; omega⟩
    · have fe : winF m s (place, room) = .inr (some (if 0 < place then 1 else -1, room)) := if_neg hlt
      refine .inl ⟨?_, ?_⟩
      · by_cases h0 : 0 < place
        · rw [decide_eq_true h0, decide_eq_false (by omega)]; rfl
        · rw [decide_eq_false h0]; rfl
      · show winV m s p = _
        unfold winV
        rw [val_of (mi.out fe)]; rfl
  · rintro ⟨place, room, met⟩ e
    simp only at e
    rw [e]
    by_cases h0 : 0 < place
    · simp only [decide_eq_true h0, h0, if_pos]; exact rfl
    · simp only [decide_eq_false h0, h0]; exact rfl
theorem stOk1 {len : Nat} {r : Int} (h : 0 ≤ r ∧ r < n) : StOk n len (1, r) := ⟨by show (0 : Int) ≤ 1; omega, by show (1 : Int) ≤ _; omega, h.1, h.2⟩
theorem stOkL {len : Nat} {r : Int} (h : 0 ≤ r ∧ r < n) : StOk n len ((len : Int), r) := ⟨by show (0 : Int) ≤ (len : Int); omega, by show (len : Int) ≤ _; omega, h.1, h.2⟩
theorem l_table_ok (hm : McOk n k m) (hs : SgOk k s) (hl : s.length ≤ 1000) (hn : n ≤ 900) : f_l_table m s = .ok (tabV m s) := by
  have hlen := hm.len
  unfold f_l_table
  have e0 : lrT ((m.length : Nat) : Int) = .ok (rg 0 m.length) := by
    unfold lrT
    rw [if_pos ⟨small62_of (by omega) (by omega), le_line (by omega)⟩, Int.toNat_natCast]
  have c1 : cmT (rg 0 m.length) (fun room => f_l_within m s 1 room) = .ok ((rg 0 m.length).map fun r => winV m s (1, r)) := cmT_ok _ (fun r hr => by
    have := mem_rg.mp hr
    exact l_within_ok hm hs hl hn (p := (1, r)) (stOk1 ⟨this.1, by omega⟩)) (by rw [rg_len]; omega)
  have c2 : cmT (rg 0 m.length) (fun room => (lenT s).bind fun w => f_l_within m s w room) = .ok ((rg 0 m.length).map fun r => winV m s ((s.length : Int), r)) := cmT_ok _ (fun r hr => by
    have := mem_rg.mp hr
    rw [lenT_ok (by omega), R.bind_ok]
    exact l_within_ok hm hs hl hn (p := ((s.length : Int), r)) (stOkL ⟨this.1, by omega⟩)) (by rw [rg_len]; omega)
  rw [e0, bnd_ok, c1, bnd_ok, c2]
  rfl
theorem signAt_snoc {p : Int} (h0 : 1 ≤ p) (h : p ≤ (s.length : Int)) : signAt (s ++ [c]) p = signAt s p := by
  unfold signAt
  rw [List.getD_eq_getElem?_getD, List.getD_eq_getElem?_getD, List.getElem?_append_left (by omega)]
theorem signAt_last : signAt (s ++ [c]) ((s.length : Int) + 1) = c := by
  unfold signAt
  rw [show ((s.length : Int) + 1 - 1).toNat = s.length by omega, List.getD_eq_getElem?_getD]
  simp
theorem snoc_len : ((s ++ [c]).length : Int) = (s.length : Int) + 1 := by simp
theorem sgOk_snoc (hs : SgOk k s) (hc : c ∈ "abc".toList.take k) : SgOk k (s ++ [c]) := fun d hd => by
  rcases List.mem_append.mp hd with q | q
  · exact hs d q
  · rw [List.mem_singleton.mp q]; exact hc
theorem win_snoc (hm : McOk n k m) (hs : SgOk k s) (hl : s.length ≤ 1000) : ∀ p q, StOk n s.length p → winF m s p = .inl q → winF m (s ++ [c]) p = .inl q ∧ StOk n s.length q := by
  intro p q hp e
  refine ⟨?_, win_keep hm hs hl p q hp e⟩
  unfold winF at e ⊢
  by_cases h : 0 < p.1 ∧ p.1 ≤ (s.length : Int)
  · rw [if_pos h] at e
    rw [if_pos (by rw [snoc_len]; omega), signAt_snoc (by omega) h.2]
    exact e
  · rw [if_neg h] at e; cases e
theorem win_on (hm : McOk n k m) (hs : SgOk k s) (hl : s.length ≤ 1000) {p : Int × Int} (hp : StOk n s.length p) :
    (winV m s p = none → winV m (s ++ [c]) p = none) ∧ ∀ w r, winV m s p = some (w, r) → (0 ≤ r ∧ r < n) ∧ ((w = 1 ∧ ∃ j, itN (winF m (s ++ [c])) j p ((s.length : Int) + 1, r)) ∨ (w = -1 ∧ winV m (s ++ [c]) p = some (-1, r))) := by
  unfold winV
  cases h : sem (winF m s) p with
  | none =>
    refine ⟨fun _ => val_of (follow_none (win_snoc hm hs hl) hp h), fun w r e => ?_⟩
    rw [val_of h] at e; cases e
  | some o =>
    obtain ⟨j, hj⟩ := sem_ends h
    obtain ⟨j, t, i, ht, e⟩ := follow_some (win_snoc (c := c) hm hs hl) j p o hp hj
    have e' := e
    unfold winF at e
    by_cases hin : 0 < t.1 ∧ t.1 ≤ (s.length : Int)
    · rw [if_pos hin] at e; cases e
    · rw [if_neg hin] at e
      cases e
      refine ⟨fun e => ?_, fun w r e => ?_⟩
      · rw [val_of h] at e; cases e
      · rw [val_of h] at e
        cases e
        refine ⟨⟨ht.r0, ht.r1⟩, ?_⟩
        have := ht.p1
        have := ht.p0
        by_cases h0 : 0 < t.1
        · rw [if_pos h0]
          exact .inl ⟨rfl, j, by rw [show ((s.length : Int) + 1, t.2) = t from Prod.ext (by show (s.length : Int) + 1 = t.1; omega) rfl]; exact i⟩
        · rw [if_neg h0]
          refine .inr ⟨rfl, ?_⟩
          rw [val_it i]
          refine val_inr ?_
          unfold winF
          rw [if_neg (by omega), if_neg h0]
def folS (b : Bool) : Th → (Bool × Int) ⊕ Th
  | none => .inr none
  | some (w, r) => if (!b) = decide (w = 1) then .inr (some (w, r)) else .inl (!b, r)
def folF (one other : Tab) (q : Bool × Int) : (Bool × Int) ⊕ Th := folS q.1 (if q.1 = true then one.2.getD q.2.toNat none else other.1.getD q.2.toNat none)
def sgV (m : Mc) (c : Char) : List Th := m.map fun row => some ((cellAt row c).2, (cellAt row c).1)
theorem sgV_get (hm : McOk n k m) {r : Int} (h0 : 0 ≤ r) (h1 : r < n) : (sgV m c).getD r.toNat none = some ((cellAt (rowAt m r) c).2, (cellAt (rowAt m r) c).1) := by
  have hl : r.toNat < m.length := by rw [hm.len]; omega
  unfold sgV rowAt
  rw [List.getD_eq_getElem?_getD, List.getElem?_map, List.getD_eq_getElem?_getD, List.getElem?_eq_getElem hl]
  rfl
theorem tab2_get (hm : McOk n k m) {r : Int} (h0 : 0 ≤ r) (h1 : r < n) : (tabV m s).2.getD r.toNat none = winV m s ((s.length : Int), r) := by
  have hl := hm.len
  show ((rg 0 m.length).map fun r => winV m s ((s.length : Int), r)).getD r.toNat none = _
  rw [List.getD_eq_getElem?_getD, List.getElem?_map, rg_get, if_pos (by omega)]
  show winV m s ((s.length : Int), 0 + (r.toNat : Int)) = _
  rw [show 0 + (r.toNat : Int) = r by omega]
def fE (s : St) (q : Bool × Int) : Int × Int := if q.1 = true then ((s.length : Int), q.2) else ((s.length : Int) + 1, q.2)
def RB (n : Nat) (q : Bool × Int) : Prop := 0 ≤ q.2 ∧ q.2 < n
theorem last_step (hm : McOk n k m) (hc : c ∈ "abc".toList.take k) {r : Int} (h0 : 0 ≤ r) (h1 : r < n) : CellOk n (cellAt (rowAt m r) c) ∧ winF m (s ++ [c]) ((s.length : Int) + 1, r) = .inl ((s.length : Int) + 1 + (cellAt (rowAt m r) c).2, (cellAt (rowAt m r) c).1) := by
  obtain ⟨_, ro⟩ := row_get hm h0 h1
  refine ⟨(cell_get ro hc).2, ?_⟩
  unfold winF
  rw [if_pos (by rw [snoc_len]; show 0 < (s.length : Int) + 1 ∧ (s.length : Int) + 1 ≤ _; omega)]
  simp only [signAt_last]
theorem out_right {r : Int} : winV m (s ++ [c]) ((s.length : Int) + 2, r) = some (1, r) := by
  unfold winV
  refine val_inr ?_
  unfold winF
  rw [if_neg (by rw [snoc_len]; show ¬ (0 < (s.length : Int) + 2 ∧ (s.length : Int) + 2 ≤ _); omega), if_pos (by show 0 < (s.length : Int) + 2; omega)]
theorem fol_val (hm : McOk n k m) (hs : SgOk k s) (hl : s.length ≤ 1000) (hc : c ∈ "abc".toList.take k) {q : Bool × Int} (hq : RB n q) : val (folF (tabV m s) (sgV m c, sgV m c)) q = winV m (s ++ [c]) (fE s q) := by
  have key : ∀ q : Bool × Int, RB n q → (∀ o, folF (tabV m s) (sgV m c, sgV m c) q = .inr o → winV m (s ++ [c]) (fE s q) = o) ∧ ∀ t, folF (tabV m s) (sgV m c, sgV m c) q = .inl t → RB n t ∧ ∃ j, itN (winF m (s ++ [c])) (j + 1) (fE s q) (fE s t) := by
    rintro ⟨b, r⟩ ⟨h0, h1⟩
    cases b with
    | false =>
      obtain ⟨co, es⟩ := last_step (s := s) hm hc h0 h1
      unfold folF folS
      simp only [Bool.false_eq_true, if_false, sgV_get hm h0 h1]
      by_cases hw : (cellAt (rowAt m r) c).2 = 1
      · rw [if_pos (by rw [hw]; rfl)]
        refine ⟨fun o e => ?_, fun t e => (by cases e)⟩
        cases e
        show val _ ((s.length : Int) + 1, r) = _
        rw [val_inl es, hw, show (s.length : Int) + 1 + 1 = (s.length : Int) + 2 by omega]
        exact out_right
      · have hw' : (cellAt (rowAt m r) c).2 = -1 := co.2.resolve_left hw
        rw [if_neg (by simp [hw])]
        refine ⟨fun o e => (by cases e), fun t e => ?_⟩
        cases e
        refine ⟨⟨co.1.1, co.1.2⟩, 0, _, es, ?_⟩
        show _ = ((s.length : Int), (cellAt (rowAt m r) c).1)
        rw [hw', show (s.length : Int) + 1 + -1 = (s.length : Int) by omega]
    | true =>
      obtain ⟨o1, o2⟩ := win_on (c := c) hm hs hl (stOkL (len := s.length) ⟨h0, h1⟩)
      unfold folF folS
      simp only [if_true, tab2_get hm h0 h1]
      cases hv : winV m s ((s.length : Int), r) with
      | none =>
        refine ⟨fun o e => ?_, fun t e => (by cases e)⟩
        cases e
        exact o1 hv
      | some x =>
        obtain ⟨w, r'⟩ := x
        obtain ⟨hr, ⟨rfl, j, hj⟩ | ⟨rfl, hj⟩⟩ := o2 w r' hv
        · simp only
          rw [if_neg (by decide)]
          refine ⟨fun o e => (by cases e), fun t e => ?_⟩
          cases e
          refine ⟨hr, ?_⟩
          cases j with
          | zero =>
            have : ((s.length : Int), r) = ((s.length : Int) + 1, r') := hj
            have := (Prod.mk.inj this).1
            omega
          | succ j => exact ⟨j, hj⟩
        · simp only
          rw [if_pos (by decide)]
          refine ⟨fun o e => ?_, fun t e => (by cases e)⟩
          cases e
          exact hj
  exact val_great (P := RB n) (fun a t ha e => ((key a ha).2 t e).1) (fun a o ha e => (key a ha).1 o e) (fun a t ha e => ((key a ha).2 t e).2) hq
end
end DI
namespace DI
open PySem
section
variable {n k : Nat} {m : Mc} {s : St} {c : Char}
def rbL (n : Nat) : List (Bool × Int) := (rg 0 n).flatMap fun r => [(true, r), (false, r)]
theorem mem_rbL {q : Bool × Int} (h : RB n q) : q ∈ rbL n := by
  unfold rbL
  rw [List.mem_flatMap]
  refine ⟨q.2, mem_rg.mpr h, ?_⟩
  obtain ⟨b, r⟩ := q
  cases b <;> simp
theorem rbL_len : (rbL n).length = n * 2 := by
  unfold rbL
  rw [flat_len _ 2 _ (fun _ _ => rfl), rg_len]
def muF (n : Nat) : Th → Bool → Nat → Nat
  | none, _, _ => 0
  | some (w, _), b, l => if b = decide (w = 1) then 1 else n * 2 + 3 - l
noncomputable def folR (one other : Tab) (b : Bool) : Th → Th
  | none => none
  | some (w, r) => if b = decide (w = 1) then some (w, r) else val (folF one other) (b, r)
theorem folR_some {one other : Tab} {b : Bool} {w r : Int} : folR one other b (some (w, r)) = if b = decide (w = 1) then some (w, r) else val (folF one other) (b, r) := rfl
theorem followed_ok {one other : Tab} (hn : n ≤ 900) (l1 : one.2.length = n) (l2 : other.1.length = n) (o1 : ∀ x ∈ one.2, ∀ w r, x = some (w, r) → 0 ≤ r ∧ r < n) (o2 : ∀ x ∈ other.1, ∀ w r, x = some (w, r) → 0 ≤ r ∧ r < n) (b : Bool) (th : Th) (ht : ∀ w r, th = some (w, r) → 0 ≤ r ∧ r < n) :
    f_p_followed one other th b = .ok (folR one other b th) := by
  have nxt : ∀ q : Bool × Int, RB n q → ∀ w r, (if q.1 = true then one.2.getD q.2.toNat none else other.1.getD q.2.toNat none) = some (w, r) → 0 ≤ r ∧ r < n := by
    rintro ⟨b, r0⟩ ⟨h0, h1⟩ w r e
    cases b with
    | true =>
      have hl : r0.toNat < one.2.length := by rw [l1]; omega
      have e : one.2.getD r0.toNat none = some (w, r) := e
      rw [List.getD_eq_getElem?_getD, List.getElem?_eq_getElem hl] at e
      exact o1 _ (List.getElem_mem hl) w r e
    | false =>
      have hl : r0.toNat < other.1.length := by rw [l2]; omega
      have e : other.1.getD r0.toNat none = some (w, r) := e
      rw [List.getD_eq_getElem?_getD, List.getElem?_eq_getElem hl] at e
      exact o2 _ (List.getElem_mem hl) w r e
  cases th with
  | none =>
    unfold f_p_followed
    rw [bnd_ok, whlT_end (by rfl)] <;> rfl
  | some x =>
    obtain ⟨w0, r0⟩ := x
    obtain ⟨h0, h1⟩ := ht w0 r0 rfl
    unfold f_p_followed
    refine wp_eq ?_
    rw [bnd_ok]
    by_cases hb : b = decide (w0 = 1)
    · rw [whlT_rt (a := some (w0, r0)) (by rfl) (by simp only [unO, bnd_ok, decide_eq_true hb, if_pos]), thn_rt']
      show some (w0, r0) = folR one other b (some (w0, r0))
      rw [folR_some, if_pos hb]
    · rw [folR_some, if_neg hb]
      have hnth : ∀ (q : Bool × Int), RB n q → ∃ t, ofR (L2.atI (if q.1 = true then one.2 else other.1) q.2) = .ok t ∧ t = (if q.1 = true then one.2.getD q.2.toNat none else other.1.getD q.2.toNat none) := by
        rintro ⟨b, r⟩ ⟨a0, a1⟩
        simp only at a0 a1
        cases b with
        | true => exact ⟨_, at_get a0 (show one.2[r.toNat]? = some (one.2.getD r.toNat none) by rw [List.getD_eq_getElem?_getD, List.getElem?_eq_getElem (by rw [l1]; omega)]; rfl), rfl⟩
        | false => exact ⟨_, at_get a0 (show other.1[r.toNat]? = some (other.1.getD r.toNat none) by rw [List.getD_eq_getElem?_getD, List.getElem?_eq_getElem (by rw [l2]; omega)]; rfl), rfl⟩
      refine wp_whl (fun (x : Th × Bool × List ((Bool × Int) × Bool)) => (val (folF one other) (b, r0) = none ∧ x.1 = none) ∨ ∃ w r, x.1 = some (w, r) ∧ RB n (x.2.1, r) ∧
          ((x.2.1 = decide (w = 1) ∧ val (folF one other) (b, r0) = some (w, r) ∧ x.2.2.length ≤ n * 2) ∨ (x.2.1 ≠ decide (w = 1) ∧ MetI (folF one other) (rbL n) (b, r0) (x.2.1, r) x.2.2)))
        (fun x => muF n x.1 x.2.1 x.2.2.length) (fun _ => val (folF one other) (b, r0) = none) (.inr ⟨w0, r0, rfl, ⟨h0, h1⟩, .inr ⟨hb, .start _⟩⟩) ?_ ?_
      · rintro ⟨th, bb, met⟩ (⟨e1, rfl⟩ | ⟨w, r, rfl, hq, hc⟩)
        · exact .inl ⟨rfl, e1⟩
        · refine .inr ⟨rfl, ?_⟩
          simp only [unO, bnd_ok]
          rcases hc with ⟨hd, hv, _⟩ | ⟨hd, mi⟩
          · simp only at hd
            rw [if_pos (decide_eq_true hd)]
            exact hv.symm
          · simp only at hd mi hq
            rw [if_neg (by simpa using hd)]
            by_cases hh : hasT met (bb, r) = true
            · rw [if_pos hh]
              show none = val (folF one other) (b, r0)
              rw [val_of (mi.rep hh)]; rfl
            · rw [if_neg hh]
              have hf : hasT met (bb, r) = false := by simpa using hh
              have ml := mi.len
              rw [rbL_len] at ml
              obtain ⟨_, _, lk, _⟩ := mi.mem hf (mem_rbL hq)
              rw [puT_ok _ _ (by omega), bnd_ok]
              obtain ⟨t, et, ht2⟩ := hnth (bb, r) hq
              have fe : folF one other (bb, r) = folS bb t := by rw [ht2]; rfl
              have fin : ((val (folF one other) (b, r0) = none ∧ t = none) ∨ ∃ w r', t = some (w, r') ∧ RB n (!bb, r') ∧ (((!bb) = decide (w = 1) ∧ val (folF one other) (b, r0) = some (w, r') ∧ (putT met (bb, r) true).length ≤ n * 2) ∨ ((!bb) ≠ decide (w = 1) ∧ MetI (folF one other) (rbL n) (b, r0) (!bb, r') (putT met (bb, r) true)))) ∧
                  muF n t (!bb) (putT met (bb, r) true).length < muF n (some (w, r)) bb met.length := by
                rw [show muF n (some (w, r)) bb met.length = n * 2 + 3 - met.length from if_neg hd]
                cases t with
                | none =>
                  refine ⟨.inl ⟨?_, rfl⟩, by show 0 < _; omega⟩
                  rw [val_of (mi.out fe)]; rfl
                | some x =>
                  obtain ⟨w', r'⟩ := x
                  have hr' := nxt (bb, r) hq w' r' ht2.symm
                  by_cases hx : (!bb) = decide (w' = 1)
                  · simp only [folS, muF, if_pos hx] at fe ⊢
                    have lk2 : met.length + 1 ≤ n * 2 := by
                      have := pig_sub (rbL n) ((putT met (bb, r) true).map (·.1)) (mi.mem hf (mem_rbL hq)).1 (mi.mem hf (mem_rbL hq)).2.1
                      rw [List.length_map, rbL_len, lk] at this
                      exact this
                    refine ⟨.inr ⟨w', r', rfl, hr', .inl ⟨hx, ?_, by omega⟩⟩, by omega⟩
                    rw [val_of (mi.out fe)]; rfl
                  · simp only [folS, muF, if_neg hx] at fe ⊢
                    exact ⟨.inr ⟨w', r', rfl, hr', .inr ⟨hx, mi.next hf (mem_rbL hq) fe⟩⟩, by omega⟩
              cases bb with
              | true =>
                simp only [if_true] at et
                simp only [if_true, et, bnd_ok, thn_nx']
                exact fin
              | false =>
                simp only [Bool.false_eq_true, if_false] at et
                simp only [Bool.false_eq_true, if_false, et, bnd_ok, thn_nx']
                exact fin
      · rintro ⟨th, bb, met⟩ e
        exact e.symm
end
end DI
namespace DI
open PySem
section
variable {n k : Nat} {m : Mc} {s : St} {c : Char}
theorem win_rm (hm : McOk n k m) (hs : SgOk k s) (hl : s.length ≤ 1000) {p : Int × Int} (hp : StOk n s.length p) : ∀ w r, winV m s p = some (w, r) → 0 ≤ r ∧ r < n := fun w r e => ((win_on (c := 'a') hm hs hl hp).2 w r e).1
theorem tab_l1 (m : Mc) (s : St) : (tabV m s).1.length = m.length := by show ((rg 0 m.length).map _).length = _; rw [List.length_map, rg_len]
theorem tab_l2 (m : Mc) (s : St) : (tabV m s).2.length = m.length := by show ((rg 0 m.length).map _).length = _; rw [List.length_map, rg_len]
theorem tab_o2 (hm : McOk n k m) (hs : SgOk k s) (hl : s.length ≤ 1000) : ∀ x ∈ (tabV m s).2, ∀ w r, x = some (w, r) → 0 ≤ r ∧ r < n := by
  intro x hx w r e
  obtain ⟨q, hq, rfl⟩ := List.mem_map.mp (show x ∈ (rg 0 m.length).map fun r => winV m s ((s.length : Int), r) from hx)
  have := mem_rg.mp hq
  have hlen := hm.len
  exact win_rm hm hs hl (stOkL ⟨this.1, by omega⟩) w r e
theorem sg_o (hm : McOk n k m) (hc : c ∈ "abc".toList.take k) : ∀ x ∈ sgV m c, ∀ w r, x = some (w, r) → 0 ≤ r ∧ r < n := by
  intro x hx w r e
  unfold sgV at hx
  obtain ⟨row, hr, rfl⟩ := List.mem_map.mp hx
  cases e
  exact (cell_get (hm.rows row hr) hc).2.1
theorem sgV_len (m : Mc) (c : Char) : (sgV m c).length = m.length := by unfold sgV; rw [List.length_map]
theorem sgV_rg (hm : McOk n k m) : sgV m c = (rg 0 m.length).map fun r => some ((cellAt (rowAt m r) c).2, (cellAt (rowAt m r) c).1) := by
  apply List.ext_getElem?
  intro i
  unfold sgV
  rw [List.getElem?_map, List.getElem?_map, rg_get]
  by_cases hi : i < m.length
  · rw [if_pos hi, List.getElem?_eq_getElem hi]
    show some (some ((cellAt m[i] c).2, (cellAt m[i] c).1)) = some (some ((cellAt (rowAt m (0 + (i : Int))) c).2, (cellAt (rowAt m (0 + (i : Int))) c).1))
    have : rowAt m (0 + (i : Int)) = m[i] := by
      unfold rowAt
      rw [show (0 + (i : Int)).toNat = i by omega, List.getD_eq_getElem?_getD, List.getElem?_eq_getElem hi]
      rfl
    rw [this]
  · rw [if_neg hi, List.getElem?_eq_none (by omega)]; rfl
theorem behind_snoc (hm : McOk n k m) (hs : SgOk k s) (hl : s.length ≤ 1000) (hn : n ≤ 900) (hc : c ∈ "abc".toList.take k) : f_p_behind (tabV m s) (sgV m c, sgV m c) = .ok (tabV m (s ++ [c])) := by
  have hlen := hm.len
  have fol := fun b th ht => followed_ok (one := tabV m s) (other := (sgV m c, sgV m c)) hn (by rw [tab_l2, hlen]) (by rw [sgV_len, hlen]) (tab_o2 hm hs hl) (sg_o hm hc) b th ht
  have fore : cmT (tabV m s).1 (fun thing => f_p_followed (tabV m s) (sgV m c, sgV m c) thing false) = .ok (tabV m (s ++ [c])).1 := by
    have e := cmT_ok (F := fun r => f_p_followed (tabV m s) (sgV m c, sgV m c) (winV m s (1, r)) false) (xs := rg 0 m.length) (fun r => winV m (s ++ [c]) (1, r)) (fun r hr => by
      have hr := mem_rg.mp hr
      have hp : StOk n s.length (1, r) := stOk1 ⟨hr.1, by omega⟩
      obtain ⟨o1, o2⟩ := win_on (c := c) hm hs hl hp
      rw [fol false _ (win_rm hm hs hl hp)]
      cases hv : winV m s (1, r) with
      | none => show R.ok none = _; rw [o1 hv]
      | some x =>
        obtain ⟨w, r'⟩ := x
        obtain ⟨hr', ⟨rfl, j, hj⟩ | ⟨rfl, hj⟩⟩ := o2 w r' hv
        · rw [folR_some, if_neg (by decide), fol_val hm hs hl hc (q := (false, r')) hr']
          show R.ok (winV m (s ++ [c]) ((s.length : Int) + 1, r')) = R.ok (winV m (s ++ [c]) (1, r))
          unfold winV
          rw [val_it hj]
        · rw [folR_some, if_pos (by decide), hj]) (by rw [rg_len]; omega)
    have : ∀ xs : List Int, mpT (fun thing => f_p_followed (tabV m s) (sgV m c, sgV m c) thing false) (xs.map fun r => winV m s (1, r)) = mpT (fun r => f_p_followed (tabV m s) (sgV m c, sgV m c) (winV m s (1, r)) false) xs := by
      intro xs
      induction xs with
      | nil => rfl
      | cons x xs ih => rw [List.map_cons, mpT, mpT, ih]
    unfold cmT at e ⊢
    rw [show (tabV m s).1 = (rg 0 m.length).map fun r => winV m s (1, r) from rfl, this]
    exact e
  have aft : cmT (sgV m c) (fun thing => f_p_followed (tabV m s) (sgV m c, sgV m c) thing true) = .ok (tabV m (s ++ [c])).2 := by
    have e := cmT_ok (F := fun r => f_p_followed (tabV m s) (sgV m c, sgV m c) (some ((cellAt (rowAt m r) c).2, (cellAt (rowAt m r) c).1)) true) (xs := rg 0 m.length) (fun r => winV m (s ++ [c]) ((s.length : Int) + 1, r)) (fun r hr => by
      have hr := mem_rg.mp hr
      obtain ⟨co, es⟩ := last_step (s := s) hm hc hr.1 (show r < n by omega)
      rw [fol true _ (fun w r' e => by cases e; exact co.1)]
      rw [folR_some]
      by_cases hw : (cellAt (rowAt m r) c).2 = 1
      · rw [if_pos (by rw [hw]; rfl)]
        show _ = R.ok (val _ ((s.length : Int) + 1, r))
        rw [val_inl es, hw, show (s.length : Int) + 1 + 1 = (s.length : Int) + 2 by omega]
        exact congrArg R.ok (out_right (m := m) (s := s) (c := c)).symm
      · have hw' : (cellAt (rowAt m r) c).2 = -1 := co.2.resolve_left hw
        rw [if_neg (by simp [hw]), fol_val hm hs hl hc (q := (true, (cellAt (rowAt m r) c).1)) co.1]
        show R.ok (winV m (s ++ [c]) ((s.length : Int), (cellAt (rowAt m r) c).1)) = R.ok (val _ ((s.length : Int) + 1, r))
        rw [val_inl es, hw', show (s.length : Int) + 1 + -1 = (s.length : Int) by omega]
        rfl) (by rw [rg_len]; omega)
    have : ∀ xs : List Int, mpT (fun thing => f_p_followed (tabV m s) (sgV m c, sgV m c) thing true) (xs.map fun r => some ((cellAt (rowAt m r) c).2, (cellAt (rowAt m r) c).1)) = mpT (fun r => f_p_followed (tabV m s) (sgV m c, sgV m c) (some ((cellAt (rowAt m r) c).2, (cellAt (rowAt m r) c).1)) true) xs := by
      intro xs
      induction xs with
      | nil => rfl
      | cons x xs ih => rw [List.map_cons, mpT, mpT, ih]
    unfold cmT at e ⊢
    conv => lhs; arg 1; arg 2; rw [sgV_rg hm]
    rw [this]
    show _ = R.ok ((rg 0 m.length).map fun r => winV m (s ++ [c]) (((s ++ [c]).length : Int), r))
    rw [snoc_len]
    exact e
  unfold f_p_behind
  rw [fore, bnd_ok, aft, bnd_ok]
  rfl
theorem sign_table_ok (hm : McOk n k m) (hn0 : 0 < n) (hn : n ≤ 900) (hc : c ∈ "abc".toList.take k) : f_p_sign_table m [c] = .ok (sgV m c, sgV m c) := by
  have hlen := hm.len
  unfold f_p_sign_table
  rw [checked_ok hm hn0 (show SgOk k [c] from fun d hd => by rw [List.mem_singleton.mp hd]; exact hc), R.bind_ok, idx_abc hc, bnd_ok,
    cmT_ok (F := fun row : Row => ofR (L2.atI row.2.1 (sgI c : Int))) (fun row => cellAt row c) (fun row hr => (cell_get (hm.rows row hr) hc).1) (by omega), bnd_ok,
    cmT_ok (F := fun cell : Int × Int => R.ok ((cell.2, cell.1))) (fun cell => (cell.2, cell.1)) (fun _ _ => rfl) (by rw [List.length_map]; omega), R.bind_ok, bnd_ok]
  show R.ok (_, _) = _
  have e : List.map some (List.map (fun cell : Int × Int => (cell.2, cell.1)) (List.map (fun row => cellAt row c) m)) = sgV m c := by
    unfold sgV
    rw [List.map_map, List.map_map]; rfl
  rw [e]
theorem still_ok (m : Mc) (hn : m.length ≤ 900) : f_p_still (m.length : Int) = .ok (tabV m []) := by
  have w1 : ∀ r, winV m [] (1, r) = some (1, r) := fun r => val_inr (if_neg (by show ¬ ((0 : Int) < 1 ∧ (1 : Int) ≤ ((0 : Nat) : Int)); omega))
  have w0 : ∀ r, winV m [] (0, r) = some (-1, r) := fun r => val_inr (if_neg (by show ¬ ((0 : Int) < 0 ∧ (0 : Int) ≤ ((0 : Nat) : Int)); omega))
  unfold f_p_still
  rw [rngT_nat (by omega), R.bind_ok, cmT_ok (F := fun room : Int => R.ok (some (((1 : Int), room)))) (fun r => some (1, r)) (fun _ _ => rfl) (by rw [rg_len]; omega), R.bind_ok, R.bind_ok, R.bind_ok,
    cmT_ok (F := fun room : Int => R.ok (some (((-1 : Int), room)))) (fun r => some (-1, r)) (fun _ _ => rfl) (by rw [rg_len]; omega), R.bind_ok, R.bind_ok, bnd_ok]
  show R.ok (_, _) = R.ok ((rg 0 m.length).map fun r => winV m [] (1, r), (rg 0 m.length).map fun r => winV m [] (0, r))
  simp only [w1, w0]
end
end DI
namespace DI
open PySem
section
variable {S S' O O' : Type} {f : S' → S' ⊕ O} {g : S → S ⊕ O'} {P : S → Prop} {e : S → S'}
theorem follow_e (h1 : ∀ s t, P s → g s = .inl t → f (e s) = .inl (e t) ∧ P t) : ∀ (n : Nat) (s : S) (o : O'), P s → outN g n s = some o → ∃ k t, itN f k (e s) (e t) ∧ P t ∧ g t = .inr o
  | 0, _, _, _, h => by cases h
  | n + 1, s, o, hs, h => by
    cases e' : g s with
    | inr q => rw [outN_inr e'] at h; cases h; exact ⟨0, s, rfl, hs, e'⟩
    | inl t =>
      rw [outN_inl e'] at h
      obtain ⟨hf, ht⟩ := h1 s t hs e'
      obtain ⟨k, u, i, hu, eu⟩ := follow_e h1 n t o ht h
      exact ⟨k + 1, u, ⟨e t, hf, i⟩, hu, eu⟩
theorem follow_en (h1 : ∀ s t, P s → g s = .inl t → f (e s) = .inl (e t) ∧ P t) {s : S} (hs : P s) (h : sem g s = none) : sem f (e s) = none := by
  have go : ∀ (n : Nat) (s : S), P s → sem g s = none → outN f n (e s) = none := by
    intro n
    induction n with
    | zero => exact fun _ _ _ => rfl
    | succ n ih =>
      intro s hs h
      cases e' : g s with
      | inr q => rw [sem_inr e'] at h; cases h
      | inl t =>
        obtain ⟨hf, ht⟩ := h1 s t hs e'
        rw [outN_inl hf]
        exact ih t ht (by rw [← sem_inl e']; exact h)
  exact sem_never fun n => go n s hs h
end
section
variable {n k : Nat} {m : Mc} {s t : St}
def exitP (len : Nat) (w : Int) : Int := if w = 1 then (len : Int) + 1 else 0
theorem win_follow {O : Type} {f : Int × Int → (Int × Int) ⊕ O} {e : Int × Int → Int × Int} (hm : McOk n k m) (hs : SgOk k s) (hl : s.length ≤ 1000) (hf : ∀ p q, StOk n s.length p → winF m s p = .inl q → f (e p) = .inl (e q)) {p : Int × Int} (hp : StOk n s.length p) :
    (winV m s p = none → sem f (e p) = none) ∧ ∀ w r, winV m s p = some (w, r) → (0 ≤ r ∧ r < n) ∧ (w = 1 ∨ w = -1) ∧ ∃ j, itN f j (e p) (e (exitP s.length w, r)) := by
  have h1 : ∀ p q, StOk n s.length p → winF m s p = .inl q → f (e p) = .inl (e q) ∧ StOk n s.length q := fun p q hp h => ⟨hf p q hp h, win_keep hm hs hl p q hp h⟩
  unfold winV
  cases h : sem (winF m s) p with
  | none =>
    refine ⟨fun _ => follow_en h1 hp h, fun w r e => ?_⟩
    rw [val_of h] at e; cases e
  | some o =>
    obtain ⟨j, hj⟩ := sem_ends h
    obtain ⟨j, t, i, ht, e'⟩ := follow_e h1 j p o hp hj
    unfold winF at e'
    by_cases hin : 0 < t.1 ∧ t.1 ≤ (s.length : Int)
    · rw [if_pos hin] at e'; cases e'
    · rw [if_neg hin] at e'
      cases e'
      refine ⟨fun e => ?_, fun w r e => ?_⟩
      · rw [val_of h] at e; cases e
      · rw [val_of h] at e
        cases e
        have := ht.p1
        have := ht.p0
        refine ⟨⟨ht.r0, ht.r1⟩, by split <;> simp, j, ?_⟩
        have : (exitP s.length (if 0 < t.1 then 1 else -1), t.2) = t := by
          refine Prod.ext ?_ rfl
          show exitP s.length _ = t.1
          unfold exitP
          by_cases h0 : 0 < t.1
          · rw [if_pos h0, if_pos rfl]; omega
          · rw [if_neg h0, if_neg (by decide)]; omega
        rw [this]
        exact i
def shP (d : Nat) (p : Int × Int) : Int × Int := (p.1 + d, p.2)
theorem winF_in {p : Int × Int} (h : 0 < p.1 ∧ p.1 ≤ (s.length : Int)) : winF m s p = .inl (p.1 + (cellAt (rowAt m p.2) (signAt s p.1)).2, (cellAt (rowAt m p.2) (signAt s p.1)).1) := if_pos h
theorem winF_out {p : Int × Int} (h : ¬ (0 < p.1 ∧ p.1 ≤ (s.length : Int))) : winF m s p = .inr (some (if 0 < p.1 then 1 else -1, p.2)) := if_neg h
theorem winF_inl {p q : Int × Int} (h : winF m s p = .inl q) : 0 < p.1 ∧ p.1 ≤ (s.length : Int) := by
  by_cases q : 0 < p.1 ∧ p.1 ≤ (s.length : Int)
  · exact q
  · rw [winF_out q] at h; cases h
theorem sign_left {p : Int} (h0 : 1 ≤ p) (h : p ≤ (s.length : Int)) : signAt (s ++ t) p = signAt s p := by
  unfold signAt
  rw [List.getD_eq_getElem?_getD, List.getD_eq_getElem?_getD, List.getElem?_append_left (by omega)]
theorem sign_right {p : Int} (h0 : 1 ≤ p) : signAt (s ++ t) (p + (s.length : Nat)) = signAt t p := by
  unfold signAt
  rw [List.getD_eq_getElem?_getD, List.getD_eq_getElem?_getD, List.getElem?_append_right (by omega)]
  congr 2
  omega
theorem win_left (p q : Int × Int) (hp : StOk n s.length p) (h : winF m s p = .inl q) : winF m (s ++ t) (id p) = .inl (id q) := by
  have hi := winF_inl h
  rw [winF_in hi] at h
  cases h
  show winF m (s ++ t) p = _
  rw [winF_in ⟨hi.1, by rw [List.length_append]; omega⟩, sign_left (by omega) hi.2]
  rfl
theorem win_right (p q : Int × Int) (hp : StOk n t.length p) (h : winF m t p = .inl q) : winF m (s ++ t) (shP s.length p) = .inl (shP s.length q) := by
  have hi := winF_inl h
  rw [winF_in hi] at h
  cases h
  have e : winF m (s ++ t) (shP s.length p) = _ := winF_in ⟨by show 0 < p.1 + (s.length : Int); omega, by show p.1 + (s.length : Int) ≤ _; rw [List.length_append]; omega⟩
  rw [e]
  show Sum.inl (p.1 + (s.length : Int) + (cellAt (rowAt m p.2) (signAt (s ++ t) (p.1 + (s.length : Nat)))).2, (cellAt (rowAt m p.2) (signAt (s ++ t) (p.1 + (s.length : Nat)))).1) = _
  rw [sign_right (by omega)]
  refine congrArg Sum.inl (Prod.ext ?_ rfl)
  show p.1 + (s.length : Int) + _ = p.1 + _ + (s.length : Int)
  omega
theorem app_len : ((s ++ t).length : Int) = (s.length : Int) + (t.length : Int) := by simp
theorem left_on (hm : McOk n k m) (hs : SgOk k s) (hl : s.length ≤ 1000) {p : Int × Int} (hp : StOk n s.length p) :
    (winV m s p = none → winV m (s ++ t) p = none) ∧ ∀ w r, winV m s p = some (w, r) → (0 ≤ r ∧ r < n) ∧ ((w = 1 ∧ ∃ j, itN (winF m (s ++ t)) j p ((s.length : Int) + 1, r)) ∨ (w = -1 ∧ winV m (s ++ t) p = some (-1, r))) := by
  obtain ⟨a, b⟩ := win_follow (e := id) (f := winF m (s ++ t)) hm hs hl (fun p q => win_left p q) hp
  refine ⟨fun h => val_of (a h), fun w r h => ?_⟩
  obtain ⟨hr, rfl | rfl, j, hj⟩ := b w r h
  · exact ⟨hr, .inl ⟨rfl, j, hj⟩⟩
  · refine ⟨hr, .inr ⟨rfl, ?_⟩⟩
    show val _ p = _
    rw [show val (winF m (s ++ t)) p = _ from val_it hj]
    exact val_inr (winF_out (p := (0, r)) (by show ¬ ((0 : Int) < 0 ∧ _); omega))
theorem right_on (hm : McOk n k m) (ht : SgOk k t) (hl : t.length ≤ 1000) {p : Int × Int} (hp : StOk n t.length p) :
    (winV m t p = none → winV m (s ++ t) (shP s.length p) = none) ∧ ∀ w r, winV m t p = some (w, r) → (0 ≤ r ∧ r < n) ∧ ((w = -1 ∧ ∃ j, itN (winF m (s ++ t)) j (shP s.length p) ((s.length : Int), r)) ∨ (w = 1 ∧ winV m (s ++ t) (shP s.length p) = some (1, r))) := by
  obtain ⟨a, b⟩ := win_follow (e := shP s.length) (f := winF m (s ++ t)) hm ht hl (fun p q => win_right p q) hp
  refine ⟨fun h => val_of (a h), fun w r h => ?_⟩
  obtain ⟨hr, rfl | rfl, j, hj⟩ := b w r h
  · refine ⟨hr, .inr ⟨rfl, ?_⟩⟩
    show val _ _ = _
    rw [val_it hj]
    have e := val_inr (f := winF m (s ++ t)) (winF_out (p := shP s.length (exitP t.length 1, r)) (by show ¬ (_ ∧ (t.length : Int) + 1 + (s.length : Int) ≤ _); rw [app_len]; omega))
    rw [e, if_pos (by show 0 < (t.length : Int) + 1 + (s.length : Int); omega)]
    rfl
  · refine ⟨hr, .inl ⟨rfl, j, ?_⟩⟩
    have : shP s.length (exitP t.length (-1), r) = ((s.length : Int), r) := Prod.ext (by show (0 : Int) + (s.length : Int) = _; omega) rfl
    rw [← this]; exact hj
theorem tab1_get (hm : McOk n k m) {r : Int} (h0 : 0 ≤ r) (h1 : r < n) : (tabV m t).1.getD r.toNat none = winV m t (1, r) := by
  show ((rg 0 m.length).map _).getD r.toNat none = _
  rw [List.getD_eq_getElem?_getD, List.getElem?_map, rg_get, if_pos (by rw [hm.len]; omega), show (0 : Int) + (r.toNat : Int) = r by omega]
  rfl
theorem fol_app (hm : McOk n k m) (hs : SgOk k s) (hl : s.length ≤ 1000) (ht : SgOk k t) (hl2 : t.length ≤ 1000) {q : Bool × Int} (hq : RB n q) : val (folF (tabV m s) (tabV m t)) q = winV m (s ++ t) (fE s q) := by
  have e1 : ∀ r : Int, shP s.length (1, r) = ((s.length : Int) + 1, r) := fun r => Prod.ext (by show (1 : Int) + (s.length : Int) = _; omega) rfl
  have key : ∀ q : Bool × Int, RB n q → (∀ o, folF (tabV m s) (tabV m t) q = .inr o → winV m (s ++ t) (fE s q) = o) ∧ ∀ u, folF (tabV m s) (tabV m t) q = .inl u → RB n u ∧ ∃ j, itN (winF m (s ++ t)) (j + 1) (fE s q) (fE s u) := by
    rintro ⟨b, r⟩ ⟨h0, h1⟩
    cases b with
    | false =>
      obtain ⟨o1, o2⟩ := right_on (s := s) hm ht hl2 (stOk1 (len := t.length) ⟨h0, h1⟩)
      rw [e1] at o1 o2
      unfold folF folS
      simp only [Bool.false_eq_true, if_false, tab1_get hm h0 h1]
      cases hv : winV m t (1, r) with
      | none =>
        refine ⟨fun o e => ?_, fun u e => (by cases e)⟩
        cases e
        exact o1 hv
      | some x =>
        obtain ⟨w, r'⟩ := x
        obtain ⟨hr, ⟨rfl, j, hj⟩ | ⟨rfl, hj⟩⟩ := o2 w r' hv
        · simp only
          rw [if_neg (by decide)]
          refine ⟨fun o e => (by cases e), fun u e => ?_⟩
          cases e
          refine ⟨hr, ?_⟩
          cases j with
          | zero =>
            have : ((s.length : Int) + 1, r) = ((s.length : Int), r') := hj
            have := (Prod.mk.inj this).1
            omega
          | succ j => exact ⟨j, hj⟩
        · simp only
          rw [if_pos (by decide)]
          refine ⟨fun o e => ?_, fun u e => (by cases e)⟩
          cases e
          exact hj
    | true =>
      obtain ⟨o1, o2⟩ := left_on (t := t) hm hs hl (stOkL (len := s.length) ⟨h0, h1⟩)
      unfold folF folS
      simp only [if_true, tab2_get hm h0 h1]
      cases hv : winV m s ((s.length : Int), r) with
      | none =>
        refine ⟨fun o e => ?_, fun u e => (by cases e)⟩
        cases e
        exact o1 hv
      | some x =>
        obtain ⟨w, r'⟩ := x
        obtain ⟨hr, ⟨rfl, j, hj⟩ | ⟨rfl, hj⟩⟩ := o2 w r' hv
        · simp only
          rw [if_neg (by decide)]
          refine ⟨fun o e => (by cases e), fun u e => ?_⟩
          cases e
          refine ⟨hr, ?_⟩
          cases j with
          | zero =>
            have : ((s.length : Int), r) = ((s.length : Int) + 1, r') := hj
            have := (Prod.mk.inj this).1
            omega
          | succ j => exact ⟨j, hj⟩
        · simp only
          rw [if_pos (by decide)]
          refine ⟨fun o e => ?_, fun u e => (by cases e)⟩
          cases e
          exact hj
  exact val_great (P := RB n) (fun a u ha e => ((key a ha).2 u e).1) (fun a o ha e => (key a ha).1 o e) (fun a u ha e => ((key a ha).2 u e).2) hq
end
end DI
namespace DI
open PySem
section
variable {n k : Nat} {m : Mc} {s t : St}
theorem tab_o1 (hm : McOk n k m) (hs : SgOk k s) (hl : s.length ≤ 1000) : ∀ x ∈ (tabV m s).1, ∀ w r, x = some (w, r) → 0 ≤ r ∧ r < n := by
  intro x hx w r e
  obtain ⟨q, hq, rfl⟩ := List.mem_map.mp (show x ∈ (rg 0 m.length).map fun r => winV m s (1, r) from hx)
  have := mem_rg.mp hq
  have hlen := hm.len
  exact win_rm hm hs hl (stOk1 ⟨this.1, by omega⟩) w r e
theorem mpT_map {α β γ : Type} (F : β → R γ) (f : α → β) : ∀ xs : List α, mpT F (xs.map f) = mpT (fun x => F (f x)) xs
  | [] => rfl
  | x :: xs => by rw [List.map_cons, mpT, mpT, mpT_map F f xs]
theorem cmT_map {α β γ : Type} (F : β → R γ) (f : α → β) (xs : List α) : cmT (xs.map f) F = cmT xs fun x => F (f x) := by
  unfold cmT
  rw [mpT_map]
theorem behind_app (hm : McOk n k m) (hs : SgOk k s) (hl : s.length ≤ 1000) (ht : SgOk k t) (hl2 : t.length ≤ 1000) (hn : n ≤ 900) : f_p_behind (tabV m s) (tabV m t) = .ok (tabV m (s ++ t)) := by
  have hlen := hm.len
  have fol := fun b th h => followed_ok (one := tabV m s) (other := tabV m t) hn (by rw [tab_l2, hlen]) (by rw [tab_l1, hlen]) (tab_o2 hm hs hl) (tab_o1 hm ht hl2) b th h
  have e1 : ∀ r : Int, shP s.length (1, r) = ((s.length : Int) + 1, r) := fun r => Prod.ext (by show (1 : Int) + (s.length : Int) = _; omega) rfl
  have e2 : ∀ r : Int, shP s.length ((t.length : Int), r) = (((s ++ t).length : Int), r) := fun r => Prod.ext (by show (t.length : Int) + (s.length : Int) = _; rw [app_len]; omega) rfl
  have fore : cmT (tabV m s).1 (fun thing => f_p_followed (tabV m s) (tabV m t) thing false) = .ok (tabV m (s ++ t)).1 := by
    rw [show (tabV m s).1 = (rg 0 m.length).map fun r => winV m s (1, r) from rfl, cmT_map]
    refine cmT_ok (fun r => winV m (s ++ t) (1, r)) (fun r hr => ?_) (by rw [rg_len]; omega)
    have hr := mem_rg.mp hr
    have hp : StOk n s.length (1, r) := stOk1 ⟨hr.1, by omega⟩
    obtain ⟨o1, o2⟩ := left_on (t := t) hm hs hl hp
    rw [fol false _ (win_rm hm hs hl hp)]
    cases hv : winV m s (1, r) with
    | none => show R.ok none = _; rw [o1 hv]
    | some x =>
      obtain ⟨w, r'⟩ := x
      obtain ⟨hr', ⟨rfl, j, hj⟩ | ⟨rfl, hj⟩⟩ := o2 w r' hv
      · rw [folR_some, if_neg (by decide), fol_app hm hs hl ht hl2 (q := (false, r')) hr']
        show R.ok (winV m (s ++ t) ((s.length : Int) + 1, r')) = R.ok (winV m (s ++ t) (1, r))
        unfold winV
        rw [val_it hj]
      · rw [folR_some, if_pos (by decide), hj]
  have aft : cmT (tabV m t).2 (fun thing => f_p_followed (tabV m s) (tabV m t) thing true) = .ok (tabV m (s ++ t)).2 := by
    rw [show (tabV m t).2 = (rg 0 m.length).map fun r => winV m t ((t.length : Int), r) from rfl, cmT_map]
    refine cmT_ok (fun r => winV m (s ++ t) (((s ++ t).length : Int), r)) (fun r hr => ?_) (by rw [rg_len]; omega)
    have hr := mem_rg.mp hr
    have hp : StOk n t.length ((t.length : Int), r) := stOkL ⟨hr.1, by omega⟩
    obtain ⟨o1, o2⟩ := right_on (s := s) hm ht hl2 hp
    rw [e2] at o1 o2
    rw [fol true _ (win_rm hm ht hl2 hp)]
    cases hv : winV m t ((t.length : Int), r) with
    | none => show R.ok none = _; rw [o1 hv]
    | some x =>
      obtain ⟨w, r'⟩ := x
      obtain ⟨hr', ⟨rfl, j, hj⟩ | ⟨rfl, hj⟩⟩ := o2 w r' hv
      · rw [folR_some, if_neg (by decide), fol_app hm hs hl ht hl2 (q := (true, r')) hr']
        show R.ok (winV m (s ++ t) ((s.length : Int), r')) = R.ok (winV m (s ++ t) (((s ++ t).length : Int), r))
        unfold winV
        rw [val_it hj]
      · rw [folR_some, if_pos (by decide), hj]
  unfold f_p_behind
  rw [fore, bnd_ok, aft, bnd_ok]
  rfl
end
end DI
namespace DI
open PySem
def lexB : St → St → Bool
  | [], [] => false
  | [], _ :: _ => true
  | _ :: _, [] => false
  | a :: as, b :: bs => if a.toNat < b.toNat then true else if a.toNat = b.toNat then lexB as bs else false
theorem lexB_irr : ∀ a : St, lexB a a = false
  | [] => rfl
  | a :: as => by rw [lexB, if_neg (by omega), if_pos rfl, lexB_irr as]
theorem lexB_tr : ∀ {a b c : St}, lexB a b = true → lexB b c = true → lexB a c = true
  | [], [], _, h, _ => by cases h
  | [], _ :: _, [], _, h => by cases h
  | [], _ :: _, _ :: _, _, _ => rfl
  | _ :: _, [], _, h, _ => by cases h
  | _ :: _, _ :: _, [], _, h => by cases h
  | a :: as, b :: bs, c :: cs, h, h2 => by
    rw [lexB] at h h2 ⊢
    by_cases q : a.toNat < b.toNat
    · by_cases q2 : b.toNat < c.toNat
      · rw [if_pos (by omega)]
      · rw [if_neg q2] at h2
        by_cases q3 : b.toNat = c.toNat
        · rw [if_pos (by omega)]
        · rw [if_neg q3] at h2; cases h2
    · rw [if_neg q] at h
      by_cases q1 : a.toNat = b.toNat
      · rw [if_pos q1] at h
        by_cases q2 : b.toNat < c.toNat
        · rw [if_pos (by omega)]
        · rw [if_neg q2] at h2
          by_cases q3 : b.toNat = c.toNat
          · rw [if_pos q3] at h2
            rw [if_neg (by omega), if_pos (by omega)]
            exact lexB_tr h h2
          · rw [if_neg q3] at h2; cases h2
      · rw [if_neg q1] at h; cases h
theorem lexB_app : ∀ {a b : St} {c d : Char}, a.length = b.length → lexB a b = true → lexB (a ++ [c]) (b ++ [d]) = true
  | [], [], _, _, _, h => by cases h
  | [], _ :: _, _, _, h, _ => by cases h
  | _ :: _, [], _, _, h, _ => by cases h
  | a :: as, b :: bs, c, d, hl, h => by
    rw [List.cons_append, List.cons_append]
    rw [lexB] at h ⊢
    by_cases q : a.toNat < b.toNat
    · rw [if_pos q]
    · rw [if_neg q] at h ⊢
      by_cases q1 : a.toNat = b.toNat
      · rw [if_pos q1] at h ⊢
        exact lexB_app (by simpa using hl) h
      · rw [if_neg q1] at h; cases h
theorem lexB_end : ∀ (a : St) {c d : Char}, c.toNat < d.toNat → lexB (a ++ [c]) (a ++ [d]) = true
  | [], c, d, h => by
    show (if c.toNat < d.toNat then true else _) = true
    rw [if_pos h]
  | a :: as, c, d, h => by
    rw [List.cons_append, List.cons_append, lexB, if_neg (by omega), if_pos rfl]
    exact lexB_end as h
def slt (a b : St) : Prop := a.length < b.length ∨ a.length = b.length ∧ lexB a b = true
instance (a b : St) : Decidable (slt a b) := inferInstanceAs (Decidable (_ ∨ _))
theorem slt_irr {a : St} (h : slt a a) : False := by
  rcases h with h | ⟨_, h⟩
  · omega
  · rw [lexB_irr] at h; cases h
theorem slt_tr {a b c : St} (h : slt a b) (h2 : slt b c) : slt a c := by
  rcases h with h | ⟨e, h⟩
  · rcases h2 with h2 | ⟨e2, h2⟩
    · exact .inl (by omega)
    · exact .inl (by omega)
  · rcases h2 with h2 | ⟨e2, h2⟩
    · exact .inl (by omega)
    · exact .inr ⟨by omega, lexB_tr h h2⟩
def sle (a b : St) : Prop := a = b ∨ slt a b
theorem slt_le {a b c : St} (h : slt a b) (h2 : sle b c) : slt a c := by
  rcases h2 with rfl | h2
  · exact h
  · exact slt_tr h h2
theorem sle_tr {a b c : St} (h : sle a b) (h2 : sle b c) : sle a c := by
  rcases h with rfl | h
  · exact h2
  · exact .inr (slt_le h h2)
theorem slt_app {a b : St} (c d : Char) (h : slt a b) : slt (a ++ [c]) (b ++ [d]) := by
  rcases h with h | ⟨e, h⟩
  · exact .inl (by simp; exact h)
  · exact .inr ⟨by simp; exact e, lexB_app e h⟩
theorem slt_end (a : St) {c d : Char} (h : c.toNat < d.toNat) : slt (a ++ [c]) (a ++ [d]) := .inr ⟨by simp, lexB_end a h⟩
theorem slt_more (a : St) (c : Char) : slt a (a ++ [c]) := .inl (by simp)
theorem sle_app {a b : St} (c : Char) (h : sle a b) : sle (a ++ [c]) (b ++ [c]) := by
  rcases h with rfl | h
  · exact .inl rfl
  · exact .inr (slt_app c c h)
theorem slt_nil {a : St} (h : a ≠ []) : slt [] a := .inl (by cases a with
  | nil => exact absurd rfl h
  | cons x a => simp)
theorem nslt_nil {a : St} (h : slt a []) : False := by
  rcases h with h | ⟨e, h⟩
  · simp at h
  · have : a = [] := List.length_eq_zero_iff.mp e
    subst this; cases h
end DI
namespace DI
open PySem
section
variable {α : Type} [DecidableEq α]
abbrev Suc (α : Type) := α → List (α × Char)
def bfI (s : St) (W : List (α × St)) (p : α × Char) : List (α × St) := if p.1 ∈ W.map (·.1) then W else W ++ [(p.1, s ++ [p.2])]
structure SucOk (suc : Suc α) (U : List α) : Prop where
  inU : ∀ x ∈ U, ∀ p ∈ suc x, p.1 ∈ U
  asc : ∀ x, (suc x).Pairwise fun p q => p.2.toNat < q.2.toNat
inductive Leads (suc : Suc α) (p0 : α) : St → α → Prop where
  | nil : Leads suc p0 [] p0
  | snoc {s : St} {x y : α} {c : Char} : Leads suc p0 s x → (y, c) ∈ suc x → Leads suc p0 (s ++ [c]) y
structure BI (suc : Suc α) (U : List α) (p0 : α) (W : List (α × St)) (i : Nat) : Prop where
  nd : (W.map (·.1)).Nodup
  sub : ∀ e ∈ W, e.1 ∈ U
  hd : W[0]? = some (p0, [])
  le : i ≤ W.length
  src : ∀ e ∈ W, e = (p0, []) ∨ ∃ i' < i, ∃ e', W[i']? = some e' ∧ ∃ p ∈ suc e'.1, e = (p.1, e'.2 ++ [p.2])
  dn : ∀ i' < i, ∀ e', W[i']? = some e' → ∀ p ∈ suc e'.1, ∃ s, (p.1, s) ∈ W ∧ sle s (e'.2 ++ [p.2])
  srt : W.Pairwise fun e e' => slt e.2 e'.2
  lds : ∀ e ∈ W, Leads suc p0 e.2 e.1
theorem nodup_le {U : List α} : ∀ {L : List α}, L.Nodup → (∀ x ∈ L, x ∈ U) → L.length ≤ U.length := by
  intro L
  induction L generalizing U with
  | nil => intro _ _; simp
  | cons x L ih =>
    intro nd h
    rw [List.nodup_cons] at nd
    have hx := h x List.mem_cons_self
    have := ih (U := U.erase x) nd.2 fun y hy => by
      have hy' := h y (List.mem_cons_of_mem _ hy)
      have : y ≠ x := fun q => nd.1 (q ▸ hy)
      exact (List.mem_erase_of_ne this).mpr hy'
    rw [List.length_erase_of_mem hx] at this
    have := List.length_pos_of_mem hx
    rw [List.length_cons]; omega
variable {suc : Suc α} {U : List α} {p0 : α}
theorem BI.len {W : List (α × St)} {i : Nat} (h : BI suc U p0 W i) : W.length ≤ U.length := by
  have := nodup_le h.nd (U := U) fun x hx => by
    obtain ⟨e, he, rfl⟩ := List.mem_map.mp hx
    exact h.sub e he
  simpa using this
theorem bi_init (h0 : p0 ∈ U) : BI suc U p0 [(p0, [])] 0 where
  nd := by simp
  sub := fun e he => by simp at he; subst he; exact h0
  hd := rfl
  le := by simp
  src := fun e he => by simp at he; exact .inl he
  dn := fun i' h => by omega
  srt := by simp
  lds := fun e he => by simp at he; subst he; exact .nil
structure BJ (suc : Suc α) (U : List α) (p0 : α) (i : Nat) (e0 : α × St) (ys : List (α × Char)) (W : List (α × St)) : Prop where
  nd : (W.map (·.1)).Nodup
  sub : ∀ e ∈ W, e.1 ∈ U
  hd : W[0]? = some (p0, [])
  lt : i < W.length
  at0 : W[i]? = some e0
  src : ∀ e ∈ W, e = (p0, []) ∨ (∃ i' < i, ∃ e', W[i']? = some e' ∧ ∃ p ∈ suc e'.1, e = (p.1, e'.2 ++ [p.2])) ∨ ∃ p ∈ ys, e = (p.1, e0.2 ++ [p.2])
  dn : ∀ i' < i, ∀ e', W[i']? = some e' → ∀ p ∈ suc e'.1, ∃ s, (p.1, s) ∈ W ∧ sle s (e'.2 ++ [p.2])
  dn2 : ∀ p ∈ ys, ∃ s, (p.1, s) ∈ W ∧ sle s (e0.2 ++ [p.2])
  srt : W.Pairwise fun e e' => slt e.2 e'.2
  lds : ∀ e ∈ W, Leads suc p0 e.2 e.1
theorem pw_get {β : Type} {R : β → β → Prop} {xs : List β} (h : xs.Pairwise R) {i j : Nat} {x y : β} (hi : xs[i]? = some x) (hj : xs[j]? = some y) (hl : i < j) : R x y := by
  obtain ⟨a, rfl⟩ := List.getElem?_eq_some_iff.mp hi
  obtain ⟨b, rfl⟩ := List.getElem?_eq_some_iff.mp hj
  exact List.pairwise_iff_getElem.mp h i j a b hl
theorem bj_step (K : SucOk suc U) {i : Nat} {e0 : α × St} {ys : List (α × Char)} {p : α × Char} {W : List (α × St)} (h : BJ suc U p0 i e0 ys W) (hp : p ∈ suc e0.1) (hys : ∀ q ∈ ys, q ∈ suc e0.1 ∧ q.2.toNat < p.2.toNat) : BJ suc U p0 i e0 (ys ++ [p]) (bfI e0.2 W p) := by
  have old : ∀ e ∈ W, e.1 = p.1 → ∃ s, (p.1, s) ∈ W ∧ sle s (e0.2 ++ [p.2]) := fun e he q => by
    refine ⟨e.2, by rw [← q]; exact he, .inr ?_⟩
    rcases h.src e he with rfl | ⟨i', hi', e', he', p', hp', rfl⟩ | ⟨p', hp', rfl⟩
    · exact slt_nil (by simp)
    · exact slt_app _ _ (pw_get h.srt he' h.at0 hi')
    · exact slt_end _ (hys p' hp').2
  unfold bfI
  by_cases hin : p.1 ∈ W.map (·.1)
  · rw [if_pos hin]
    obtain ⟨e, he, q⟩ := List.mem_map.mp hin
    exact { h with
      src := fun e he => by
        rcases h.src e he with q | q | ⟨p', hp', q⟩
        · exact .inl q
        · exact .inr (.inl q)
        · exact .inr (.inr ⟨p', List.mem_append_left _ hp', q⟩)
      dn2 := fun p' hp' => by
        rcases List.mem_append.mp hp' with hp' | hp'
        · exact h.dn2 p' hp'
        · rw [List.mem_singleton.mp hp']; exact old e he q }
  · rw [if_neg hin]
    have keep : ∀ j e, W[j]? = some e → (W ++ [(p.1, e0.2 ++ [p.2])])[j]? = some e := fun j e q => by
      rw [List.getElem?_append_left (List.getElem?_eq_some_iff.mp q).1]; exact q
    have back : ∀ j e, j < W.length → (W ++ [(p.1, e0.2 ++ [p.2])])[j]? = some e → W[j]? = some e := fun j e hj q => by
      rw [List.getElem?_append_left hj] at q; exact q
    exact {
      nd := by
        rw [List.map_append, List.nodup_append]
        refine ⟨h.nd, by simp, fun x hx y hy q => ?_⟩
        simp at hy
        subst hy; subst q
        exact hin hx
      sub := fun e he => by
        rcases List.mem_append.mp he with he | he
        · exact h.sub e he
        · rw [List.mem_singleton.mp he]; exact K.inU e0.1 (h.sub e0 (List.mem_of_getElem? h.at0)) p hp
      hd := keep _ _ h.hd
      lt := by rw [List.length_append]; have := h.lt; omega
      at0 := keep _ _ h.at0
      src := fun e he => by
        rcases List.mem_append.mp he with he | he
        · rcases h.src e he with q | ⟨i', hi', e', he', q⟩ | ⟨p', hp', q⟩
          · exact .inl q
          · exact .inr (.inl ⟨i', hi', e', keep _ _ he', q⟩)
          · exact .inr (.inr ⟨p', List.mem_append_left _ hp', q⟩)
        · exact .inr (.inr ⟨p, by simp, List.mem_singleton.mp he⟩)
      dn := fun i' hi' e' he' q hq => by
        obtain ⟨s, hs, l⟩ := h.dn i' hi' e' (back _ _ (by have := h.lt; omega) he') q hq
        exact ⟨s, List.mem_append_left _ hs, l⟩
      dn2 := fun p' hp' => by
        rcases List.mem_append.mp hp' with hp' | hp'
        · obtain ⟨s, hs, l⟩ := h.dn2 p' hp'
          exact ⟨s, List.mem_append_left _ hs, l⟩
        · rw [List.mem_singleton.mp hp']
          exact ⟨_, by simp, .inl rfl⟩
      srt := by
        rw [List.pairwise_append]
        refine ⟨h.srt, by simp, fun e he y hy => ?_⟩
        rw [List.mem_singleton.mp hy]
        show slt e.2 (e0.2 ++ [p.2])
        rcases h.src e he with rfl | ⟨i', hi', e', he', p', hp', rfl⟩ | ⟨p', hp', rfl⟩
        · exact slt_nil (by simp)
        · exact slt_app _ _ (pw_get h.srt he' h.at0 hi')
        · exact slt_end _ (hys p' hp').2
      lds := fun e he => by
        rcases List.mem_append.mp he with he | he
        · exact h.lds e he
        · rw [List.mem_singleton.mp he]
          exact .snoc (h.lds e0 (List.mem_of_getElem? h.at0)) hp }
theorem bj_of {W : List (α × St)} {i : Nat} {e0 : α × St} (h : BI suc U p0 W i) (he : W[i]? = some e0) : BJ suc U p0 i e0 [] W where
  nd := h.nd
  sub := h.sub
  hd := h.hd
  lt := (List.getElem?_eq_some_iff.mp he).1
  at0 := he
  src := fun e q => by
    rcases h.src e q with q | q
    · exact .inl q
    · exact .inr (.inl q)
  dn := h.dn
  dn2 := fun p hp => nomatch hp
  srt := h.srt
  lds := h.lds
theorem bi_of {W : List (α × St)} {i : Nat} {e0 : α × St} (h : BJ suc U p0 i e0 (suc e0.1) W) : BI suc U p0 W (i + 1) where
  nd := h.nd
  sub := h.sub
  hd := h.hd
  le := h.lt
  src := fun e q => by
    rcases h.src e q with q | ⟨i', hi', q⟩ | q
    · exact .inl q
    · exact .inr ⟨i', by omega, q⟩
    · exact .inr ⟨i, by omega, e0, h.at0, q⟩
  dn := fun i' hi' e' he' p hp => by
    by_cases q : i' = i
    · subst q
      rw [h.at0] at he'
      cases he'
      exact h.dn2 p hp
    · exact h.dn i' (by omega) e' he' p hp
  srt := h.srt
  lds := h.lds
end
end DI
namespace DI
open PySem
theorem ltS_lex : ∀ a b : St, ltS a b = lexB a b
  | [], [] => rfl
  | [], _ :: _ => by unfold ltS lexB; simp
  | _ :: _, [] => by unfold ltS lexB; simp
  | a :: as, b :: bs => by
    have ih := ltS_lex as bs
    unfold ltS at ih ⊢
    rw [lexB, List.map_cons, List.map_cons, ← ih]
    by_cases h : a.toNat < b.toNat
    · rw [if_pos h]
      exact decide_eq_true (List.cons_lt_cons_iff.mpr (.inl h))
    · rw [if_neg h]
      by_cases h2 : a.toNat = b.toNat
      · rw [if_pos h2]
        refine decide_eq_decide.mpr ?_
        rw [List.cons_lt_cons_iff]
        exact ⟨fun q => by rcases q with q | q; exact absurd q h; exact q.2, fun q => .inr ⟨h2, q⟩⟩
      · rw [if_neg h2]
        refine decide_eq_false ?_
        rw [List.cons_lt_cons_iff]
        rintro (q | q)
        · exact h q
        · exact h2 q.1
theorem ltIS_slt {a b : St} : ltIS ((a.length : Int), a) ((b.length : Int), b) = true ↔ slt a b := by
  unfold ltIS slt
  simp only
  by_cases h : (a.length : Int) = (b.length : Int)
  · rw [if_pos h, ltS_lex]
    exact ⟨fun q => .inr ⟨by omega, q⟩, fun q => by rcases q with q | q; omega; exact q.2⟩
  · rw [if_neg h, decide_eq_true_iff]
    exact ⟨fun q => .inl (by omega), fun q => by rcases q with q | q <;> omega⟩
end DI
namespace DI
open PySem
def layS (k : Nat) : Nat → List St
  | 0 => [[]]
  | j + 1 => (layS k j).flatMap fun s => ("abc".toList.take k).map fun c => s ++ [c]
def upS (k : Nat) : Nat → List St
  | 0 => []
  | j + 1 => upS k j ++ layS k j
section
variable {k j : Nat} {s : St} {c : Char}
theorem sgOk_init (h : SgOk k (s ++ [c])) : SgOk k s ∧ c ∈ "abc".toList.take k := ⟨fun d hd => h d (List.mem_append_left _ hd), h c (by simp)⟩
theorem snoc_cases (s : St) : s = [] ∨ ∃ t c, s = t ++ [c] := by
  cases e : s.getLast? with
  | none => exact .inl (List.getLast?_eq_none_iff.mp e)
  | some c => obtain ⟨t, q⟩ := List.getLast?_eq_some_iff.mp e; exact .inr ⟨t, c, q⟩
theorem mem_layS : ∀ {j : Nat} {s : St}, s ∈ layS k j ↔ s.length = j ∧ SgOk k s
  | 0, s => by
    unfold layS
    rw [List.mem_singleton]
    exact ⟨fun e => by subst e; exact ⟨rfl, fun c h => nomatch h⟩, fun e => List.length_eq_zero_iff.mp e.1⟩
  | j + 1, s => by
    unfold layS
    rw [List.mem_flatMap]
    constructor
    · rintro ⟨t, ht, hs⟩
      obtain ⟨c, hc, rfl⟩ := List.mem_map.mp hs
      obtain ⟨a, b⟩ := mem_layS.mp ht
      exact ⟨by simp [a], sgOk_snoc b hc⟩
    · rintro ⟨hl, hg⟩
      rcases snoc_cases s with rfl | ⟨t, c, rfl⟩
      · simp at hl
      · obtain ⟨a, b⟩ := sgOk_init hg
        exact ⟨t, mem_layS.mpr ⟨by simpa using hl, a⟩, List.mem_map.mpr ⟨c, b, rfl⟩⟩
theorem mem_upS : ∀ {j : Nat} {s : St}, s ∈ upS k j ↔ s.length < j ∧ SgOk k s
  | 0, s => by unfold upS; simp
  | j + 1, s => by
    unfold upS
    rw [List.mem_append, mem_upS, mem_layS]
    constructor
    · rintro (⟨a, b⟩ | ⟨a, b⟩) <;> exact ⟨by omega, b⟩
    · rintro ⟨a, b⟩
      by_cases q : s.length < j
      · exact .inl ⟨q, b⟩
      · exact .inr ⟨by omega, b⟩
theorem abc_ascT (k : Nat) : ("abc".toList.take k).Pairwise fun c d => c.toNat < d.toNat := by
  have : ("abc".toList).Pairwise fun c d => c.toNat < d.toNat := by decide
  exact this.sublist (List.take_sublist _ _)
end
end DI
namespace DI
open PySem
noncomputable def bhT (m : Mc) (t : Tab) (c : Char) : Tab := match f_p_behind t (sgV m c, sgV m c) with
  | .ok t' => t'
  | _ => t
noncomputable def tbU (m : Mc) (k N : Nat) : List Tab := (upS k N).map (tabV m)
noncomputable def stT (m : Mc) (k N : Nat) (t : Tab) (c : Char) : Tab := if bhT m t c ∈ tbU m k N then bhT m t c else t
noncomputable def sucT (m : Mc) (k N : Nat) : Suc Tab := fun t => ("abc".toList.take k).map fun c => (stT m k N t c, c)
section
variable {α : Type} [DecidableEq α] {suc : Suc α} {U : List α} {p0 : α}
theorem bi_slen {W : List (α × St)} {i : Nat} (B : BI suc U p0 W i) : ∀ (j : Nat) (e : α × St), W[j]? = some e → e.2.length ≤ j := by
  intro j
  induction j using Nat.strongRecOn with
  | ind j ih =>
    intro e he
    rcases B.src e (List.mem_of_getElem? he) with rfl | ⟨i', hi', e', he', p, hp, rfl⟩
    · simp
    · have lt : i' < j := by
        rcases Nat.lt_or_ge i' j with q | q
        · exact q
        · have sl : slt e'.2 (e'.2 ++ [p.2]) := slt_more _ _
          rcases Nat.lt_or_eq_of_le q with q | q
          · have := pw_get B.srt he he' q
            exact absurd (slt_tr sl this) (fun x => slt_irr x)
          · subst q
            rw [he] at he'
            have := congrArg (fun z : α × St => z.2.length) (Option.some.inj he')
            simp at this
      have := ih i' lt e' he'
      simp; omega
end
section
variable {n k N : Nat} {m : Mc} {s : St} {c : Char} {t : Tab}
theorem sucT_ok : SucOk (sucT m k N) (tbU m k N) where
  inU := fun x hx p hp => by
    obtain ⟨c, _, rfl⟩ := List.mem_map.mp hp
    show stT m k N x c ∈ _
    unfold stT
    split
    · assumption
    · exact hx
  asc := fun x => by
    unfold sucT
    rw [List.pairwise_map]
    exact abc_ascT k
theorem bhT_tab (hm : McOk n k m) (hs : SgOk k s) (hl : s.length ≤ 1000) (hn : n ≤ 900) (hc : c ∈ "abc".toList.take k) : bhT m (tabV m s) c = tabV m (s ++ [c]) := by
  unfold bhT; rw [behind_snoc hm hs hl hn hc]
theorem stT_tab (hm : McOk n k m) (hs : SgOk k s) (hN : s.length + 1 < N) (hN2 : N ≤ 1000) (hn : n ≤ 900) (hc : c ∈ "abc".toList.take k) : stT m k N (tabV m s) c = tabV m (s ++ [c]) := by
  unfold stT
  rw [bhT_tab hm hs (by omega) hn hc, if_pos]
  exact List.mem_map.mpr ⟨_, mem_upS.mpr ⟨by simp; omega, sgOk_snoc hs hc⟩, rfl⟩
theorem sucT_mem {t' : Tab} : (t', c) ∈ sucT m k N t ↔ c ∈ "abc".toList.take k ∧ t' = stT m k N t c := by
  unfold sucT
  rw [List.mem_map]
  constructor
  · rintro ⟨d, hd, e⟩; cases e; exact ⟨hd, rfl⟩
  · rintro ⟨h, rfl⟩; exact ⟨c, h, rfl⟩
theorem leads_tab (hm : McOk n k m) (hN2 : N ≤ 1000) (hn : n ≤ 900) (h : Leads (sucT m k N) (tabV m []) s t) : s.length < N → SgOk k s ∧ t = tabV m s := by
  induction h with
  | nil => exact fun _ => ⟨fun c h => (nomatch h), rfl⟩
  | @snoc s x y c hs hy ih =>
    intro hl
    have hl : s.length + 1 < N := by simpa using hl
    obtain ⟨a, rfl⟩ := ih (by omega)
    obtain ⟨hc, rfl⟩ := sucT_mem.mp hy
    exact ⟨sgOk_snoc a hc, stT_tab hm a hl hN2 hn hc⟩
theorem tab0_U (hN : 0 < N) : tabV m [] ∈ tbU m k N := List.mem_map.mpr ⟨[], mem_upS.mpr ⟨hN, fun c h => nomatch h⟩, rfl⟩
structure AllT (m : Mc) (k : Nat) (W : List (Tab × St)) : Prop where
  le : W.length ≤ 300
  nd : (W.map (·.1)).Nodup
  srt : W.Pairwise fun e e' => slt e.2 e'.2
  tab : ∀ e ∈ W, SgOk k e.2 ∧ e.1 = tabV m e.2 ∧ e.2.length ≤ 300
  all : ∀ t : St, SgOk k t → t.length ≤ 1000 → ∃ s, (tabV m t, s) ∈ W ∧ sle s t
theorem allT_of (hm : McOk n k m) (hN : 302 ≤ N) (hN2 : N ≤ 1000) (hn : n ≤ 900) {W : List (Tab × St)} (B : BI (sucT m k N) (tbU m k N) (tabV m []) W W.length) (hl : W.length ≤ 300) : AllT m k W := by
  have tab : ∀ e ∈ W, SgOk k e.2 ∧ e.1 = tabV m e.2 ∧ e.2.length ≤ 299 := fun e he => by
    obtain ⟨j, hj⟩ := List.getElem?_of_mem he
    have l1 := bi_slen B j e hj
    have := (List.getElem?_eq_some_iff.mp hj).1
    have q := leads_tab hm hN2 hn (B.lds e he) (by omega)
    exact ⟨q.1, q.2, by omega⟩
  refine ⟨hl, B.nd, B.srt, fun e he => ⟨(tab e he).1, (tab e he).2.1, by have := (tab e he).2.2; omega⟩, ?_⟩
  have key : ∀ (L : Nat) (t : St), t.length = L → SgOk k t → t.length ≤ 1000 → ∃ s, (tabV m t, s) ∈ W ∧ sle s t := by
    intro L
    induction L with
    | zero =>
      intro t e _ _
      have := List.length_eq_zero_iff.mp e
      subst this
      exact ⟨[], List.mem_of_getElem? B.hd, .inl rfl⟩
    | succ L ih =>
      intro t e hg hle
      rcases snoc_cases t with rfl | ⟨t, c, rfl⟩
      · simp at e
      · have e : t.length = L := by simpa using e
        have hle : t.length + 1 ≤ 1000 := by simpa using hle
        obtain ⟨a, hc⟩ := sgOk_init hg
        obtain ⟨s, hs, ls⟩ := ih t e a (by omega)
        obtain ⟨g1, g2, g3⟩ := tab _ hs
        simp only at g1 g2 g3
        obtain ⟨i, hi⟩ := List.getElem?_of_mem hs
        obtain ⟨s2, h2, l2⟩ := B.dn i (List.getElem?_eq_some_iff.mp hi).1 _ hi (stT m k N (tabV m t) c, c) (sucT_mem.mpr ⟨hc, rfl⟩)
        have e2 : stT m k N (tabV m t) c = tabV m (t ++ [c]) := by
          have : tabV m (s ++ [c]) = tabV m (t ++ [c]) := by
            rw [← bhT_tab hm g1 (by omega) hn hc, ← bhT_tab hm a (by omega) hn hc, g2]
          rw [g2, stT_tab hm g1 (by omega) hN2 hn hc, this]
        rw [e2] at h2
        exact ⟨s2, h2, sle_tr l2 (sle_app c ls)⟩
  exact fun t hg hle => key t.length t rfl hg hle
end
end DI
namespace DI
open PySem
section
variable {n k N : Nat} {m : Mc}
def swP {α β : Type} (e : α × β) : β × α := (e.2, e.1)
def ManyT (m : Mc) (k : Nat) : Prop := ∃ T : List Tab, T.length = 301 ∧ T.Nodup ∧ ∀ t ∈ T, ∃ s : St, SgOk k s ∧ s.length ≤ 1000 ∧ t = tabV m s
theorem all_tables_ok (hm : McOk n k m) (hn0 : 0 < n) (hn : n ≤ 900) (hk : k ≤ 3) (hN : 302 ≤ N) (hN2 : N ≤ 1000) : (∃ W, f_p_all_tables m = .ok (W.map swP) ∧ AllT m k W) ∨ (f_p_all_tables m = .err 3 [] ∧ ManyT m k) := by
  have K := sucT_ok (m := m) (k := k) (N := N)
  have hlen := hm.len
  have abl : ("abc".toList.take k).length = k := by rw [List.length_take]; show min k 3 = k; omega
  have cut : cutL "abc".toList none (some (k : Int)) = "abc".toList.take k := by
    rcases (show k = 0 ∨ k = 1 ∨ k = 2 ∨ k = 3 by omega) with rfl | rfl | rfl | rfl <;> rfl
  have main : (∃ a, f_p_all_tables m = .ok a ∧ ∃ W, a = W.map swP ∧ AllT m k W) ∨ ∃ c fs, f_p_all_tables m = .err c fs ∧ c = 3 ∧ fs = [] ∧ ManyT m k := by
    unfold f_p_all_tables
    refine we_run (Q := fun a => ∃ W, a = W.map swP ∧ AllT m k W) (X := fun c fs => c = 3 ∧ fs = [] ∧ ManyT m k) ?_
    simp only [R.bind_ok, okN, signs_of_ok hm hn0, cut]
    rw [szT_ok _ (by decide), R.bind_ok, R.bind_ok, cmT_ok (F := fun sign => (f_p_sign_table m ([sign])).bind fun v => R.ok ((sign, v))) (fun c => (c, (sgV m c, sgV m c))) (fun c hc => by rw [sign_table_ok hm hn0 hn hc]; rfl) (by rw [abl]; omega), bnd_ok]
    rw [show ((m.length : Nat) : Int) = (m.length : Int) from rfl, still_ok m (by omega)]
    simp only [R.bind_ok]
    rw [szT_ok _ (by simp), bnd_ok, show ofR (L2.atI [("".toList, tabV m [])] 0) = .ok ("".toList, tabV m []) from rfl]
    simp only [R.bind_ok, bnd_ok]
    refine we_whl (fun (s : List (St × Tab) × List (Tab × Bool) × Int) => ∃ (W : List (Tab × St)) (i : Nat), s.2.2 = (i : Int) ∧ s.1 = W.map swP ∧ s.2.1 = W.map (fun e => (e.1, true)) ∧ W.length ≤ 300 ∧ BI (sucT m k N) (tbU m k N) (tabV m []) W i)
      (fun s => 301 - s.2.2.toNat) (fun s => ∃ W, s.1 = W.map swP ∧ AllT m k W) ⟨[(tabV m [], [])], 0, rfl, rfl, rfl, by simp, bi_init (tab0_U (by omega))⟩ ?_ ?_
    · rintro ⟨fd, met, at_⟩ ⟨W, i, e1, e2, e3, hW, B⟩
      simp only at e1 e2 e3
      subst e1; subst e2; subst e3
      by_cases hlt : i < W.length
      · refine .inr ⟨by show R.ok (decide ((i : Int) < ((W.map swP).length : Int))) = _; rw [List.length_map, decide_eq_true (by omega)], ?_⟩
        obtain ⟨e0, he0⟩ : ∃ e0, W[i]? = some e0 := ⟨_, List.getElem?_eq_getElem hlt⟩
        have sl := bi_slen B i e0 he0
        obtain ⟨g1, g2⟩ := leads_tab hm hN2 hn (B.lds e0 (List.mem_of_getElem? he0)) (by omega)
        have el : ofR (L2.atI (W.map swP) (i : Int)) = .ok (swP e0) := at_nat (by rw [List.getElem?_map, he0]; rfl)
        show We (bnd _ _) _ _ _ _ _
        rw [el, bnd_ok]
        show We (O.thn (forT _ _ _) _) _ _ _ _ _
        refine we_for (fun j (s : List (St × Tab) × List (Tab × Bool)) => ∃ W1 : List (Tab × St), s.1 = W1.map swP ∧ s.2 = W1.map (fun e => (e.1, true)) ∧ W1.length ≤ 300 ∧ BJ (sucT m k N) (tbU m k N) (tabV m []) i e0 ((sucT m k N e0.1).take j) W1) ⟨W, rfl, rfl, hW, bj_of B he0⟩ ?_ ?_
        · rintro j ⟨c, stp⟩ ⟨fd1, met1⟩ hx ⟨W1, d1, d2, d3, d4⟩
          simp only at d1 d2
          subst d1; subst d2
          rw [List.getElem?_map] at hx
          obtain ⟨c', hc', ex⟩ := Option.map_eq_some_iff.mp hx
          cases ex
          have hc := List.mem_of_getElem? hc'
          have gs : (sucT m k N e0.1)[j]? = some (tabV m (e0.2 ++ [c]), c) := by
            unfold sucT
            rw [List.getElem?_map, hc', g2]
            show some (stT m k N (tabV m e0.2) c, c) = _
            rw [stT_tab hm g1 (by omega) hN2 hn hc]
          have tk : (sucT m k N e0.1).take (j + 1) = (sucT m k N e0.1).take j ++ [(tabV m (e0.2 ++ [c]), c)] := by
            rw [List.take_add_one, gs]; rfl
          have step := bj_step K d4 (p := (tabV m (e0.2 ++ [c]), c)) (List.mem_of_getElem? gs) (fun q hq => by
            obtain ⟨jq, hjq⟩ := List.getElem?_of_mem hq
            rw [List.getElem?_take] at hjq
            split at hjq
            · rename_i hlt2
              exact ⟨List.mem_of_getElem? hjq, pw_get (K.asc e0.1) hjq gs hlt2⟩
            · cases hjq)
          rw [← tk] at step
          show We (bnd (f_p_behind e0.1 (sgV m c, sgV m c)) _) _ _ _ _ _
          rw [show f_p_behind e0.1 (sgV m c, sgV m c) = .ok (tabV m (e0.2 ++ [c])) by rw [g2]; exact behind_snoc hm g1 (by omega) hn hc, bnd_ok]
          by_cases hin : tabV m (e0.2 ++ [c]) ∈ W1.map (·.1)
          · have hh : hasT (W1.map fun e => (e.1, true)) (tabV m (e0.2 ++ [c])) = true := hasT_iff.mpr (by rw [List.map_map]; exact hin)
            rw [hh, if_neg (by decide)]
            have e : bfI e0.2 W1 (tabV m (e0.2 ++ [c]), c) = W1 := if_pos hin
            rw [e] at step
            exact ⟨W1, rfl, rfl, d3, step⟩
          · have hni : tabV m (e0.2 ++ [c]) ∉ (W1.map fun e => (e.1, true)).map (·.1) := by rw [List.map_map]; exact hin
            have hh : hasT (W1.map fun e => (e.1, true)) (tabV m (e0.2 ++ [c])) = false := by
              cases q : hasT (W1.map fun e => (e.1, true)) (tabV m (e0.2 ++ [c])) with
              | false => rfl
              | true => exact absurd (hasT_iff.mp q) hni
            rw [hh, if_pos (by decide), List.length_map]
            by_cases h3 : ((W1.length : Nat) : Int) = 300
            · rw [if_pos (by rw [decide_eq_true h3])]
              refine ⟨rfl, rfl, W1.map (·.1) ++ [tabV m (e0.2 ++ [c])], by rw [List.length_append, List.length_map, List.length_singleton]; omega, ?_, fun t ht => ?_⟩
              · rw [List.nodup_append]
                exact ⟨d4.nd, by simp, fun a ha b hb e => hin (by rw [List.mem_singleton.mp hb] at e; rw [← e]; exact ha)⟩
              · rcases List.mem_append.mp ht with ht | ht
                · obtain ⟨e, he, rfl⟩ := List.mem_map.mp ht
                  obtain ⟨s, hs, q⟩ := List.mem_map.mp (d4.sub e he)
                  obtain ⟨q1, q2⟩ := mem_upS.mp hs
                  exact ⟨s, q2, by omega, q.symm⟩
                · exact ⟨e0.2 ++ [c], sgOk_snoc g1 hc, by rw [List.length_append, List.length_singleton]; omega, List.mem_singleton.mp ht⟩
            · rw [if_neg (by rw [decide_eq_false h3]; decide)]
              simp only [bnd_ok]
              have e : bfI e0.2 W1 (tabV m (e0.2 ++ [c]), c) = W1 ++ [(tabV m (e0.2 ++ [c]), e0.2 ++ [c])] := if_neg hin
              rw [e] at step
              rw [puT_ok _ _ (by rw [List.length_map]; omega), putT_new hni, bnd_ok]
              show We (bnd _ _) _ _ _ _ _
              rw [show (swP e0).1 = e0.2 from rfl, szT_ok _ (by simp; omega), R.bind_ok, bnd_ok, apT_ok _ (by rw [List.length_map]; omega), bnd_ok]
              exact ⟨W1 ++ [(tabV m (e0.2 ++ [c]), e0.2 ++ [c])], by simp [swP], by simp, by simp; omega, step⟩
        · rintro ⟨fd1, met1⟩ ⟨W1, d1, d2, d3, d4⟩
          simp only at d1 d2
          subst d1; subst d2
          rw [List.length_map, abl] at d4
          have full : (sucT m k N e0.1).take k = sucT m k N e0.1 := List.take_of_length_le (by unfold sucT; rw [List.length_map, abl]; omega)
          rw [full] at d4
          refine ⟨⟨W1, i + 1, by show (i : Int) + 1 = _; omega, rfl, rfl, d3, bi_of d4⟩, ?_⟩
          show 301 - ((i : Int) + 1).toNat < 301 - ((i : Int)).toNat
          omega
      · have : i = W.length := by have := B.le; omega
        subst this
        exact .inl ⟨by show R.ok (decide ((W.length : Int) < ((W.map swP).length : Int))) = _; rw [List.length_map, decide_eq_false (by omega)], W, rfl, allT_of hm hN hN2 hn B hW⟩
    · rintro ⟨fd, met, at_⟩ ⟨W, e1, a⟩
      simp only at e1
      subst e1
      exact ⟨W, rfl, a⟩
  rcases main with ⟨a, e, W, rfl, q⟩ | ⟨c, fs, e, rfl, rfl, q⟩
  · exact .inl ⟨W, e, q⟩
  · exact .inr ⟨e, q⟩
end
end DI
namespace DI
open PySem
section
variable {n k : Nat} {m : Mc} {s t : St} {one other : Tab}
def ThOk (n : Nat) (th : Th) : Prop := ∀ w r, th = some (w, r) → (0 ≤ r ∧ r < n) ∧ (w = 1 ∨ w = -1)
structure TbOk (n : Nat) (T : Tab) : Prop where
  l1 : T.1.length = n
  l2 : T.2.length = n
  o1 : ∀ x ∈ T.1, ThOk n x
  o2 : ∀ x ∈ T.2, ThOk n x
theorem win_th (hm : McOk n k m) (hs : SgOk k s) (hl : s.length ≤ 1000) {p : Int × Int} (hp : StOk n s.length p) : ThOk n (winV m s p) := fun w r e => by
  obtain ⟨_, b⟩ := left_on (t := []) hm hs hl hp
  obtain ⟨hr, ⟨rfl, _⟩ | ⟨rfl, _⟩⟩ := b w r e
  · exact ⟨hr, .inl rfl⟩
  · exact ⟨hr, .inr rfl⟩
theorem tab_tb (hm : McOk n k m) (hs : SgOk k s) (hl : s.length ≤ 1000) : TbOk n (tabV m s) where
  l1 := by rw [tab_l1, hm.len]
  l2 := by rw [tab_l2, hm.len]
  o1 := fun x hx => by
    obtain ⟨q, hq, rfl⟩ := List.mem_map.mp (show x ∈ (rg 0 m.length).map fun r => winV m s (1, r) from hx)
    have := mem_rg.mp hq
    have hlen := hm.len
    exact win_th hm hs hl (stOk1 ⟨this.1, by omega⟩)
  o2 := fun x hx => by
    obtain ⟨q, hq, rfl⟩ := List.mem_map.mp (show x ∈ (rg 0 m.length).map fun r => winV m s ((s.length : Int), r) from hx)
    have := mem_rg.mp hq
    have hlen := hm.len
    exact win_th hm hs hl (stOkL ⟨this.1, by omega⟩)
abbrev BS := Int × Int × Int
def bxS (at_ : Int) : Th → BS ⊕ Th
  | none => .inr none
  | some (w, r) => .inl (at_ + w, w, r)
def bxT (one other : Tab) (x : BS) : Th := if x.1 = 0 then (if x.2.1 < 0 then one.2.getD x.2.2.toNat none else one.1.getD x.2.2.toNat none) else if x.2.1 < 0 then other.2.getD x.2.2.toNat none else other.1.getD x.2.2.toNat none
def bxF (one other : Tab) (x : BS) : BS ⊕ Th := if 0 ≤ x.1 ∧ x.1 < 2 then bxS x.1 (bxT one other x) else .inr (some (x.2.1, x.2.2))
structure BxOk (n : Nat) (x : BS) : Prop where
  w : x.2.1 = 1 ∨ x.2.1 = -1
  r0 : 0 ≤ x.2.2
  r1 : x.2.2 < n
def bxL (n : Nat) : List BS := (rg 0 n).flatMap fun r => [(0, 1, r), (0, -1, r), (1, 1, r), (1, -1, r)]
theorem bxL_len : (bxL n).length = n * 4 := by
  unfold bxL
  rw [flat_len _ 4 _ (fun _ _ => rfl), rg_len]
theorem bx_mem {x : BS} (h : BxOk n x) (h2 : 0 ≤ x.1 ∧ x.1 < 2) : x ∈ bxL n := by
  unfold bxL
  rw [List.mem_flatMap]
  obtain ⟨a, w, r⟩ := x
  refine ⟨r, mem_rg.mpr ⟨h.r0, h.r1⟩, ?_⟩
  have hw := h.w
  simp only at hw h2
  rcases (show a = 0 ∨ a = 1 by omega) with rfl | rfl <;> rcases hw with rfl | rfl <;> simp
theorem bxT_ok (a : TbOk n one) (b : TbOk n other) {x : BS} (h : BxOk n x) : ThOk n (bxT one other x) := by
  have g : ∀ (L : List Th), L.length = n → (∀ y ∈ L, ThOk n y) → ThOk n (L.getD x.2.2.toNat none) := fun L hl ho => by
    have := h.r0
    have := h.r1
    have hlt : x.2.2.toNat < L.length := by omega
    rw [List.getD_eq_getElem?_getD, List.getElem?_eq_getElem hlt]
    exact ho _ (List.getElem_mem hlt)
  unfold bxT
  split <;> split
  · exact g _ a.l2 a.o2
  · exact g _ a.l1 a.o1
  · exact g _ b.l2 b.o2
  · exact g _ b.l1 b.o1
theorem bx_at (a : TbOk n one) (b : TbOk n other) {x : BS} (h : BxOk n x) (h2 : 0 ≤ x.1 ∧ x.1 < 2) : ((((ofR (L2.atI [one, other] x.1)).bind fun u => R.ok ((fun p => [ p.1,  p.2]) u)).bind fun u => ofR (L2.atI u (if (decide (x.2.1 < 0)) = true then 1 else 0))).bind fun u => ofR (L2.atI u x.2.2)) = R.ok (bxT one other x) := by
  have g : ∀ (L : List Th), L.length = n → ofR (L2.atI L x.2.2) = .ok (L.getD x.2.2.toNat none) := fun L hl => by
    have := h.r0
    have := h.r1
    have hlt : x.2.2.toNat < L.length := by omega
    rw [List.getD_eq_getElem?_getD, List.getElem?_eq_getElem hlt]
    exact at_get h.r0 (List.getElem?_eq_getElem hlt)
  unfold bxT
  rcases (show x.1 = 0 ∨ x.1 = 1 by omega) with e | e
  · rw [e, show ofR (L2.atI [one, other] 0) = .ok one from rfl, R.bind_ok, R.bind_ok, if_pos rfl]
    by_cases hw : x.2.1 < 0
    · rw [if_pos (decide_eq_true hw), if_pos hw, show ofR (L2.atI [one.1, one.2] 1) = .ok one.2 from rfl, R.bind_ok, g _ a.l2]
    · rw [if_neg (by rw [decide_eq_true_eq]; exact hw), if_neg hw, show ofR (L2.atI [one.1, one.2] 0) = .ok one.1 from rfl, R.bind_ok, g _ a.l1]
  · rw [e, show ofR (L2.atI [one, other] 1) = .ok other from rfl, R.bind_ok, R.bind_ok, if_neg (show ¬ (1 : Int) = 0 by decide)]
    by_cases hw : x.2.1 < 0
    · rw [if_pos (decide_eq_true hw), if_pos hw, show ofR (L2.atI [other.1, other.2] 1) = .ok other.2 from rfl, R.bind_ok, g _ b.l2]
    · rw [if_neg (by rw [decide_eq_true_eq]; exact hw), if_neg hw, show ofR (L2.atI [other.1, other.2] 0) = .ok other.1 from rfl, R.bind_ok, g _ b.l1]
theorem l_out_ok (hn : n ≤ 900) (a : TbOk n one) (b : TbOk n other) {x : BS} (hx : BxOk n x) : f_l_out [one, other] x.1 x.2.1 x.2.2 = .ok (val (bxF one other) x) := by
  unfold f_l_out
  refine wp_eq ?_
  rw [bnd_ok]
  have hN : (bxL n).length < 1000000 := by rw [bxL_len]; omega
  refine wp_whl (fun (y : Int × Int × Int × List (BS × Bool)) => BxOk n (y.1, y.2.1, y.2.2.1) ∧ MetI (bxF one other) (bxL n) x (y.1, y.2.1, y.2.2.1) y.2.2.2) (fun y => (bxL n).length + 1 - y.2.2.2.length)
    (fun y => val (bxF one other) x = some (y.2.1, y.2.2.1)) ⟨hx, .start x⟩ ?_ ?_
  · rintro ⟨at_, way, room, met⟩ ⟨so, mi⟩
    simp only at so mi
    have l2 : (([one, other].length : Nat) : Int) = 2 := rfl
    simp only [l2]
    by_cases hlt : 0 ≤ at_ ∧ at_ < 2
    · refine .inr ⟨by rw [decide_eq_true hlt.1, decide_eq_true hlt.2]; rfl, ?_⟩
      by_cases hh : hasT met (at_, way, room) = true
      · rw [if_pos hh]
        show _ = val (bxF one other) x
        rw [val_of (mi.rep hh)]; rfl
      · rw [if_neg hh]
        have hf : hasT met (at_, way, room) = false := by simpa using hh
        have ml := mi.len
        obtain ⟨_, _, lk, _⟩ := mi.mem hf (bx_mem so hlt)
        have fe : bxF one other (at_, way, room) = bxS at_ (bxT one other (at_, way, room)) := if_pos hlt
        have ea := bx_at a b so hlt
        simp only at ea
        have ot := bxT_ok a b so
        simp only [bnd_ok, puT_ok (kvs := met) _ _ (by omega), ea]
        cases hv : bxT one other (at_, way, room) with
        | none =>
          rw [hv] at fe
          show none = val (bxF one other) x
          rw [val_of (mi.out fe)]; rfl
        | some q =>
          obtain ⟨w, r⟩ := q
          rw [hv] at fe ot
          obtain ⟨hr, hw⟩ := ot w r rfl
          exact show _ ∧ _ from ⟨⟨⟨hw, hr.1, hr.2⟩, mi.next hf (bx_mem so hlt) fe⟩, by show _ - (putT met (at_, way, room) true).length < _; omega⟩
    · have fe : bxF one other (at_, way, room) = .inr (some (way, room)) := if_neg hlt
      refine .inl ⟨?_, ?_⟩
      · by_cases h0 : 0 ≤ at_
        · rw [decide_eq_true h0, decide_eq_false (by omega)]; rfl
        · rw [decide_eq_false h0]; rfl
      · show val (bxF one other) x = _
        rw [val_of (mi.out fe)]; rfl
  · rintro ⟨at_, way, room, met⟩ e
    exact e.symm
def fB (q : Bool × Int) : BS := if q.1 = true then (0, -1, q.2) else (1, 1, q.2)
theorem bx_exit {a w r : Int} (h : ¬ (0 ≤ a ∧ a < 2)) : val (bxF one other) (a, w, r) = some (w, r) := val_inr (if_neg h)
theorem bxT_t {r : Int} : bxT one other (0, -1, r) = one.2.getD r.toNat none := by
  unfold bxT; rw [if_pos rfl, if_pos (by show (-1 : Int) < 0; decide)]
theorem bxT_f {r : Int} : bxT one other (1, 1, r) = other.1.getD r.toNat none := by
  unfold bxT; rw [if_neg (by show ¬ (1 : Int) = 0; decide), if_neg (by show ¬ (1 : Int) < 0; decide)]
theorem bx_fol (a : TbOk n one) (b : TbOk n other) {q : Bool × Int} (hq : RB n q) : val (folF one other) q = val (bxF one other) (fB q) := by
  have key : ∀ q : Bool × Int, RB n q → (∀ o, folF one other q = .inr o → val (bxF one other) (fB q) = o) ∧ ∀ u, folF one other q = .inl u → RB n u ∧ bxF one other (fB q) = .inl (fB u) := by
    rintro ⟨b', r⟩ ⟨h0, h1⟩
    cases b' with
    | true =>
      have e : folF one other (true, r) = folS true (one.2.getD r.toNat none) := rfl
      have ot := bxT_ok a b (x := (0, -1, r)) ⟨.inr rfl, h0, h1⟩
      have fe : bxF one other (0, -1, r) = bxS 0 (bxT one other (0, -1, r)) := if_pos (by show (0 : Int) ≤ 0 ∧ (0 : Int) < 2; decide)
      rw [e]
      show (∀ o, _ → val _ (0, -1, r) = o) ∧ ∀ u, _ → _ ∧ bxF one other (0, -1, r) = _
      rw [bxT_t] at ot fe
      cases hv : one.2.getD r.toNat none with
      | none =>
        rw [hv] at fe
        refine ⟨fun o e => ?_, fun u e => (by cases e)⟩
        cases e
        exact val_inr fe
      | some x =>
        obtain ⟨w, r'⟩ := x
        rw [hv] at fe ot
        obtain ⟨hr, rfl | rfl⟩ := ot w r' rfl
        · refine ⟨fun o e => (by cases e), fun u e => ?_⟩
          cases e
          exact ⟨hr, fe⟩
        · refine ⟨fun o e => ?_, fun u e => (by cases e)⟩
          cases e
          rw [val_inl fe]
          exact bx_exit (by show ¬ ((0 : Int) ≤ 0 + -1 ∧ _); decide)
    | false =>
      have e : folF one other (false, r) = folS false (other.1.getD r.toNat none) := rfl
      have ot := bxT_ok a b (x := (1, 1, r)) ⟨.inl rfl, h0, h1⟩
      have fe : bxF one other (1, 1, r) = bxS 1 (bxT one other (1, 1, r)) := if_pos (by show (0 : Int) ≤ 1 ∧ (1 : Int) < 2; decide)
      rw [e]
      show (∀ o, _ → val _ (1, 1, r) = o) ∧ ∀ u, _ → _ ∧ bxF one other (1, 1, r) = _
      rw [bxT_f] at ot fe
      cases hv : other.1.getD r.toNat none with
      | none =>
        rw [hv] at fe
        refine ⟨fun o e => ?_, fun u e => (by cases e)⟩
        cases e
        exact val_inr fe
      | some x =>
        obtain ⟨w, r'⟩ := x
        rw [hv] at fe ot
        obtain ⟨hr, rfl | rfl⟩ := ot w r' rfl
        · refine ⟨fun o e => ?_, fun u e => (by cases e)⟩
          cases e
          rw [val_inl fe]
          exact bx_exit (by show ¬ (_ ∧ (1 : Int) + 1 < 2); decide)
        · refine ⟨fun o e => (by cases e), fun u e => ?_⟩
          cases e
          exact ⟨hr, fe⟩
  exact val_great (P := RB n) (fun s t hs e => ((key s hs).2 t e).1) (fun s o hs e => (key s hs).1 o e) (fun s t hs e => ⟨0, fB t, ((key s hs).2 t e).2, rfl⟩) hq
theorem get_map {L : List Th} {F : Th → Th} (hl : L.length = n) : (rg 0 n).map (fun r => F (L.getD r.toNat none)) = L.map F := by
  apply List.ext_getElem?
  intro i
  rw [List.getElem?_map, List.getElem?_map, rg_get]
  by_cases hi : i < n
  · rw [if_pos hi, List.getElem?_eq_getElem (by omega)]
    show some (F (L.getD (0 + (i : Int)).toNat none)) = _
    rw [show (0 + (i : Int)).toNat = i by omega, List.getD_eq_getElem?_getD, List.getElem?_eq_getElem (by omega)]
    rfl
  · rw [if_neg hi, List.getElem?_eq_none (by omega)]; rfl
theorem boxes_ok (hn : n ≤ 900) (a : TbOk n one) (b : TbOk n other) : f_l_boxes [one, other] (n : Int) = f_p_behind one other := by
  have fol := fun b' th (h : ThOk n th) => followed_ok (one := one) (other := other) hn a.l2 b.l1 (fun x hx w r e => (a.o2 x hx w r e).1) (fun x hx w r e => (b.o1 x hx w r e).1) b' th (fun w r e => (h w r e).1)
  have c1 : cmT (rg 0 n) (fun room => f_l_out [one, other] 0 1 room) = .ok (one.1.map (folR one other false)) := by
    rw [← get_map a.l1]
    refine cmT_ok (fun r : Int => folR one other false (one.1.getD r.toNat none)) (fun r hr => ?_) (by rw [rg_len]; omega)
    have hr := mem_rg.mp hr
    have so : BxOk n (0, 1, r) := ⟨.inl rfl, hr.1, hr.2⟩
    rw [show f_l_out [one, other] 0 1 r = .ok (val (bxF one other) (0, 1, r)) from l_out_ok hn a b so]
    have fe : bxF one other (0, 1, r) = bxS 0 (bxT one other (0, 1, r)) := if_pos (by show (0 : Int) ≤ 0 ∧ (0 : Int) < 2; decide)
    have ot := bxT_ok a b so
    have e : bxT one other (0, 1, r) = one.1.getD r.toNat none := by
      unfold bxT; rw [if_pos rfl, if_neg (by show ¬ (1 : Int) < 0; decide)]
    rw [e] at fe ot
    cases hv : one.1.getD r.toNat none with
    | none => rw [hv] at fe; rw [val_inr fe]; rfl
    | some x =>
      obtain ⟨w, r'⟩ := x
      rw [hv] at fe ot
      rw [val_inl fe, folR_some]
      obtain ⟨hr', rfl | rfl⟩ := ot w r' rfl
      · rw [if_neg (by decide), bx_fol a b (q := (false, r')) hr']
        rfl
      · rw [if_pos (by decide), bx_exit (by show ¬ ((0 : Int) ≤ 0 + -1 ∧ _); decide)]
  have c2 : cmT (rg 0 n) (fun room => f_l_out [one, other] (((([one, other] : List Tab).length : Int)) - 1) (-1) room) = .ok (other.2.map (folR one other true)) := by
    rw [← get_map b.l2]
    refine cmT_ok (fun r : Int => folR one other true (other.2.getD r.toNat none)) (fun r hr => ?_) (by rw [rg_len]; omega)
    have hr := mem_rg.mp hr
    have so : BxOk n (1, -1, r) := ⟨.inr rfl, hr.1, hr.2⟩
    rw [show f_l_out [one, other] (((([one, other] : List Tab).length : Int)) - 1) (-1) r = .ok (val (bxF one other) (1, -1, r)) from l_out_ok hn a b so]
    have fe : bxF one other (1, -1, r) = bxS 1 (bxT one other (1, -1, r)) := if_pos (by show (0 : Int) ≤ 1 ∧ (1 : Int) < 2; decide)
    have ot := bxT_ok a b so
    have e : bxT one other (1, -1, r) = other.2.getD r.toNat none := by
      unfold bxT; rw [if_neg (by show ¬ (1 : Int) = 0; decide), if_pos (by show (-1 : Int) < 0; decide)]
    rw [e] at fe ot
    cases hv : other.2.getD r.toNat none with
    | none => rw [hv] at fe; rw [val_inr fe]; rfl
    | some x =>
      obtain ⟨w, r'⟩ := x
      rw [hv] at fe ot
      rw [val_inl fe, folR_some]
      obtain ⟨hr', rfl | rfl⟩ := ot w r' rfl
      · rw [if_pos (by decide), bx_exit (by show ¬ (_ ∧ (1 : Int) + 1 < 2); decide)]
      · rw [if_neg (by decide), bx_fol a b (q := (true, r')) hr']
        rfl
  unfold f_l_boxes f_p_behind
  rw [rngT_nat (by omega), R.bind_ok, R.bind_ok, c1, bnd_ok, c2, bnd_ok,
    cmT_ok (F := fun thing => f_p_followed one other thing false) (folR one other false) (fun x hx => fol false x (a.o1 x hx)) (by rw [a.l1]; omega), bnd_ok,
    cmT_ok (F := fun thing => f_p_followed one other thing true) (folR one other true) (fun x hx => fol true x (b.o2 x hx)) (by rw [b.l2]; omega), bnd_ok]
theorem boxes_app (hm : McOk n k m) (hs : SgOk k s) (hl : s.length ≤ 1000) (ht : SgOk k t) (hl2 : t.length ≤ 1000) (hn : n ≤ 900) : f_l_boxes [tabV m s, tabV m t] (m.length : Int) = .ok (tabV m (s ++ t)) := by
  rw [hm.len, boxes_ok hn (tab_tb hm hs hl) (tab_tb hm ht hl2), behind_app hm hs hl ht hl2 hn]
end
end DI
namespace DI
open PySem
section
variable {n k N : Nat} {m : Mc}
theorem one_stp (hm : McOk n k m) {c : Char} (hc : c ∈ "abc".toList.take k) : SgOk k [c] := fun d hd => by rw [List.mem_singleton.mp hd]; exact hc
def CntR (m : Mc) (k N : Nat) (W : List (Tab × St)) : Prop := (300 < W.length ∧ (W.map (·.1)).Nodup ∧ ∀ e ∈ W, ∃ s : St, SgOk k s ∧ s.length ≤ 1000 ∧ e.1 = tabV m s) ∨ AllT m k W
theorem counted_ok (hm : McOk n k m) (hn0 : 0 < n) (hn : n ≤ 900) (hk : k ≤ 3) (hN : 400 ≤ N) (hN2 : N ≤ 1000) : ∃ W, f_l_counted m (k : Int) 300 = .ok (W.length : Int) ∧ CntR m k N W := by
  have K := sucT_ok (m := m) (k := k) (N := N)
  have hlen := hm.len
  have abl : ("abc".toList.take k).length = k := by rw [List.length_take]; show min k 3 = k; omega
  have cut : cutL "abc".toList none (some (k : Int)) = "abc".toList.take k := by
    rcases (show k = 0 ∨ k = 1 ∨ k = 2 ∨ k = 3 by omega) with rfl | rfl | rfl | rfl <;> rfl
  have main : ∃ a, f_l_counted m (k : Int) 300 = .ok a ∧ ∃ W, a = (W.length : Int) ∧ CntR m k N W := by
    unfold f_l_counted
    refine wp_run (Q := fun a => ∃ W : List (Tab × St), a = (W.length : Int) ∧ CntR m k N W) ?_
    simp only [R.bind_ok, cut]
    rw [szT_ok _ (by decide), R.bind_ok, R.bind_ok, cmT_ok (F := fun sign => f_l_table m ([sign])) (fun c => tabV m [c]) (fun c hc => l_table_ok hm (one_stp hm hc) (by show (1 : Nat) ≤ 1000; omega) hn) (by rw [abl]; omega), bnd_ok]
    rw [show ("".toList : St) = [] from rfl, l_table_ok (s := []) hm (fun c h => nomatch h) (by show (0 : Nat) ≤ 1000; omega) hn]
    simp only [R.bind_ok]
    rw [szT_ok _ (by show (1 : Nat) ≤ 1000000; omega), bnd_ok, show ofR (L2.atI [tabV m []] 0) = .ok (tabV m []) from rfl]
    simp only [R.bind_ok, bnd_ok]
    refine wp_whl (fun (s : List Tab × List (Tab × Bool) × Int) => ∃ (W : List (Tab × St)) (i : Nat), s.2.2 = (i : Int) ∧ s.1 = W.map (·.1) ∧ s.2.1 = W.map (fun e => (e.1, true)) ∧ W.length ≤ 303 ∧ BI (sucT m k N) (tbU m k N) (tabV m []) W i)
      (fun s => 304 - s.2.2.toNat) (fun s => ∃ W : List (Tab × St), s.1.length = W.length ∧ CntR m k N W) ⟨[(tabV m [], [])], 0, rfl, rfl, rfl, by simp, bi_init (tab0_U (by omega))⟩ ?_ ?_
    · rintro ⟨fd, met, at_⟩ ⟨W, i, e1, e2, e3, hW, B⟩
      simp only at e1 e2 e3
      subst e1; subst e2; subst e3
      by_cases hlt : i < W.length ∧ W.length ≤ 300
      · refine .inr ⟨by show R.ok (decide ((i : Int) < ((W.map (·.1)).length : Int)) && decide (((W.map (·.1)).length : Int) ≤ 300)) = _; rw [List.length_map, decide_eq_true (by omega), decide_eq_true (by omega)]; rfl, ?_⟩
        obtain ⟨e0, he0⟩ : ∃ e0, W[i]? = some e0 := ⟨_, List.getElem?_eq_getElem hlt.1⟩
        have sl := bi_slen B i e0 he0
        obtain ⟨g1, g2⟩ := leads_tab hm hN2 hn (B.lds e0 (List.mem_of_getElem? he0)) (by omega)
        show Wp (O.thn (forT _ _ _) _) _ _ _ _
        refine wp_for (fun j (s : List Tab × List (Tab × Bool)) => ∃ W1 : List (Tab × St), s.1 = W1.map (·.1) ∧ s.2 = W1.map (fun e => (e.1, true)) ∧ W1.length ≤ 300 + j ∧ BJ (sucT m k N) (tbU m k N) (tabV m []) i e0 ((sucT m k N e0.1).take j) W1) ⟨W, rfl, rfl, by omega, bj_of B he0⟩ ?_ ?_
        · rintro j one ⟨fd1, met1⟩ hx ⟨W1, d1, d2, d3, d4⟩
          simp only at d1 d2
          subst d1; subst d2
          rw [List.getElem?_map] at hx
          obtain ⟨c, hc', ex⟩ := Option.map_eq_some_iff.mp hx
          subst ex
          have hc := List.mem_of_getElem? hc'
          have hj : j < k := by have := (List.getElem?_eq_some_iff.mp hc').1; omega
          have gs : (sucT m k N e0.1)[j]? = some (tabV m (e0.2 ++ [c]), c) := by
            unfold sucT
            rw [List.getElem?_map, hc', g2]
            show some (stT m k N (tabV m e0.2) c, c) = _
            rw [stT_tab hm g1 (by omega) hN2 hn hc]
          have tk : (sucT m k N e0.1).take (j + 1) = (sucT m k N e0.1).take j ++ [(tabV m (e0.2 ++ [c]), c)] := by
            rw [List.take_add_one, gs]; rfl
          have step := bj_step K d4 (p := (tabV m (e0.2 ++ [c]), c)) (List.mem_of_getElem? gs) (fun q hq => by
            obtain ⟨jq, hjq⟩ := List.getElem?_of_mem hq
            rw [List.getElem?_take] at hjq
            split at hjq
            · rename_i hlt2
              exact ⟨List.mem_of_getElem? hjq, pw_get (K.asc e0.1) hjq gs hlt2⟩
            · cases hjq)
          rw [← tk] at step
          have el : ofR (L2.atI (W1.map (·.1)) (i : Int)) = .ok (tabV m e0.2) := by rw [← g2]; exact at_nat (by rw [List.getElem?_map, d4.at0]; rfl)
          dsimp only
          simp only [el, R.bind_ok]
          rw [szT_ok _ (by show (2 : Nat) ≤ 1000000; omega), R.bind_ok, boxes_app hm g1 (by omega) (one_stp hm hc) (by show (1 : Nat) ≤ 1000; omega) hn, bnd_ok]
          by_cases hin : tabV m (e0.2 ++ [c]) ∈ W1.map (·.1)
          · have hh : hasT (W1.map fun e => (e.1, true)) (tabV m (e0.2 ++ [c])) = true := hasT_iff.mpr (by rw [List.map_map]; exact hin)
            rw [hh, if_neg (by decide)]
            have e : bfI e0.2 W1 (tabV m (e0.2 ++ [c]), c) = W1 := if_pos hin
            rw [e] at step
            exact ⟨W1, rfl, rfl, by omega, step⟩
          · have hni : tabV m (e0.2 ++ [c]) ∉ (W1.map fun e => (e.1, true)).map (·.1) := by rw [List.map_map]; exact hin
            have hh : hasT (W1.map fun e => (e.1, true)) (tabV m (e0.2 ++ [c])) = false := by
              cases q : hasT (W1.map fun e => (e.1, true)) (tabV m (e0.2 ++ [c])) with
              | false => rfl
              | true => exact absurd (hasT_iff.mp q) hni
            rw [hh, if_pos (by decide)]
            have e : bfI e0.2 W1 (tabV m (e0.2 ++ [c]), c) = W1 ++ [(tabV m (e0.2 ++ [c]), e0.2 ++ [c])] := if_neg hin
            rw [e] at step
            rw [puT_ok _ _ (by rw [List.length_map]; omega), putT_new hni, bnd_ok, apT_ok _ (by rw [List.length_map]; omega), bnd_ok]
            exact ⟨W1 ++ [(tabV m (e0.2 ++ [c]), e0.2 ++ [c])], by simp, by simp, by simp; omega, step⟩
        · rintro ⟨fd1, met1⟩ ⟨W1, d1, d2, d3, d4⟩
          simp only at d1 d2
          subst d1; subst d2
          rw [List.length_map, abl] at d4 d3
          have full : (sucT m k N e0.1).take k = sucT m k N e0.1 := List.take_of_length_le (by unfold sucT; rw [List.length_map, abl]; omega)
          rw [full] at d4
          refine ⟨⟨W1, i + 1, by show (i : Int) + 1 = _; omega, rfl, rfl, by omega, bi_of d4⟩, ?_⟩
          show 304 - ((i : Int) + 1).toNat < 304 - ((i : Int)).toNat
          omega
      · refine .inl ⟨?_, W, List.length_map _, ?_⟩
        · show R.ok (decide ((i : Int) < ((W.map (·.1)).length : Int)) && decide (((W.map (·.1)).length : Int) ≤ 300)) = _
          rw [List.length_map]
          by_cases h1 : i < W.length
          · rw [decide_eq_false (p := (W.length : Int) ≤ 300) (by omega), Bool.and_false]
          · rw [decide_eq_false (p := (i : Int) < (W.length : Int)) (by omega), Bool.false_and]
        · by_cases h2 : 300 < W.length
          · refine .inl ⟨h2, B.nd, fun e he => ?_⟩
            obtain ⟨s, hs, q⟩ := List.mem_map.mp (B.sub e he)
            obtain ⟨q1, q2⟩ := mem_upS.mp hs
            exact ⟨s, q2, by omega, q.symm⟩
          · have : i = W.length := by have := B.le; omega
            subst this
            exact .inr (allT_of hm (by omega) hN2 hn B (by omega))
    · rintro ⟨fd, met, at_⟩ ⟨W, e1, a⟩
      exact ⟨W, by simp only at e1; rw [e1], a⟩
  obtain ⟨a, e, W, rfl, q⟩ := main
  exact ⟨W, e, q⟩
theorem cnt_same {W W' : List (Tab × St)} (c : CntR m k N W) (A : AllT m k W') : W.length = W'.length := by
  have sub : ∀ (L L' : List (Tab × St)), (L.map (·.1)).Nodup → (∀ e ∈ L, ∃ s : St, SgOk k s ∧ s.length ≤ 1000 ∧ e.1 = tabV m s) → AllT m k L' → L.length ≤ L'.length := fun L L' nd h A => by
    have := nodup_le nd (U := L'.map (·.1)) fun x hx => by
      obtain ⟨e, he, rfl⟩ := List.mem_map.mp hx
      obtain ⟨s, hs, hl, q⟩ := h e he
      obtain ⟨s2, h2, _⟩ := A.all s hs hl
      rw [q]
      exact List.mem_map.mpr ⟨_, h2, rfl⟩
    simpa using this
  have own : ∀ (L : List (Tab × St)), AllT m k L → ∀ e ∈ L, ∃ s : St, SgOk k s ∧ s.length ≤ 1000 ∧ e.1 = tabV m s := fun L A e he => by
    obtain ⟨a, b, c⟩ := A.tab e he
    exact ⟨e.2, a, by omega, b⟩
  rcases c with ⟨h, nd, q⟩ | c
  · have := sub _ _ nd q A
    have := A.le
    omega
  · have := sub _ _ c.nd (own _ c) A
    have := sub _ _ A.nd (own _ A) c
    omega
theorem cnt_many {W : List (Tab × St)} (c : CntR m k N W) (M : ManyT m k) : 300 < W.length := by
  rcases c with ⟨h, _⟩ | c
  · exact h
  · obtain ⟨T, hl, nd, q⟩ := M
    have := nodup_le nd (U := W.map (·.1)) fun x hx => by
      obtain ⟨s, hs, hl, rfl⟩ := q x hx
      obtain ⟨s2, h2, _⟩ := c.all s hs hl
      exact List.mem_map.mpr ⟨_, h2, rfl⟩
    have h2 : T.length ≤ W.length := by simpa using this
    omega
end
end DI
namespace DI
open PySem
section
variable {n k N : Nat} {m : Mc} {W : List (Tab × St)}
theorem sg_ap {s t : St} (hs : SgOk k s) (ht : SgOk k t) : SgOk k (s ++ t) := fun c h => (List.mem_append.mp h).elim (hs c) (ht c)
theorem asked_ok (e : f_p_all_tables m = .ok (W.map swP)) : f_l_asked m = .ok (some (W.map swP), false) := by
  unfold f_l_asked
  rw [e]
  rfl
theorem asked_no (e : f_p_all_tables m = .err 3 []) : f_l_asked m = .ok (none, true) := by
  unfold f_l_asked
  rw [e]
  rfl
theorem thing_ok (t : Th) : f_l_is_thing t = .ok true := by
  cases t with
  | none => rfl
  | some x =>
    obtain ⟨w, r⟩ := x
    unfold f_l_is_thing
    have e : cmT [w, r] (fun number => f_l_whole number) = .ok ([w, r].map fun _ => true) := cmT_ok (fun _ => true) (fun _ _ => rfl) (by show (2 : Nat) ≤ 1000000; omega)
    simp only [Option.isNone_some, Bool.false_eq_true, if_false, Option.isSome_some, Bool.and_self, if_true, unO, R.bind_ok]
    show runO (bnd (if decide (([w, r].length : Int) = 2) = true then _ else _) .rt) = _
    rw [if_pos (by rfl), e]
    rfl
theorem is_table_ok (t : Tab) (h1 : t.1.length ≤ 1000) (h2 : t.2.length ≤ 1000) : f_l_is_table t t = .ok true := by
  unfold f_l_is_table
  refine wp_eq ?_
  have e2 : decide (((((fun p : Tab => [ p.1,  p.2]) t).length : Int)) = 2) = true := rfl
  rw [e2, decide_eq_true (p := t = t) rfl]
  simp only [Bool.not_true, Bool.or_self, Bool.false_eq_true, if_false]
  refine wp_for (fun _ _ => True) True.intro ?_ (fun _ _ => rfl)
  rintro i things u hx _
  have hl : things.length ≤ 1000 := by
    have := List.mem_of_getElem? hx
    rcases List.mem_cons.mp this with rfl | h
    · exact h1
    · rw [List.mem_singleton.mp h]; exact h2
  rw [cmT_ok (F := fun thing => f_l_is_thing thing) (fun _ => true) (fun x _ => thing_ok x) (by omega), R.bind_ok, R.bind_ok, bnd_ok]
  rw [show (things.map (fun _ => true)).all id = true from List.all_eq_true.mpr fun x hx => by
    obtain ⟨_, _, rfl⟩ := List.mem_map.mp hx
    rfl]
  exact True.intro
theorem cut_ok (hk : k ≤ 3) : cutL "abc".toList none (some (k : Int)) = "abc".toList.take k := by
  rcases (show k = 0 ∨ k = 1 ∨ k = 2 ∨ k = 3 by omega) with rfl | rfl | rfl | rfl <;> rfl
theorem unO_some {α : Type} (a : α) : unO (some a) = R.ok a := rfl
theorem listed_ok (hm : McOk n k m) (hn : n ≤ 900) (hk : k ≤ 3) (A : AllT m k W) : f_l_listed m (some (W.map swP)) (k : Int) = .ok true := by
  have hlen := hm.len
  have hW := A.le
  unfold f_l_listed
  refine wp_eq ?_
  simp only [bnd_ok, unO_some, R.bind_ok, cut_ok hk]
  refine wp_for (fun i (ahead : Option (Int × St)) => ∀ a, ahead = some a → ∃ s, a = ((s.length : Int), s) ∧ ∀ j e, i ≤ j → W[j]? = some e → slt s e.2) (fun a h => by cases h) ?_ (fun _ _ => rfl)
  rintro i one ahead hx hi
  rw [List.getElem?_map] at hx
  obtain ⟨e, he, rfl⟩ := Option.map_eq_some_iff.mp hx
  obtain ⟨sg, et, ll⟩ := A.tab e (List.mem_of_getElem? he)
  rw [show (swP e).1 = e.2 from rfl, show (swP e).2 = e.1 from rfl]
  rw [if_neg (show ¬ ((!true || (!decide (((([eSt e.2, (eT2 (eSq (eOp (eT2 D.int D.int))) (eSq (eOp (eT2 D.int D.int)))) e.1] : List D).length : Nat) : Int) = 2) || !true)) = true) from (show ¬ (false = true) by decide))]
  rw [cmT_ok (F := fun sign => (szT ("abc".toList).length ("abc".toList.take k)).bind fun v => R.ok (decide (sign ∈ v))) (fun _ => true) (fun c hc => by
    rw [szT_ok _ (by decide), R.bind_ok, decide_eq_true (sg c hc)]) (by omega), R.bind_ok]
  rw [show (e.2.map (fun _ => true)).all id = true from List.all_eq_true.mpr fun x hx => by
    obtain ⟨_, _, rfl⟩ := List.mem_map.mp hx
    rfl]
  simp only [R.bind_ok, Bool.not_true, Bool.false_eq_true, if_false, lenT_ok (show e.2.length ≤ 1000000 by omega), bnd_ok]
  rw [if_neg (by rw [decide_eq_true_eq]; omega)]
  have c2 : (if (!ahead.isNone) = true then (unO ahead).bind fun v => R.ok (!ltIS v ((e.2.length : Int), e.2)) else R.ok false) = R.ok false := by
    cases ahead with
    | none => rfl
    | some a =>
      obtain ⟨s, rfl, h⟩ := hi a rfl
      show R.ok (!ltIS ((s.length : Int), s) ((e.2.length : Int), e.2)) = _
      rw [ltIS_slt.mpr (h i e (Nat.le_refl _) he)]
      rfl
  rw [c2, bnd_ok, if_neg (by decide), l_table_ok hm sg (by omega) hn, R.bind_ok, et, is_table_ok _ (by rw [tab_l1]; omega) (by rw [tab_l2]; omega), R.bind_ok, bnd_ok, if_neg (by decide)]
  exact fun a ea => ⟨e.2, (Option.some.inj ea).symm, fun j e' hj he' => pw_get A.srt he he' (by omega)⟩
theorem hasT_W {x : Tab} (h : x ∈ W.map (·.1)) : hasT (W.map fun e => (e.1, true)) x = true := hasT_iff.mpr (by rw [List.map_map]; exact h)
theorem closed_ok (hm : McOk n k m) (hn : n ≤ 900) (hk : k ≤ 3) (A : AllT m k W) : f_l_closed m (some (W.map swP)) (k : Int) = .ok true := by
  have hlen := hm.len
  have hW := A.le
  have abl : ("abc".toList.take k).length = k := by rw [List.length_take]; show min k 3 = k; omega
  unfold f_l_closed
  refine wp_eq ?_
  simp only [bnd_ok, unO, R.bind_ok, cut_ok hk]
  refine wp_for (fun i (t : List (Tab × Bool)) => t = (W.take i).map fun e => (e.1, true)) rfl ?_ ?_
  · rintro i ⟨s, tb⟩ t hx rfl
    rw [List.getElem?_map] at hx
    obtain ⟨e, he, ee⟩ := Option.map_eq_some_iff.mp hx
    cases ee
    have hni : e.1 ∉ ((W.take i).map fun e => (e.1, true)).map (·.1) := fun h => by
      rw [List.map_map] at h
      obtain ⟨e', he', q⟩ := List.mem_map.mp h
      obtain ⟨j, hj⟩ := List.getElem?_of_mem he'
      rw [List.getElem?_take] at hj
      split at hj
      · rename_i hlt
        exact pw_get A.nd (i := j) (j := i) (x := e.1) (y := e.1) (by rw [List.getElem?_map, hj]; exact congrArg some q) (by rw [List.getElem?_map, he]; rfl) hlt rfl
      · cases hj
    show Wp (bnd (puT _ e.1 true) _) _ _ _ _
    rw [puT_ok _ _ (by rw [List.length_map, List.length_take]; omega), putT_new hni, bnd_ok]
    show _ = _
    rw [List.take_add_one, he]
    simp
  · rintro t e
    rw [List.length_map, List.take_of_length_le (Nat.le_refl _)] at e
    subst e
    rw [szT_ok _ (by decide), R.bind_ok, R.bind_ok, cmT_ok (F := fun sign => f_l_table m ([sign])) (fun c => tabV m [c]) (fun c hc => l_table_ok hm (one_stp hm hc) (by show (1 : Nat) ≤ 1000; omega) hn) (by rw [abl]; omega), bnd_ok]
    refine wp_for (fun _ _ => True) True.intro ?_ ?_
    · rintro i tb u hx _
      rw [List.map_map, List.getElem?_map] at hx
      obtain ⟨e, he, rfl⟩ := Option.map_eq_some_iff.mp hx
      have me := List.mem_of_getElem? he
      obtain ⟨sg, et, ll⟩ := A.tab e me
      refine wp_for (fun _ _ => True) True.intro ?_ (fun _ _ => True.intro)
      rintro j one u' hx' _
      rw [List.getElem?_map] at hx'
      obtain ⟨c, hc', rfl⟩ := Option.map_eq_some_iff.mp hx'
      have hc := List.mem_of_getElem? hc'
      have so := one_stp hm hc
      obtain ⟨s1, h1, _⟩ := A.all (e.2 ++ [c]) (sg_ap sg so) (by rw [List.length_append, List.length_singleton]; omega)
      obtain ⟨s2, h2, _⟩ := A.all ([c] ++ e.2) (sg_ap so sg) (by rw [List.length_append, List.length_singleton]; omega)
      show Wp (bnd ((f_l_boxes [e.1, tabV m [c]] (m.length : Int)).bind fun u => R.ok (!hasT (W.map fun e => (e.1, true)) u)) _) _ _ _ _
      rw [et, boxes_app hm sg (by omega) so (by show (1 : Nat) ≤ 1000; omega) hn, R.bind_ok, hasT_W (List.mem_map.mpr ⟨_, h1, rfl⟩), bnd_ok, if_neg (by decide)]
      show Wp (bnd ((f_l_boxes [tabV m [c], e.1] (m.length : Int)).bind fun u => R.ok (!hasT (W.map fun e => (e.1, true)) u)) _) _ _ _ _
      rw [et, boxes_app hm so (by show (1 : Nat) ≤ 1000; omega) sg (by omega) hn, R.bind_ok, hasT_W (List.mem_map.mpr ⟨_, h2, rfl⟩), bnd_ok, if_neg (by decide)]
      exact True.intro
    · rintro u _
      rw [List.length_map, List.length_map]
      show decide (_ = _) = true
      exact decide_eq_true rfl
theorem first_ok (A : AllT m k W) : ∃ e W', W = e :: W' ∧ e.2 = [] := by
  obtain ⟨s, hs, l⟩ := A.all [] (fun c h => nomatch h) (by show (0 : Nat) ≤ 1000; omega)
  have es : s = [] := by
    rcases l with l | l
    · exact l
    · exact (nslt_nil l).elim
  subst es
  have srt := A.srt
  cases W with
  | nil => cases hs
  | cons e W' =>
    refine ⟨e, W', rfl, ?_⟩
    rcases List.mem_cons.mp hs with q | q
    · rw [← q]
    · exact (nslt_nil ((List.pairwise_cons.mp srt).1 _ q)).elim
end
theorem law_typed (ns : List Int) (hl : ns.length ≤ 63) : f_p_law ns = .ok true := by
  obtain ⟨z0, hz0⟩ := cell_ok ns 0 (by omega)
  obtain ⟨n, en, hn, hn2⟩ : ∃ n : Nat, 1 + z0 % 3 = (n : Int) ∧ 0 < n ∧ n ≤ 3 := ⟨(1 + z0 % 3).toNat, by omega, by omega, by omega⟩
  obtain ⟨k, ek, hk, hk2⟩ : ∃ k : Nat, 1 + z0 / 3 % 3 = (k : Int) ∧ 0 < k ∧ k ≤ 3 := ⟨(1 + z0 / 3 % 3).toNat, by omega, by omega, by omega⟩
  obtain ⟨m, em, hm⟩ := machine_ok ns 1 (n := n) (k := k) hn (by omega) (by omega)
  rw [show ((1 : Nat) : Int) = 1 from rfl] at em
  unfold f_p_law
  refine wp_eq ?_
  obtain ⟨W0, eC, cr⟩ := counted_ok (N := 400) hm hn (by omega) hk2 (by omega) (by omega)
  simp only [hz0, R.bind_ok, en, ek, bnd_ok, em, eC]
  rcases all_tables_ok (N := 400) hm hn (by omega) hk2 (by omega) (by omega) with ⟨W, eW, A⟩ | ⟨e, M⟩
  · have hW := A.le
    have cs := cnt_same cr A
    have hl2 : (((W.map swP).length : Nat) : Int) = (W0.length : Int) := by rw [List.length_map, cs]
    obtain ⟨e0, W', eq, e0s⟩ := first_ok A
    rw [asked_ok eW, bnd_ok]
    dsimp only
    rw [if_neg (by rw [decide_eq_true_eq]; omega)]
    have c1 : (if (!((some (W.map swP)).isSome && true)) = true then R.ok true else (((unO (some (W.map swP))).bind fun u => R.ok ((u.length : Int))).bind fun u => R.ok (!decide (u = (W0.length : Int)))).bind fun u => if u = true then R.ok true else (((unO (some (W.map swP))).bind fun u => ofR (L2.atI u 0)).bind fun u => R.ok (u.1)).bind fun u => R.ok (!decide (u = ("".toList)))) = R.ok false := by
      have a0 : ofR (L2.atI (W.map swP) 0) = .ok (swP e0) := at_get (Int.le_refl 0) (by rw [eq]; rfl)
      rw [if_neg (by simp)]
      simp only [unO, R.bind_ok, a0, hl2, decide_true, Bool.not_true, Bool.false_eq_true, if_false]
      rw [show (swP e0).1 = e0.2 from rfl, e0s]
      rfl
    rw [c1, bnd_ok, if_neg (by decide), listed_ok hm (by omega) hk2 A]
    simp only [R.bind_ok, Bool.not_true, Bool.false_eq_true, if_false, closed_ok hm (by omega) hk2 A, bnd_ok, unO]
    have p1 : popNT (W.map swP) = .ok (W.map swP).dropLast := by rw [eq]; rfl
    rw [p1, bnd_ok, eW, R.bind_ok]
    show decide (_ = _) = true
    exact decide_eq_true rfl
  · have hW := cnt_many cr M
    rw [asked_no e, bnd_ok]
    dsimp only
    rw [if_pos (decide_eq_true (by omega))]
    rfl
end DI
namespace DI
theorem law_true (ns : List Int) (hl : ns.length ≤ 63) : h_p_law [.lst false (ns.map D.int)] = .ok (.bl true) := by
  have t := tf_p_law ns
  rw [law_typed ns hl] at t
  exact t
end DI
open PySem PySem.W PyProof.Rows
set_option maxHeartbeats 0 in
theorem PySem.Challenge.cw_striproam_k16_all_tables_holds : PySem.Challenge.rw_striproam_k16_all_tables.Holds := by
  w_on; o_law; k_head; (case hw => w_witness2)
  k_fill
  refine L2.walk_of (l := PySem.Challenge.rw_striproam_k16_all_tables) (n := 63) (k := 8) (x := "_law_script") (CX := fun w => L2.CX PySem.Challenge.pw_striproam_k16_all_tables w) (sp := fun w => DI.spLaw _) rfl (by decide) rfl ⟨rfl, by decide, by decide⟩ (fun w h Y => PySem.W.kIn_of Y) ?F (fun _ _ a ns hl hO hS => ⟨a, ns, rfl, hS, hO, hl, fun v H h => h⟩) (fun w H s e s' h => DI.cx_none h)
  case F =>
    intro w mg fa h KX G hmg
    refine' DI.all_mk KX G hmg DI.law_true ?g_WayError ?g_NoStrip ?g_TooMany ?g_NotLike ?bs_WayError ?bt_WayError ?br_WayError ?bv_WayError ?xk_NoStrip ?xs_NoStrip ?xt_NoStrip ?xo_NoStrip ?xa_NoStrip ?xi_NoStrip_ ?xf_NoStrip ?xl_NoStrip ?xc_NoStrip ?xq_NoStrip ?xn_NoStrip_at ?xb_NoStrip ?xk_TooMany ?xs_TooMany ?xt_TooMany ?xe_TooMany ?xg_TooMany ?xh_TooMany ?xd_TooMany ?xy_TooMany ?xz_TooMany ?xw_TooMany ?xm_TooMany ?em_TooMany_NoStrip ?em_TooMany_TooMany ?ei_WayError_NoStrip ?ei_WayError_TooMany ?ei_NoStrip_NoStrip ?ei_NoStrip_TooMany ?ei_NotLike_NoStrip ?ei_NotLike_TooMany ?ev_ValueError_NoStrip ?ev_ValueError_TooMany ?z0 ?z1 ?z2 ?z3 ?z4 ?z5 ?z6 ?z7 ?z8 ?z9 ?z10 ?v0 ?v1 ?v2 ?a0 ?l0 ?c0 ?k0 ?a1 ?l1 ?c1 ?k1 ?a2 ?l2 ?c2 ?k2 ?a3 ?l3 ?c3 ?k3 ?a4 ?l4 ?c4 ?k4 ?a5 ?l5 ?c5 ?k5 ?a6 ?l6 ?c6 ?k6 ?a7 ?l7 ?c7 ?k7 ?a8 ?l8 ?c8 ?k8 ?a9 ?l9 ?c9 ?k9 ?a10 ?l10 ?c10 ?k10 ?a11 ?l11 ?c11 ?k11 ?a12 ?l12 ?c12 ?k12 ?a13 ?l13 ?c13 ?k13 ?a14 ?l14 ?c14 ?k14 ?a15 ?l15 ?c15 ?k15 ?a16 ?l16 ?c16 ?k16 ?a17 ?l17 ?c17 ?k17 ?a18 ?l18 ?c18 ?k18 ?a19 ?l19 ?c19 ?k19 ?a20 ?l20 ?c20 ?k20 ?a21 ?l21 ?c21 ?k21 ?a22 ?l22 ?c22 ?k22 ?a23 ?l23 ?c23 ?k23 ?a24 ?l24 ?c24 ?k24
    (case g_WayError => k_is); (case g_NoStrip => k_is); (case g_TooMany => k_is); (case g_NotLike => k_is); (case bs_WayError => k_is); (case bt_WayError => k_is); (case br_WayError => k_is); (case bv_WayError => k_is); (case xk_NoStrip => k_is); (case xs_NoStrip => k_is); (case xt_NoStrip => k_is); (case xo_NoStrip => kernel_rfl); (case xa_NoStrip => k_is); (case xi_NoStrip_ => k_is); (case xf_NoStrip => k_is); (case xl_NoStrip => k_is); (case xc_NoStrip => k_is); (case xq_NoStrip => k_is); (case xn_NoStrip_at => k_is); (case xb_NoStrip => kernel_rfl); (case xk_TooMany => k_is); (case xs_TooMany => k_is); (case xt_TooMany => k_is); (case xe_TooMany => kernel_rfl); (case xg_TooMany => k_is); (case xh_TooMany => k_is); (case xd_TooMany => k_is); (case xy_TooMany => k_is); (case xz_TooMany => k_is); (case xw_TooMany => k_is); (case xm_TooMany => k_is); (case em_TooMany_NoStrip => kernel_rfl); (case em_TooMany_TooMany => kernel_rfl); (case ei_WayError_NoStrip => kernel_rfl); (case ei_WayError_TooMany => kernel_rfl); (case ei_NoStrip_NoStrip => kernel_rfl); (case ei_NoStrip_TooMany => kernel_rfl); (case ei_NotLike_NoStrip => kernel_rfl); (case ei_NotLike_TooMany => kernel_rfl); (case ev_ValueError_NoStrip => kernel_rfl); (case ev_ValueError_TooMany => kernel_rfl); (case z0 => k_is); (case z1 => k_is); (case z2 => k_is); (case z3 => k_is); (case z4 => k_is); (case z5 => k_is); (case z6 => k_is); (case z7 => k_is); (case z8 => k_is); (case z9 => k_is); (case z10 => k_is); (case v0 => k_is); (case v1 => k_is); (case v2 => k_is); (case a0 => k_is); (case l0 => k_is); (case c0 => k_is); (case k0 => k_is); (case a1 => k_is); (case l1 => k_is); (case c1 => k_is); (case k1 => k_is); (case a2 => k_is); (case l2 => k_is); (case c2 => k_is); (case k2 => k_is); (case a3 => k_is); (case l3 => k_is); (case c3 => k_is); (case k3 => k_is); (case a4 => k_is); (case l4 => k_is); (case c4 => k_is); (case k4 => k_is); (case a5 => k_is); (case l5 => k_is); (case c5 => k_is); (case k5 => k_is); (case a6 => k_is); (case l6 => k_is); (case c6 => k_is); (case k6 => k_is); (case a7 => k_is); (case l7 => k_is); (case c7 => k_is); (case k7 => k_is); (case a8 => k_is); (case l8 => k_is); (case c8 => k_is); (case k8 => k_is); (case a9 => k_is); (case l9 => k_is); (case c9 => k_is); (case k9 => k_is); (case a10 => k_is); (case l10 => k_is); (case c10 => k_is); (case k10 => k_is); (case a11 => k_is); (case l11 => k_is); (case c11 => k_is); (case k11 => k_is); (case a12 => k_is); (case l12 => k_is); (case c12 => k_is); (case k12 => k_is); (case a13 => k_is); (case l13 => k_is); (case c13 => k_is); (case k13 => k_is); (case a14 => k_is); (case l14 => k_is); (case c14 => k_is); (case k14 => k_is); (case a15 => k_is); (case l15 => k_is); (case c15 => k_is); (case k15 => k_is); (case a16 => k_is); (case l16 => k_is); (case c16 => k_is); (case k16 => k_is); (case a17 => k_is); (case l17 => k_is); (case c17 => k_is); (case k17 => k_is); (case a18 => k_is); (case l18 => k_is); (case c18 => k_is); (case k18 => k_is); (case a19 => k_is); (case l19 => k_is); (case c19 => k_is); (case k19 => k_is); (case a20 => k_is); (case l20 => k_is); (case c20 => k_is); (case k20 => k_is); (case a21 => k_is); (case l21 => k_is); (case c21 => k_is); (case k21 => k_is); (case a22 => k_is); (case l22 => k_is); (case c22 => k_is); (case k22 => k_is); (case a23 => k_is); (case l23 => k_is); (case c23 => k_is); (case k23 => k_is); (case a24 => k_is); (case l24 => k_is); (case c24 => k_is); (case k24 => k_is)
