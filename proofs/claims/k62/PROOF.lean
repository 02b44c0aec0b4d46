import PyProof.Rows.All
import Wide.All
import OpenK.AllK
import Wide.FinOn
import KE.KStateDown
import HandS.ForMost
import HandS.Exc
import HandS.Style
import HandS.IsInst
import HandS.TupAny
import HandS.More
import HandS.Deep
import HandS.Zip
import HandS.Defaults
import HandS.Head0
import HandS.Head1
import HandS.Head2
import HandS.HeadEnd
import HandS.HeadHook1
import HandS.HeadHook2
import KE.KeyNested
import KE.KDictKeyed
import KE.LtData
import HandS.SortRule
import HandS.DictComp
import HandS.Strs
import HandS.Text
import HandS.RaiseMore
import PyProof.InstEq
import KE.GoesMore
import PyProof.Draws
import KE.KDictWalk
import KE.DataCmp
import PySem.Challenge.RW_putonlyif_k62_whole_texts
set_option Elab.async false
set_option linter.all false
set_option maxRecDepth 100000
set_option maxHeartbeats 0
/-! Eg1: data, code, what code is worth (no heap here). -/
namespace Eg
open PySem L2
/-- plain data -/
inductive D where
  | non | bl (b : Bool) | int (i : Int) | str (x : Str)
  | tup (xs : List D) | lst (xs : List D)
  | dk (kvs : List (Key × D)) | dw (kvs : List (Key × D))
  | ins (C : Addr) (fs : List (Str × D)) | dn (kvs : List (D × D)) | ct (xs : List D)
  /-- a tuple that a def hands back, some of its items new (only there) -/
  | tp (ps : List (Bool × D))
  deriving Inhabited
mutual
def D.beq : D → D → Bool
  | .non, .non => true
  | .bl a, .bl b => a == b
  | .int a, .int b => decide (a = b)
  | .str a, .str b => decide (a = b)
  | .tup a, .tup b => D.beqL a b
  | .lst a, .lst b => D.beqL a b
  | .dk a, .dk b => D.beqK a b
  | .dw a, .dw b => D.beqK a b
  | .ins C a, .ins C' b => decide (C = C') && D.beqF a b
  | .dn a, .dn b => D.beqN a b
  | .ct a, .ct b => D.beqL a b
  | _, _ => false
def D.beqL : List D → List D → Bool
  | [], [] => true
  | a :: r, b :: s => D.beq a b && D.beqL r s
  | _, _ => false
def D.beqK : List (Key × D) → List (Key × D) → Bool
  | [], [] => true
  | (k, a) :: r, (l, b) :: s => decide (k = l) && D.beq a b && D.beqK r s
  | _, _ => false
def D.beqF : List (Str × D) → List (Str × D) → Bool
  | [], [] => true
  | (k, a) :: r, (l, b) :: s => decide (k = l) && D.beq a b && D.beqF r s
  | _, _ => false
def D.beqN : List (D × D) → List (D × D) → Bool
  | [], [] => true
  | (k, a) :: r, (l, b) :: s => D.beq k l && D.beq a b && D.beqN r s
  | _, _ => false
end
mutual
theorem D.eq_of_beq : ∀ a b : D, D.beq a b = true → a = b
  | .non, b, h => by cases b <;> simp_all [D.beq]
  | .bl x, b, h => by cases b <;> simp_all [D.beq]
  | .int x, b, h => by cases b <;> simp_all [D.beq]
  | .str x, b, h => by cases b <;> simp_all [D.beq]
  | .tup x, b, h => by
    cases b <;> simp_all [D.beq]
    exact D.eq_of_beqL _ _ h
  | .lst x, b, h => by
    cases b <;> simp_all [D.beq]
    exact D.eq_of_beqL _ _ h
  | .dk x, b, h => by
    cases b <;> simp_all [D.beq]
    exact D.eq_of_beqK _ _ h
  | .dw x, b, h => by
    cases b <;> simp_all [D.beq]
    exact D.eq_of_beqK _ _ h
  | .ins C x, b, h => by
    cases b <;> simp_all [D.beq]
    exact D.eq_of_beqF _ _ h.2
  | .dn x, b, h => by
    cases b <;> simp_all [D.beq]
    exact D.eq_of_beqN _ _ h
  | .ct x, b, h => by
    cases b <;> simp_all [D.beq]
    exact D.eq_of_beqL _ _ h
  | .tp x, b, h => by cases b <;> simp [D.beq] at h
theorem D.eq_of_beqL : ∀ a b : List D, D.beqL a b = true → a = b
  | [], b, h => by cases b <;> simp_all [D.beqL]
  | a :: r, b, h => by
    cases b with
    | nil => simp [D.beqL] at h
    | cons b s =>
      simp only [D.beqL, Bool.and_eq_true] at h
      rw [D.eq_of_beq a b h.1, D.eq_of_beqL r s h.2]
theorem D.eq_of_beqK : ∀ a b : List (Key × D), D.beqK a b = true → a = b
  | [], b, h => by cases b <;> simp_all [D.beqK]
  | (k, a) :: r, b, h => by
    cases b with
    | nil => simp [D.beqK] at h
    | cons b s =>
      obtain ⟨l, b⟩ := b
      simp only [D.beqK, Bool.and_eq_true, decide_eq_true_eq] at h
      rw [h.1.1, D.eq_of_beq a b h.1.2, D.eq_of_beqK r s h.2]
theorem D.eq_of_beqF : ∀ a b : List (Str × D), D.beqF a b = true → a = b
  | [], b, h => by cases b <;> simp_all [D.beqF]
  | (k, a) :: r, b, h => by
    cases b with
    | nil => simp [D.beqF] at h
    | cons b s =>
      obtain ⟨l, b⟩ := b
      simp only [D.beqF, Bool.and_eq_true, decide_eq_true_eq] at h
      rw [h.1.1, D.eq_of_beq a b h.1.2, D.eq_of_beqF r s h.2]
theorem D.eq_of_beqN : ∀ a b : List (D × D), D.beqN a b = true → a = b
  | [], b, h => by cases b <;> simp_all [D.beqN]
  | (k, a) :: r, b, h => by
    cases b with
    | nil => simp [D.beqN] at h
    | cons b s =>
      obtain ⟨l, b⟩ := b
      simp only [D.beqN, Bool.and_eq_true] at h
      rw [D.eq_of_beq k l h.1.1, D.eq_of_beq a b h.1.2, D.eq_of_beqN r s h.2]
end
mutual
/-- as the library's data -/
def D.py : D → Option PyData
  | .non => some .none
  | .bl b => some (.bool b)
  | .int i => some (.int i)
  | .str x => some (.str x)
  | .tup xs => (D.pyL xs).map PyData.tuple
  | .lst xs => (D.pyL xs).map PyData.list
  | .dk _ => none
  | .dw _ => none
  | .ins _ _ => none
  | .dn _ => none
  | .ct _ => none
  | .tp _ => none
def D.pyL : List D → Option (List PyData)
  | [] => some []
  | a :: r => match D.py a, D.pyL r with
    | some x, some xs => some (x :: xs)
    | _, _ => none
end
/-! ### operations on data: none where no rule is told -/
def D.eqq (a b : D) : Option Bool :=
  match a.py, b.py with
  | some x, some y => if SeqAt.shaped x && SeqAt.shaped y then some (PyData.eqv x y) else none
  | _, _ => none
/-- whether x is one of some -/
def D.anyEq (x : PyData) : List D → Option Bool
  | [] => some false
  | a :: r => match a.py, D.anyEq x r with
    | some y, some b => if SeqAt.shaped y then some (PyData.eqv y x || b) else none
    | _, _ => none
def D.key : D → Option Key
  | .int i => some (.inl i)
  | .str x => some (.inr x)
  | _ => none
mutual
/-- as a key of any depth -/
def D.nk : D → Option NestedKey
  | .non => some .none
  | .bl b => some (.num (if b then 1 else 0))
  | .int i => some (.num i)
  | .str x => some (.text x)
  | .tup xs => (D.nkL xs).map .tup
  | _ => none
def D.nkL : List D → Option (List NestedKey)
  | [] => some []
  | a :: r => match D.nk a, D.nkL r with
    | some x, some xs => some (x :: xs)
    | _, _ => none
end
/-- a tuple as a key -/
def D.tk : D → Option NestedKey
  | .tup xs => match D.nk (.tup xs) with
    | some k => if Nat.ble k.depth 8 then some k else none
    | none => none
  | _ => none
def getN (kvs : List (D × D)) (k : NestedKey) : Option D := match kvs with
  | [] => none
  | (l, d) :: r => if l.tk = some k then some d else getN r k
def hasN (kvs : List (D × D)) (k : NestedKey) : Bool := (getN kvs k).isSome
/-- a store at a key: the first key stays -/
def setN (kvs : List (D × D)) (k : NestedKey) (key v : D) : List (D × D) :=
  if hasN kvs k then kvs.map (fun kv => if kv.1.tk = some k then (kv.1, v) else kv) else kvs ++ [(key, v)]
/-- the value at a key -/
def getK (kvs : List (Key × D)) (k : Key) : Option D := match kvs with
  | [] => none
  | (l, d) :: r => if l = k then some d else getK r k
def hasK (kvs : List (Key × D)) (k : Key) : Bool := (getK kvs k).isSome
/-- a store at a key -/
def setK (kvs : List (Key × D)) (k : Key) (v : D) : List (Key × D) :=
  if (kvs.any fun kv => decide (kv.1 = k)) = true then kvs.map (fun kv => if kv.1 = k then (kv.1, v) else kv) else kvs ++ [(k, v)]
def mergeD (kvs more : List (Key × D)) : List (Key × D) := more.foldl (fun acc kv => setK acc kv.1 kv.2) kvs
def getF (fs : List (Str × D)) (f : Str) : Option D := fs.lookup f
def setF (f : Str) (v : D) : List (Str × D) → List (Str × D)
  | [] => [(f, v)]
  | (g, x) :: r => if g = f then (g, v) :: r else (g, x) :: setF f v r
def D.truth : D → Option Bool
  | .non => some false
  | .bl b => some b
  | .int i => some (i != 0)
  | .str x => if x.length ≤ sizeLine then some (x.length != 0) else none
  | .tup xs => some (!xs.isEmpty)
  | .lst xs => some (!xs.isEmpty)
  | .dk _ => none
  | .dw _ => none
  | .ins _ _ => none
  | .dn _ => none
  | .ct _ => none
  | .tp _ => none
def D.isNon : D → Bool
  | .non => true
  | _ => false
/-- an index, from the end where it is negative -/
def ixD (xs : List D) (i : Int) : Option D := atI xs i
/-- a part -/
def cutD (xs : List D) (lo hi : Option Int) : List D :=
  (xs.drop (HT.sIx xs.length 0 lo)).take (HT.sIx xs.length xs.length hi - HT.sIx xs.length 0 lo)
inductive BOp where | add | sub | mul | fdiv | mod | pow
  deriving DecidableEq
inductive COp where | eq | ne | lt | le | gt | ge | isIn | notIn
  deriving DecidableEq
inductive Ty where | str | int | bool | tuple | list | dict
  deriving DecidableEq
inductive Blt where | len | int | min | repr | all | any | tuple | list | dict | str
  deriving DecidableEq
inductive Mth where | index
  deriving DecidableEq
inductive Mu where | append | extend | update | pop | popAt | clear
  deriving DecidableEq
def small (n : Nat) : Bool := Nat.ble n sizeLine
def binD : BOp → D → D → Option (Bool × D)
  | .add, .int a, .int b => some (false, .int (a + b))
  | .add, .str a, .str b => if small (a.length + b.length) then some (false, .str (a ++ b)) else none
  | .add, .lst a, .lst b => if small (a.length + b.length) then some (true, .lst (a ++ b)) else none
  | .add, .tup a, .tup b => if small (a.length + b.length) then some (false, .tup (a ++ b)) else none
  | .sub, .int a, .int b => some (false, .int (a - b))
  | .mul, .int a, .int b => if (-(2 ^ 64) < a ∧ a < 2 ^ 64) ∨ (-(2 ^ 64) < b ∧ b < 2 ^ 64) then some (false, .int (a * b)) else none
  | .mul, .lst a, .int b => if -(2 ^ 63) ≤ b ∧ b < 2 ^ 63 ∧ a.length * b.toNat ≤ sizeLine then some (true, .lst ((List.replicate b.toNat a).flatten)) else none
  | .fdiv, .int a, .int b => if 0 < b ∧ b < 1073741824 then some (false, .int (a / b)) else none
  | .mod, .int a, .int b => if 0 < b then some (false, .int (a % b)) else none
  | .pow, .int a, .int b => if 0 ≤ b ∧ b ≤ 1000000 ∧ a.natAbs < 2 ^ 64 then some (false, .int (a ^ b.toNat)) else none
  | _, _, _ => none
def ordD (p : Int → Int → Bool) : D → D → Option Bool
  | .int a, .int b => some (p a b)
  | _, _ => none
/-- a < b: ints, texts, tuples of data that are alike -/
def ltD : D → D → Option Bool
  | .int a, .int b => some (decide (a < b))
  | .str a, .str b => some (decide (a.cps.toList < b.cps.toList))
  | .tup a, .tup b => match D.pyL a, D.pyL b with
    | some x, some y => if PySem.W.alike (.tuple x) (.tuple y) && Nat.ble (PyData.depth (.tuple x)) 60 then some (PySem.W.dataLt (.tuple x) (.tuple y)) else none
    | _, _ => none
  | _, _ => none
def inD (x : D) : D → Option Bool
  | .tup ds => match x.py with
    | some px => if SeqAt.shaped px then D.anyEq px ds else none
    | none => none
  | .lst ds => match x.py with
    | some px => if SeqAt.shaped px then D.anyEq px ds else none
    | none => none
  | .dk kvs => match x.key with
    | some k => some (hasK kvs k)
    | none => none
  | .dw kvs => match x.key with
    | some k => some (hasK kvs k)
    | none => none
  | .dn kvs => match x.tk with
    | some k => some (hasN kvs k)
    | none => none
  | _ => none
def cmpD : COp → D → D → Option Bool
  | .eq, a, b => D.eqq a b
  | .ne, a, b => (D.eqq a b).map (!·)
  | .lt, a, b => ltD a b
  | .le, a, b => ordD (fun i j => decide (i ≤ j)) a b
  | .gt, a, b => ordD (fun i j => decide (j < i)) a b
  | .ge, a, b => ordD (fun i j => decide (j ≤ i)) a b
  | .isIn, a, b => inD a b
  | .notIn, a, b => (inD a b).map (!·)
def tyD : D → Ty → Bool
  | .str _, .str => true
  | .int _, .int => true
  | .bl _, .int => true
  | .bl _, .bool => true
  | .tup _, .tuple => true
  | .lst _, .list => true
  | .dk _, .dict => true
  | .dw _, .dict => true
  | .dn _, .dict => true
  | _, _ => false
def idxD : D → D → Option D
  | .tup xs, .int i => ixD xs i
  | .lst xs, .int i => ixD xs i
  | .dk kvs, y => match y.key with
    | some k => getK kvs k
    | none => none
  | .dw kvs, y => match y.key with
    | some k => getK kvs k
    | none => none
  | .dn kvs, y => match y.tk with
    | some k => getN kvs k
    | none => none
  | _, _ => none
/-- a field of an instance of one of some classes -/
def fldD (Cs : List Addr) (f : Str) : D → Option D
  | .ins C fs => if Cs.contains C then getF fs f else none
  | _ => none
/-- which def a method is -/
def methOf (ms : List (Addr × Nat)) (m : Str) : D → Option Nat
  | .ins C fs => if (getF fs m).isNone then ms.lookup C else none
  | _ => none
def revD : D → Option D
  | .lst xs => some (.lst xs.reverse)
  | _ => none
def slcD : D → Option Int → Option Int → Option (Bool × D)
  | .lst xs, lo, hi => some (true, .lst (cutD xs lo hi))
  | .tup xs, lo, hi => some (false, .tup (cutD xs lo hi))
  | _, _, _ => none
/-- truths alone -/
def bools : List D → Option (List Bool)
  | [] => some []
  | .bl b :: r => (bools r).map fun bs => b :: bs
  | _ :: _ => none
def bltD : Blt → List D → Option (Bool × D)
  | .len, [.lst xs] => some (false, .int xs.length)
  | .len, [.tup xs] => some (false, .int xs.length)
  | .len, [.dk xs] => some (false, .int xs.length)
  | .len, [.dw xs] => some (false, .int xs.length)
  | .len, [.dn xs] => some (false, .int xs.length)
  | .len, [.ct xs] => some (false, .int xs.length)
  | .int, [.int i] => some (false, .int i)
  | .int, [.bl b] => some (false, .int (if b then 1 else 0))
  | .int, [.str a] => if Nat.ble a.length 640 then (PySem.intText? a).map fun n => (false, .int n) else none
  | .str, [.int i] => if Nat.blt i.natAbs.log2 1920 then some (false, .str (Str.ofString (toString i))) else none
  | .str, [.str a] => some (false, .str a)
  | .min, [.int a, .int b] => some (false, .int (if b < a then b else a))
  | .repr, [a] => match a.py with
    | some d => if PyData.showable d && !PyData.hasDict d && isDisplay d && decide (d.depth ≤ 60) && small d.shown.length then some (false, .str d.shown) else none
    | none => none
  | .all, [.lst xs] => (bools xs).map fun bs => (false, .bl (bs.all id))
  | .any, [.lst xs] => (bools xs).map fun bs => (false, .bl (bs.any id))
  | .tuple, [.lst xs] => some (false, .tup xs)
  | .tuple, [.tup xs] => some (false, .tup xs)
  | .list, [.lst xs] => some (true, .lst xs)
  | .list, [.tup xs] => some (true, .lst xs)
  | .dict, [.dk kvs] => some (true, .dk kvs)
  | _, _ => none
where isDisplay : PyData → Bool
  | .list _ | .tuple _ => true
  | _ => false
/-- texts alone -/
def strsD : List D → Option (List Str)
  | [] => some []
  | .str x :: r => (strsD r).map fun xs => x :: xs
  | _ :: _ => none
def mthD : Mth → D → List D → Option D
  | .index, x, [y] => match x.py, y.py with
    | some (.list ps), some py => if SeqAt.shaped (.list ps) && SeqAt.shaped py then (ps.findIdx? fun z => PyData.eqv z py).map fun n => .int (n : Nat) else none
    | _, _ => match x, y with
      | .ct xs, .str z => match strsD xs with
        | some ys => (ys.findIdx? fun u => decide (u = z)).map fun n => .int (n : Nat)
        | none => none
      | _, _ => none
  | _, _, _ => none
/-- sep.join(texts), text.split(sep) -/
inductive Tx where | join | split
  deriving DecidableEq
def joinD (a : Str) (ds : List D) : Option (Bool × D) := match strsD ds with
  | some ys => if Nat.ble ((ys.map (·.length)).sum + ys.length * a.length) 16777216 then some (false, .str (Txt.join a ys)) else none
  | none => none
def txD : Tx → Str → D → Option (Bool × D)
  | .join, a, .lst ds => joinD a ds
  | .join, a, .tup ds => joinD a ds
  | .split, a, .str b => if !(b.length == 0) && Nat.ble (a.length + 2) sizeLine then some (true, .lst ((Txt.split a b).map D.str)) else none
  | _, _, _ => none
/-- xs[lo::2] -/
def pick2 {α : Type} (xs : List α) (lo : Int) : List α := (sliceRange (sliceBounds (some lo) none (some 2) xs.length).1 (sliceBounds (some lo) none (some 2) xs.length).2.1 (sliceBounds (some lo) none (some 2) xs.length).2.2).filterMap (xs[·]?)
def slc2D : D → Option Int → Option (Bool × D)
  | .lst xs, some lo => if small (pick2 xs lo).length then some (true, .lst (pick2 xs lo)) else none
  | _, _ => none
/-- d.get(y, z) -/
def get2D : D → D → D → Option D
  | .dk kvs, y, z => match y.key with
    | some k => some ((getK kvs k).getD z)
    | none => none
  | _, _, _ => none
def isDk : D → Bool
  | .dk _ => true
  | _ => false
def muTy : Mu → D → Bool
  | .append, .lst _ => true
  | .extend, .lst _ => true
  | .update, .dk _ => true
  | .pop, .lst _ => true
  | .popAt, .lst _ => true
  | .clear, .lst _ => true
  | _, _ => false
/-- a change in place: the value behind it, what the call hands back -/
def muD : Mu → D → List D → Option (D × D)
  | .append, .lst xs, [a] => if Nat.blt xs.length sizeLine then some (.lst (xs ++ [a]), .non) else none
  | .extend, .lst xs, [.lst ys] => if small (xs.length + ys.length) then some (.lst (xs ++ ys), .non) else none
  | .update, .dk kvs, [.dk more] => if small (kvs.length + more.length) then some (.dk (mergeD kvs more), .non) else none
  | .pop, .lst xs, [] => (xs[xs.length - 1]?).map fun y => (.lst xs.dropLast, y)
  | .popAt, .lst xs, [.int i] => if i = 0 then (xs[0]?).map fun y => (.lst (xs.eraseIdx 0), y) else none
  | .clear, .lst _, [] => some (.lst [], .non)
  | _, _, _ => none
/-- a store to a place -/
def putD : D → D → D → Option D
  | .dk kvs, y, v => match y.key with
    | some k => if Nat.blt kvs.length sizeLine then some (.dk (setK kvs k v)) else none
    | none => none
  | .lst xs, .int i, v => (ixN xs.length i).map fun j => .lst (xs.set j v)
  | .dn kvs, y, v => match y.tk with
    | some k => if Nat.blt kvs.length sizeLine then some (.dn (setN kvs k y v)) else none
    | none => none
  | _, _, _ => none
/-- which special method -/
inductive Dun where | len | item | eq | ne
  deriving DecidableEq
def dunM : Dun → Str
  | .len => "__len__"
  | .item => "__getitem__"
  | _ => "__eq__"
/-- what may stand on the right of an own == -/
def eqOk (Cs : List Addr) : D → Bool
  | .ins C _ => Cs.contains C
  | .dn _ => false
  | .ct _ => false
  | .tp _ => false
  | _ => true
/-- the def of a special method -/
def dunF (Cs : List Addr) (ms : List (Addr × Nat)) : Dun → Option (List (Bool × D)) → Option Nat
  | .len, some [x] => methOf ms "__len__" x.2
  | .item, some [x, _] => methOf ms "__getitem__" x.2
  | .eq, some [x, y] => if eqOk Cs y.2 then methOf ms "__eq__" x.2 else none
  | .ne, some [x, y] => if eqOk Cs y.2 then methOf ms "__eq__" x.2 else none
  | _, _ => none
/-- what comes of what it hands back -/
def dunD : Dun → Bool × D → Option (Bool × D)
  | .item, x => some x
  | .len, (false, .int n) => if 0 ≤ n ∧ n < 2 ^ 63 then some (false, .int n) else none
  | .eq, (false, .bl b) => some (false, .bl b)
  | .ne, (false, .bl b) => some (false, .bl (!b))
  | _, _ => none
/-! ### code -/
inductive CE where
  | nil | cons (h t : CE)
  | var (i : Nat) | lit (d : D) | con (x : Str) (d : D)
  | tup (es : CE) | lst (es : CE) | dct (kvs : CE)
  | bin (op : BOp) (a b : CE) | neg (a : CE)
  | cmp (op : COp) (a b : CE) | chn (op op' : COp) (a b c : CE)
  | isN (a : CE) | notN (a : CE)
  | and (a b : CE) | or (a b : CE) | not (a : CE) | ife (t a b : CE)
  | call (f : Nat) (x : Str) (es : CE)
  | blt (b : Blt) (es : CE) | isi (a : CE) (t : Ty)
  | idx (a b : CE) | slc (a lo hi : CE)
  | mth (m : Mth) (a es : CE) | mut (m : Mu) (i : Nat) (es : CE)
  | comp (vs : List (Str × Nat)) (tg : List Nat) (it cond elt : CE)
  | fld (Cs : List Addr) (f : Str) (a : CE) | meth (ms : List (Addr × Nat)) (m : Str) (o es : CE)
  | isis (a : CE) (ts : List Ty) | isk (Cs : List Addr) (a : CE) (C : Addr) | isB (b : Bool) (a : CE) | ntB (b : Bool) (a : CE)
  | rev (a : CE) | get2 (a k d : CE)
  | seq (a : CE) | rng1 (a : CE) | rng2 (a b : CE) | enum (a : CE) | zip (a b : CE)
  | txt (k : Tx) (a b : CE) | slc2 (a lo : CE)
  | dun (k : Dun) (Cs : List Addr) (ms : List (Addr × Nat)) (es : CE)
  deriving Inhabited
end Eg
/-! Eg2: what code is worth. -/
namespace Eg
open PySem L2
/-- a slot's value: shared; the frame's own; lent by the caller; lent and shared since -/
inductive Fl where | sh | ow | bo | bs
  deriving DecidableEq
abbrev Rho := List (Option (Fl × D))
structure Exn where
  cls : Nat
  fs : List D
inductive Out (α : Type) where
  | ok (a : α) (r : Rho) | ex (e : Exn) (r : Rho) | no
def Out.bind {α β : Type} (x : Out α) (f : α → Rho → Out β) : Out β := match x with
  | .ok a r => f a r
  | .ex e r => .ex e r
  | .no => .no
def lift {α : Type} (o : Option α) (r : Rho) : Out α := match o with
  | some a => .ok a r
  | none => .no
/-- no error leaves -/
def calm {α : Type} : Out α → Out α
  | .ok a r => .ok a r
  | _ => .no
def Fl.own : Fl → Bool
  | .ow => true
  | .bo => true
  | _ => false
/-- by the caller -/
def Fl.lent : Fl → Bool
  | .bo => true
  | .bs => true
  | _ => false
/-- lent no more -/
def Fl.shared : Fl → Fl
  | .ow => .sh
  | .bo => .bs
  | f => f
def peek (r : Rho) (i : Nat) : Option D := match r[i]? with
  | some (some (_, d)) => some d
  | _ => none
def slotOf (r : Rho) (i : Nat) : Option (Fl × D) := match r[i]? with
  | some (some x) => some x
  | _ => none
/-- a name read: it is shared from then on -/
def unown (r : Rho) (i : Nat) : Option (D × Rho) := match r[i]? with
  | some (some (f, d)) => some (d, r.set i (some (f.shared, d)))
  | _ => none
/-- a name stored -/
def store (r : Rho) (i : Nat) (fr : Bool) (d : D) : Option Rho := match r[i]? with
  | some (some (.bo, _)) => none
  | some (some (.bs, _)) => none
  | some _ => some (r.set i (some (if fr then .ow else .sh, d)))
  | none => none
def storeL (r : Rho) : List Nat → List D → Option Rho
  | [], [] => some r
  | i :: is, d :: ds => match store r i false d with
    | some r' => storeL r' is ds
    | none => none
  | _, _ => none
inductive Tg where | one (i : Nat) | many (is : List Nat)
  deriving DecidableEq
def Tg.put (r : Rho) : Tg → D → Option Rho
  | .one i, d => store r i false d
  | .many is, .tup ds => storeL r is ds
  | .many _, _ => none
/-- what a call hands back: whether it is new, the value, how the parameters stand -/
inductive COut where
  | ok (fr : Bool) (d : D) (outs : List (Bool × D)) | ex (e : Exn) (outs : List (Bool × D)) | no
abbrev Cal := Nat → List (Bool × D) → COut
/-! ### lending -/
/-- the arguments as they are handed over -/
def argD (r : Rho) : List (Option Nat × D) → Option (List (Bool × D))
  | [] => some []
  | (none, d) :: t => (argD r t).map fun x => (false, d) :: x
  | (some i, _) :: t => match r[i]? with
    | some (some (f, d)) => (argD r t).map fun x => (f.own, d) :: x
    | _ => none
/-- the name that is lent -/
def lentOf (r : Rho) (x : Option Nat × D) : Option Nat := match x.1 with
  | some i => (match r[i]? with
    | some (some (f, _)) => if f.own then some i else none
    | _ => none)
  | none => none
/-- none is lent twice -/
def djA (r : Rho) : List (Option Nat × D) → Bool
  | [] => true
  | x :: t => (match lentOf r x with
    | none => true
    | some i => t.all fun y => lentOf r y != some i) && djA r t
/-- how they come back -/
def back (r : Rho) : List (Option Nat × D) → List (Bool × D) → Rho → Option Rho
  | [], _, acc => some acc
  | (none, _) :: t, _ :: o, acc => back r t o acc
  | (some i, _) :: t, (k, d) :: o, acc => match r[i]? with
    | some (some (f, _)) => if f.own then back r t o (acc.set i (some (if k then f else f.shared, d))) else back r t o acc
    | _ => none
  | _, _, _ => none
/-- a call, what it hands back as it is -/
def callB (cl : Cal) (f : Nat) (as : List (Option Nat × D)) (r : Rho) : Out (Bool × D) :=
  match argD r as with
  | none => .no
  | some ds => if djA r as then (match cl f ds with
    | .ok fr d outs => (match back r as outs r with
      | some r' => .ok (fr, d) r'
      | none => .no)
    | .ex e outs => (match back r as outs r with
      | some r' => .ex e r'
      | none => .no)
    | .no => .no) else .no
/-- its items shared -/
def flatR : Bool → D → Bool × D
  | true, d => (match d with
    | .tp ps => (false, .tup (ps.map (·.2)))
    | d => (true, d))
  | false, d => (false, d)
def callA (cl : Cal) (f : Nat) (as : List (Option Nat × D)) (r : Rho) : Out (Bool × D) := (callB cl f as r).bind fun x r => .ok (flatR x.1 x.2) r
def rangeD (a b : Int) : Option (List D) :=
  if -(2 ^ 62) ≤ a ∧ a < 2 ^ 62 ∧ -(2 ^ 62) ≤ b ∧ b < 2 ^ 62 then some ((List.range (b - a).toNat).map fun (k : Nat) => .int (a + k)) else none
def itemsD : D → Option (List D)
  | .lst xs => some xs
  | .tup xs => some xs
  | .dn kvs => some (kvs.map (·.1))
  | _ => none
def enumD : Nat → List D → List D
  | _, [] => []
  | k, x :: r => .tup [.int k, x] :: enumD (k + 1) r
def zipD : List D → List D → List D
  | x :: r, y :: s => .tup [x, y] :: zipD r s
  | _, _ => []
/-- a comprehension's turns -/
def loopC (tg : Tg) (vs : List Nat) (fc : Rho → Out Bool) (fe : Rho → Out D) : List D → List D → Rho → Out (List D)
  | [], acc, r => .ok acc r
  | x :: xs, acc, r => (lift (tg.put (vs.foldl (fun r i => r.set i none) r) x) r).bind fun r1 _ => (fc r1).bind fun b r2 => match b with
    | true => (fe r2).bind fun y r3 => if Nat.blt acc.length sizeLine then loopC tg vs fc fe xs (acc ++ [y]) r3 else .no
    | false => loopC tg vs fc fe xs acc r2
/-- the slots of a comprehension's own names as they were -/
def restore (old new : Rho) : List Nat → Rho
  | [] => new
  | i :: is => match old[i]? with
    | some x => (restore old new is).set i x
    | none => restore old new is
def mayWipe (r : Rho) (vs : List Nat) : Bool := vs.all fun i => match r[i]? with
  | some (some (f, _)) => !f.own
  | some none => true
  | none => false
/-- isinstance with a class of the program -/
def isK (Cs : List Addr) (C : Addr) : D → Option Bool
  | .ins C' _ => if Cs.contains C' then some (C' == C) else none
  | .dn _ => none
  | .ct _ => none
  | .tp _ => none
  | _ => some false
/-- isinstance with built-in classes -/
def tyO (ts : List Ty) : D → Option Bool
  | .dn _ => none
  | .ct _ => none
  | .tp _ => none
  | d => some (ts.any (tyD d))
def isMu : Mu → Bool
  | .append => true
  | .update => true
  | _ => false
/-- is a truth -/
def isB (b : Bool) : D → Option Bool
  | .bl k => some (decide (k = b))
  | _ => none
def pairsK : List D → Option (List (Key × D))
  | [] => some []
  | k :: v :: r => match k.key, pairsK r with
    | some k, some t => some ((k, v) :: t)
    | _, _ => none
  | _ => none
def CE.late : CE → Option Nat
  | .var i => some i
  | _ => none
def CE.isNil : CE → Bool
  | .nil => true
  | _ => false
/-- how a value is wanted: to be kept, to be read, as a test -/
inductive Md where | val | bor | tst
def tru (x : Out (Bool × D)) : Out (Bool × D) := x.bind fun x r => (lift x.2.truth r).bind fun b r => .ok (false, .bl b) r
def fin : Md → Out (Bool × D) → Out (Bool × D)
  | .tst, x => tru x
  | _, x => x
/-- two operands; a name on the left is read behind the right one -/
def two (late : Option Nat) (fa fb : Rho → Out (Bool × D)) (r : Rho) : Out (D × D) := match late with
  | some i => (lift (peek r i) r).bind fun _ r => (fb r).bind fun y r => (lift (peek r i) r).bind fun x r => .ok (x, y.2) r
  | none => (fa r).bind fun x r => (fb r).bind fun y r => .ok (x.2, y.2) r
/-- and, or: by truth where a test is asked, else of truths alone -/
def isT : D → Option Bool
  | .bl b => some b
  | _ => none
def oneOf : List Nat → Tg
  | [i] => .one i
  | is => .many is
def subOf : Md → Md
  | .tst => .tst
  | _ => .val
section
variable (cl : Cal)
mutual
def ev : CE → Md → Rho → Out (Bool × D)
  | .var i, .val, r => (lift (unown r i) r).bind fun x _ => .ok (false, x.1) x.2
  | .var i, m, r => fin m ((lift (peek r i) r).bind fun x r => .ok (false, x) r)
  | .lit d, m, r => fin m (.ok (false, d) r)
  | .con _ d, m, r => fin m (.ok (false, d) r)
  | .tup es, m, r => fin m ((evL es r).bind fun ds r => if small ds.length then .ok (false, .tup ds) r else .no)
  | .lst es, m, r => fin m ((evL es r).bind fun ds r => if small ds.length then .ok (true, .lst ds) r else .no)
  | .dct es, m, r => fin m ((evL es r).bind fun ds r => match pairsK ds with
    | some kvs => if Nat.ble kvs.length 15 then .ok (true, .dk (mergeD [] kvs)) r else .no
    | none => .no)
  | .bin op a b, m, r => fin m ((two a.late (ev a .val) (ev b .bor) r).bind fun x r => lift (binD op x.1 x.2) r)
  | .neg a, m, r => fin m ((ev a .bor r).bind fun x r => match x.2 with
    | .int i => .ok (false, .int (-i)) r
    | _ => .no)
  | .cmp op a b, m, r => (two a.late (ev a .val) (ev b .bor) r).bind fun x r => (lift (cmpD op x.1 x.2) r).bind fun b r => .ok (false, .bl b) r
  | .chn op op' a b c, m, r => (ev a .val r).bind fun x r => (ev b .val r).bind fun y r => (lift (cmpD op x.2 y.2) r).bind fun t r => match t with
    | true => (ev c .bor r).bind fun z r => (lift (cmpD op' y.2 z.2) r).bind fun t r => .ok (false, .bl t) r
    | false => .ok (false, .bl false) r
  | .isN a, m, r => (ev a .bor r).bind fun x r => .ok (false, .bl x.2.isNon) r
  | .notN a, m, r => (ev a .bor r).bind fun x r => .ok (false, .bl (!x.2.isNon)) r
  | .and a b, m, r => (ev a (subOf m) r).bind fun x r => match x.2 with
    | .bl true => ev b (subOf m) r
    | .bl false => .ok (false, .bl false) r
    | _ => .no
  | .or a b, m, r => (ev a (subOf m) r).bind fun x r => match x.2 with
    | .bl true => .ok (false, .bl true) r
    | .bl false => ev b (subOf m) r
    | _ => .no
  | .not a, m, r => (ev a (subOf m) r).bind fun x r => match x.2 with
    | .bl k => .ok (false, .bl (!k)) r
    | _ => .no
  | .ife t a b, m, r => (ev t .tst r).bind fun k r => match k.2 with
    | .bl true => ev a (subOf m) r
    | .bl false => ev b (subOf m) r
    | _ => .no
  | .call f _ es, m, r => fin m ((evA es r).bind fun as r => callA cl f as r)
  | .blt b es, m, r => fin m ((evB es r).bind fun ds r => lift (bltD b ds) r)
  | .isi a t, m, r => fin m ((ev a .bor r).bind fun x r => (lift (tyO [t] x.2) r).bind fun k r => .ok (false, .bl k) r)
  | .idx a b, m, r => fin m ((two a.late (ev a .val) (ev b .bor) r).bind fun x r => (lift (idxD x.1 x.2) r).bind fun d r => .ok (false, d) r)
  | .fld Cs f a, m, r => fin m ((ev a .bor r).bind fun x r => (lift (fldD Cs f x.2) r).bind fun d r => .ok (false, d) r)
  | .meth ms k o es, m, r => fin m (match o.late with
    | some i => (lift (peek r i) r).bind fun x r => (lift (methOf ms k x) r).bind fun f r => (evA es r).bind fun as r => callA cl f ((some i, .non) :: as) r
    | none => (ev o .val r).bind fun x r => (lift (methOf ms k x.2) r).bind fun f r => (evA es r).bind fun as r => callA cl f ((none, x.2) :: as) r)
  | .isis a ts, m, r => fin m ((ev a .bor r).bind fun x r => (lift (tyO ts x.2) r).bind fun k r => .ok (false, .bl k) r)
  | .isk Cs a C, m, r => fin m ((ev a .bor r).bind fun x r => (lift (isK Cs C x.2) r).bind fun k r => .ok (false, .bl k) r)
  | .isB b a, m, r => (ev a .bor r).bind fun x r => (lift (isB b x.2) r).bind fun k r => .ok (false, .bl k) r
  | .ntB b a, m, r => (ev a .bor r).bind fun x r => (lift (isB b x.2) r).bind fun k r => .ok (false, .bl (!k)) r
  | .rev a, m, r => fin m ((ev a .val r).bind fun x r => (lift (revD x.2) r).bind fun d r => .ok (true, d) r)
  | .get2 a k d, m, r => fin m (match a.late with
    | some i => (lift (peek r i) r).bind fun x r => if isDk x then (ev k .bor r).bind fun y r => (ev d .val r).bind fun z r => (lift (peek r i) r).bind fun x r => (lift (get2D x y.2 z.2) r).bind fun v r => .ok (false, v) r else .no
    | none => (ev a .val r).bind fun x r => if isDk x.2 then (ev k .bor r).bind fun y r => (ev d .val r).bind fun z r => (lift (get2D x.2 y.2 z.2) r).bind fun v r => .ok (false, v) r else .no)
  | .slc a lo hi, m, r => fin m ((ev a .val r).bind fun x r => (evO lo r).bind fun l r => (evO hi r).bind fun h r => lift (slcD x.2 l h) r)
  | .mth k a es, m, r => fin m ((ev a .val r).bind fun x r => (evB es r).bind fun ds r => (lift (mthD k x.2 ds) r).bind fun d r => .ok (false, d) r)
  | .mut k i es, m, r => fin m ((lift (slotOf r i) r).bind fun x r => if x.1.own && muTy k x.2 then
      (if isMu k then evL es r else evB es r).bind fun ds r => (lift (slotOf r i) r).bind fun y r => if y.1.own then (lift (muD k y.2 ds) r).bind fun z r => .ok (false, z.2) (r.set i (some (y.1, z.1))) else .no
    else .no)
  | .comp vs tg it cond elt, m, r => fin m ((evI it r).bind fun xs r => if mayWipe r (vs.map (·.2)) then
      (calm (loopC (oneOf tg) (vs.map (·.2)) (fun r => if cond.isNil then .ok true r else (ev cond .tst r).bind fun x r => lift (isT x.2) r)
        (fun r => (ev elt .val r).bind fun x r => .ok x.2 r) xs [] r)).bind fun ys r' => .ok (true, .lst ys) (restore r r' (vs.map (·.2)))
    else .no)
  | .txt k a b, m, r => fin m ((ev a .val r).bind fun x r => match x.2 with
    | .str s => (ev b .bor r).bind fun y r => lift (txD k s y.2) r
    | _ => .no)
  | .slc2 a lo, m, r => fin m ((ev a .val r).bind fun x r => (evO lo r).bind fun l r => lift (slc2D x.2 l) r)
  | .dun k Cs ms es, m, r => fin m ((evA es r).bind fun as r => (lift (dunF Cs ms k (argD r as)) r).bind fun f r => (callA cl f as r).bind fun x r => lift (dunD k x) r)
  | _, _, _ => .no
/-- values that are kept -/
def evL : CE → Rho → Out (List D)
  | .nil, r => .ok [] r
  | .cons a t, r => (ev a .val r).bind fun x r => (evL t r).bind fun ds r => .ok (x.2 :: ds) r
  | _, _ => .no
/-- values that are read at once -/
def evB : CE → Rho → Out (List D)
  | .nil, r => .ok [] r
  | .cons a t, r => (two a.late (ev a .val) (fun r => (evB t r).bind fun ds r => .ok (false, .lst ds) r) r).bind fun x r => match x.2 with
    | .lst ds => .ok (x.1 :: ds) r
    | _ => .no
  | _, _ => .no
/-- values, new ones as such -/
def evF : CE → Rho → Out (List (Bool × D))
  | .nil, r => .ok [] r
  | .cons a t, r => (ev a .val r).bind fun x r => (evF t r).bind fun ds r => .ok (x :: ds) r
  | _, _ => .no
/-- arguments of a call -/
def evA : CE → Rho → Out (List (Option Nat × D))
  | .nil, r => .ok [] r
  | .cons a t, r => match a.late with
    | some i => (lift (peek r i) r).bind fun _ r => (evA t r).bind fun as r => .ok ((some i, .non) :: as) r
    | none => (ev a .val r).bind fun x r => (evA t r).bind fun as r => .ok ((none, x.2) :: as) r
  | _, _ => .no
/-- an end of a slice -/
def evO : CE → Rho → Out (Option Int)
  | .nil, r => .ok none r
  | .cons a _, r => (ev a .bor r).bind fun x r => match x.2 with
    | .int i => .ok (some i) r
    | _ => .no
  | _, _ => .no
/-- what is walked -/
def evI : CE → Rho → Out (List D)
  | .seq a, r => (ev a .val r).bind fun x r => lift (itemsD x.2) r
  | .rng1 a, r => (ev a .bor r).bind fun x r => match x.2 with
    | .int i => lift (rangeD 0 i) r
    | _ => .no
  | .rng2 a b, r => (ev a .bor r).bind fun x r => (ev b .bor r).bind fun y r => match x.2, y.2 with
    | .int i, .int j => lift (rangeD i j) r
    | _, _ => .no
  | .enum a, r => (ev a .val r).bind fun x r => match x.2 with
    | .lst xs => .ok (enumD 0 xs) r
    | .tup xs => .ok (enumD 0 xs) r
    | _ => .no
  | .zip a b, r => (ev a .val r).bind fun x r => (ev b .val r).bind fun y r => match x.2, y.2 with
    | .lst xs, .lst ys => .ok (zipD xs ys) r
    | .tup xs, .tup ys => .ok (zipD xs ys) r
    | .lst xs, .tup ys => .ok (zipD xs ys) r
    | _, _ => .no
  | _, _ => .no
end
end
/-! ### statements -/
inductive CS where
  | nil | cons (s t : CS)
  | pass | expr (e : CE) | ret (e : CE) | retN | never | retT (es : CE) | unpC (is : List Nat) (f : Nat) (x : Str) (es : CE) | unpT (is : List Nat) (es : CE)
  | set (i : Nat) (e : CE) | unp (is : List Nat) (e : CE) | par (i j : Nat) (a b : CE)
  | par3 (i j l : Nat) (a b c : CE) | fput (Cs : List Addr) (i : Nat) (f : Str) (e : CE) | aug (i : Nat) (e : CE)
  | put (i : Nat) (k e : CE) | put2 (i : Nat) (k : CE) (j : Nat) (l e : CE)
  | ifs (t : CE) (a b : CS) | fors (tg : List Nat) (it : CE) (body : CS) | whl (t : CE) (body : CS)
  | forsE (tg : List Nat) (i : Nat) (body : CS)
  deriving Inhabited
inductive SOut where
  | nx (r : Rho) | rt (fr : Bool) (d : D) (r : Rho) | ex (e : Exn) (r : Rho) | no
def Out.stm {α : Type} (x : Out α) (f : α → Rho → SOut) : SOut := match x with
  | .ok a r => f a r
  | .ex e r => .ex e r
  | .no => .no
def SOut.then (x : SOut) (f : Rho → SOut) : SOut := match x with
  | .nx r => f r
  | .rt b d r => .rt b d r
  | .ex e r => .ex e r
  | .no => .no
def nxO (o : Option Rho) : SOut := match o with
  | some r => .nx r
  | none => .no
/-- a store to a place of a name -/
def putI (r : Rho) (i : Nat) (k v : D) : Option Rho := match slotOf r i with
  | some (f, d) => if f.own then (putD d k v).map fun d' => r.set i (some (f, d')) else none
  | none => none
/-- a store to a field of a name's instance -/
def putF1 (r : Rho) (Cs : List Addr) (i : Nat) (f : Str) (v : D) : Option Rho := match slotOf r i with
  | some (fl, .ins C fs) => if fl.own && Cs.contains C && Nat.blt fs.length 1000 then some (r.set i (some (fl, .ins C (setF f v fs)))) else none
  | _ => none
/-- x += y of lists -/
def augD : D → D → Option D
  | .lst xs, .lst ys => if small (xs.length + ys.length) then some (.lst (xs ++ ys)) else none
  | _, _ => none
/-- the items of a tuple that a call hands back -/
def partsOf : Bool × D → Option (List (Bool × D))
  | (true, .tp ps) => some ps
  | (false, .tup ds) => some (ds.map fun d => (false, d))
  | _ => none
def storeF (r : Rho) : List Nat → List (Bool × D) → Option Rho
  | [], [] => some r
  | i :: is, (b, d) :: ps => match store r i b d with
    | some r' => storeF r' is ps
    | none => none
  | _, _ => none
def pairD : D → Option (D × D)
  | .tup [x, y] => some (x, y)
  | _ => none
def loopF (tg : Tg) (fb : Rho → SOut) : List D → Rho → SOut
  | [], r => .nx r
  | x :: xs, r => match tg.put r x with
    | some r1 => (fb r1).then fun r2 => loopF tg fb xs r2
    | none => .no
def loopW (ft : Rho → Out (Bool × D)) (fb : Rho → SOut) : Nat → Rho → SOut
  | 0, _ => .no
  | n + 1, r => (ft r).stm fun x r => match x.2 with
    | .bl true => (fb r).then fun r => loopW ft fb n r
    | .bl false => .nx r
    | _ => .no
/-- enumerate of a list that the caller lent: it is read anew at each turn -/
def loopB (tg : Tg) (i : Nat) (fb : Rho → SOut) : Nat → Nat → Rho → SOut
  | 0, j, r => match slotOf r i with
    | some (.bo, .lst ys) => if ys.length = j then .nx r else .no
    | _ => .no
  | m + 1, j, r => match slotOf r i with
    | some (.bo, .lst ys) => (match ys[j]? with
      | some y => (match tg.put r (.tup [.int (j : Nat), y]) with
        | some r1 => (fb r1).then fun r2 => loopB tg i fb m (j + 1) r2
        | none => .no)
      | none => .no)
    | _ => .no
def fuel : Nat := 1000000000000
def run (cl : Cal) : CS → Rho → SOut
  | .nil, r => .nx r
  | .cons s t, r => (run cl s r).then fun r => run cl t r
  | .pass, r => .nx r
  | .expr e, r => (ev cl e .val r).stm fun _ r => .nx r
  | .ret e, r => match e.late with
    | some i => (match slotOf r i with
      | some (.ow, d) => .rt true d r
      | some (_, _) => (ev cl e .val r).stm fun x r => .rt false x.2 r
      | none => .no)
    | none => (ev cl e .val r).stm fun x r => .rt x.1 x.2 r
  | .retN, r => .rt false .non r
  | .never, _ => .no
  | .set i e, r => (ev cl e .val r).stm fun x r => nxO (store r i x.1 x.2)
  | .unp is e, r => (ev cl e .val r).stm fun x r => nxO (Tg.put r (.many is) x.2)
  | .par i j a b, r => (ev cl a .val r).stm fun x r => (ev cl b .val r).stm fun y r => match store r i x.1 x.2 with
    | some r => nxO (store r j y.1 y.2)
    | none => .no
  | .retT es, r => (evF cl es r).stm fun ps r => if small ps.length then .rt true (.tp ps) r else .no
  | .unpT is es, r => (evF cl es r).stm fun ps r => if small ps.length then nxO (storeF r is ps) else .no
  | .unpC is f _ es, r => (evA cl es r).stm fun as r => (callB cl f as r).stm fun x r => (lift (partsOf x) r).stm fun ps r => nxO (storeF r is ps)
  | .par3 i j l a b c, r => (evL cl (.cons a (.cons b (.cons c .nil))) r).stm fun ds r => nxO (storeL r [i, j, l] ds)
  | .fput Cs i f e, r => (ev cl e .val r).stm fun x r => nxO (putF1 r Cs i f x.2)
  | .aug i e, r => (lift (slotOf r i) r).stm fun _ r => (ev cl e .bor r).stm fun y r => (lift (slotOf r i) r).stm fun x r => match x.1.own, augD x.2 y.2 with
    | true, some d => .nx (r.set i (some (x.1, d)))
    | _, _ => .no
  | .put i k e, r => (ev cl e .val r).stm fun x r => (lift (peek r i) r).stm fun _ r => (ev cl k .bor r).stm fun y r => nxO (putI r i y.2 x.2)
  | .put2 i k j l e, r => (ev cl e .val r).stm fun x r => (lift (pairD x.2) r).stm fun x r => (lift (peek r i) r).stm fun _ r => (ev cl k .bor r).stm fun u r => (lift (putI r i u.2 x.1) r).stm fun r _ => (lift (peek r j) r).stm fun _ r => (ev cl l .bor r).stm fun w r => nxO (putI r j w.2 x.2)
  | .ifs t a b, r => (ev cl t .tst r).stm fun x r => match x.2 with
    | .bl true => run cl a r
    | .bl false => run cl b r
    | _ => .no
  | .fors tg it b, r => (evI cl it r).stm fun xs r => loopF (oneOf tg) (run cl b) xs r
  | .whl t b, r => loopW (ev cl t .tst) (run cl b) fuel r
  | .forsE tg i b, r => match slotOf r i with
    | some (.bo, .lst ys) => loopB (oneOf tg) i (run cl b) ys.length 0 r
    | _ => (evI cl (.enum (.var i)) r).stm fun xs r => loopF (oneOf tg) (run cl b) xs r
/-! ### defs -/
structure Fn where
  np : Nat
  ns : Nat
  body : CS
  /-- a class: its address, its __init__ -/
  kls : Option (Addr × Nat)
def startR (f : Fn) (as : List (Bool × D)) : Rho := as.map (fun a => some (if a.1 then .bo else .sh, a.2)) ++ List.replicate (f.ns - as.length) none
/-- how the parameters stand -/
def outsOf : Nat → Rho → List (Bool × D)
  | 0, _ => []
  | n + 1, x :: r => (match x with
    | some (f, d) => (f.own, d)
    | none => (false, .non)) :: outsOf n r
  | _ + 1, [] => []
def callFn (cl : Cal) (f : Fn) (as : List (Bool × D)) : COut :=
  if as.length = f.np then (match run cl f.body (startR f as) with
    | .nx r => .ok false .non (outsOf f.np r)
    | .rt fr d r => .ok fr d (outsOf f.np r)
    | .ex e r => .ex e (outsOf f.np r)
    | .no => .no) else .no
/-- a new instance, behind its __init__ -/
def made : COut → COut
  | .ok _ .non ((fr, d) :: outs) => .ok fr d outs
  | .ok _ _ _ => .no
  | .ex e (_ :: outs) => .ex e outs
  | _ => .no
def callN (tab : Nat → Option Fn) : Nat → Cal
  | 0, _, _ => .no
  | n + 1, f, as => match tab f with
    | some fn => (match fn.kls with
      | none => callFn (callN tab n) fn as
      | some (C, g) => made (callN tab n g ((true, .ins C []) :: as)))
    | none => .no
end Eg
/-! Eg3: how data lie in a heap, how slots lie. -/
namespace Eg
open PySem PySem.Spec PyProof.Rows L2
/-- a written dict with text and int keys -/
def DwAt (P : Program) (w : World) (K : PySem.W.Frag) (a : Addr) (ks : List (Key × V)) : Prop :=
  ∃ es n vs, K.lookup a = some ⟨.type "dict", none, .dict es n, #[]⟩ ∧ (a == sysModules) = false ∧ ks.length ≤ sizeLine ∧
    KV ks vs ∧ KeysOf (mixKind P w) es ∧ Pairs (mixKind P w) es.toList vs ∧ (vs.map (·.1)).Nodup
/-- a dict that may be read at a: tracked, frozen, or written -/
def DkAt (P : Program) (w : World) (K : PySem.W.Frag) (H : Hp) (a : Addr) (ks : List (Key × V)) : Prop := Rd H a (.dK ks) ∨ DwAt P w K a ks
/-- where and in which world data lie -/
structure Wd where
  P : Program
  w : World
  K : PySem.W.Frag
/-- the name of the class that stands at a place of the module -/
def clsName (P : Program) (i : Nat) : Str := match P.main.body[i]? with
  | some (.ClassDef x ..) => x
  | _ => Str.empty
/-- its address -/
def ca (W : Wd) (i : Nat) : Addr := He.ga W.K (clsName W.P i)
/-- what a class of the program is known by -/
structure KlsOk (K : PySem.W.Frag) (C : Addr) : Prop where
  cl : Cls K C
  ha : PySem.W.findIn K (.ref C) "__class__" = some (some (.builtin "object.__class__"))
  hn : PySem.W.specialIn K (.builtin "object.__class__") "__get__" = some (some (.builtin "getset_descriptor.__get__"))
  htk : PySem.W.takesIn K (.builtin "object.__class__") = some true
  hm : PySem.W.mroIn K C (.type "object") = some true
  ty : ∀ t : String, t ∈ ["str", "int", "bool", "tuple", "list", "dict"] → PySem.W.kitOne K (.ref C) (.type t) = some false
/-- a dict whose keys are tuples, by its object -/
def dnO (a : Addr) (o : Obj) : HO := .ext fun h => h.get? a = some o
abbrev NEnt := NestedKey × Addr × V
/-- its object has these entries -/
def DnObj (P : Program) (w : World) (a : Addr) (o : Obj) (xs : List NEnt) : Prop :=
  (a == sysModules) = false ∧ xs.length ≤ sizeLine ∧ o.ExactDict ∧ (xs.map (·.1)).Nodup ∧ ∃ (es : Array DictEntry) (ep : Nat) (vs : List (NestedKey × Addr × Value)),
    o.data = .dict es ep ∧ es.toList = vs.map (entryOfKey (nestedKind P w)) ∧ Paired (fun (x : NEnt) (y : NestedKey × Addr × Value) => x.1 = y.1 ∧ x.2.1 = y.2.1 ∧ RelV x.2.2 y.2.2) xs vs
/-- a tuple of the module, without a dict of its own -/
def CtAt (K : PySem.W.Frag) (a : Addr) (vs : List V) : Prop := ∃ o its n, K.lookup a = some o ∧ o.cls = .type "tuple" ∧ o.dict = none ∧ o.data = .seq its n ∧ its.size ≤ sizeLine ∧ Vals vs its.toList
mutual
inductive Rp (W : Wd) (H : Hp) : V → D → Prop
  | non : Rp W H .non .non
  | bl (b : Bool) : Rp W H (.bl b) (.bl b)
  | int (i : Int) : Rp W H (.int i) (.int i)
  | str (x : Str) : Rp W H (.str x) (.str x)
  | tup {a : Addr} {vs : List V} {ds : List D} : SqT W.K H a vs → RpL W H vs ds → Rp W H (.ref a) (.tup ds)
  | lst {a : Addr} {vs : List V} {ds : List D} : Rd H a (.lst vs) → RpL W H vs ds → Rp W H (.ref a) (.lst ds)
  | dk {a : Addr} {ks : List (Key × V)} {ds : List (Key × D)} : Rd H a (.dK ks) → RpK W H ks ds → Rp W H (.ref a) (.dk ds)
  | dw {a : Addr} {ks : List (Key × V)} {ds : List (Key × D)} : DwAt W.P W.w W.K a ks → RpK W H ks ds → Rp W H (.ref a) (.dw ds)
  | ins {a dx : Addr} {C : Nat} {fs : List (Str × V)} {ds : List (Str × D)} : KlsOk W.K (ca W C) → H a = some (.ins (ca W C) dx fs) → RpF W H fs ds → Rp W H (.ref a) (.ins C ds)
  | dn {a : Addr} {o : Obj} {xs : List NEnt} {ds : List (D × D)} : H a = some (dnO a o) → DnObj W.P W.w a o xs → RpN W H xs ds → Rp W H (.ref a) (.dn ds)
  | ct {a : Addr} {vs : List V} {ds : List D} : CtAt W.K a vs → RpL W H vs ds → Rp W H (.ref a) (.ct ds)
inductive RpL (W : Wd) (H : Hp) : List V → List D → Prop
  | nil : RpL W H [] []
  | cons {v : V} {vs : List V} {d : D} {ds : List D} : Rp W H v d → RpL W H vs ds → RpL W H (v :: vs) (d :: ds)
inductive RpK (W : Wd) (H : Hp) : List (Key × V) → List (Key × D) → Prop
  | nil : RpK W H [] []
  | cons {k : Key} {v : V} {vs : List (Key × V)} {d : D} {ds : List (Key × D)} : Rp W H v d → RpK W H vs ds → RpK W H ((k, v) :: vs) ((k, d) :: ds)
inductive RpF (W : Wd) (H : Hp) : List (Str × V) → List (Str × D) → Prop
  | nil : RpF W H [] []
  | cons {k : Str} {v : V} {vs : List (Str × V)} {d : D} {ds : List (Str × D)} : Rp W H v d → RpF W H vs ds → RpF W H ((k, v) :: vs) ((k, d) :: ds)
inductive RpN (W : Wd) (H : Hp) : List NEnt → List (D × D) → Prop
  | nil : RpN W H [] []
  | cons {k : NestedKey} {b : Addr} {v : V} {vs : List NEnt} {e d : D} {ds : List (D × D)} : e.tk = some k → Rp W H (.ref b) e → Rp W H v d → RpN W H vs ds → RpN W H ((k, b, v) :: vs) ((e, d) :: ds)
end
/-- nothing that is known is lost -/
abbrev Sub (H H' : Hp) : Prop := ∀ a o, H a = some o → H' a = some o
theorem sub_rd {H H' : Hp} (s : Sub H H') {a : Addr} {o : HO} (h : Rd H a o) : Rd H' a o := by
  rcases h with h | ⟨q, h⟩
  · exact .inl (s _ _ h)
  · exact .inr ⟨q, s _ _ h⟩
theorem sub_t {K : PySem.W.Frag} {H H' : Hp} (s : Sub H H') {a : Addr} {xs : List V} (h : SqT K H a xs) : SqT K H' a xs := by
  rcases h with h | h
  · exact .inl (sub_rd s h)
  · exact .inr h
theorem sub_l {K : PySem.W.Frag} {H H' : Hp} (s : Sub H H') {a : Addr} {xs : List V} (h : SqL K H a xs) : SqL K H' a xs := by
  rcases h with h | h
  · exact .inl (sub_rd s h)
  · exact .inr h
theorem sub_d {P : Program} {w : World} {K : PySem.W.Frag} {H H' : Hp} (s : Sub H H') {a : Addr} {ks : List (Key × V)} (h : DkAt P w K H a ks) : DkAt P w K H' a ks := by
  rcases h with h | h
  · exact .inl (sub_rd s h)
  · exact .inr h
mutual
theorem Rp.mono {W : Wd} {H H' : Hp} (s : Sub H H') : ∀ {v : V} {d : D}, Rp W H v d → Rp W H' v d
  | _, _, .non => .non
  | _, _, .bl b => .bl b
  | _, _, .int i => .int i
  | _, _, .str x => .str x
  | _, _, .tup h r => .tup (sub_t s h) (RpL.mono s r)
  | _, _, .lst h r => .lst (sub_rd s h) (RpL.mono s r)
  | _, _, .dk h r => .dk (sub_rd s h) (RpK.mono s r)
  | _, _, .dw h r => .dw h (RpK.mono s r)
  | _, _, .ins k h r => .ins k (s _ _ h) (RpF.mono s r)
  | _, _, .dn h k r => .dn (s _ _ h) k (RpN.mono s r)
  | _, _, .ct h r => .ct h (RpL.mono s r)
theorem RpL.mono {W : Wd} {H H' : Hp} (s : Sub H H') : ∀ {v : List V} {d : List D}, RpL W H v d → RpL W H' v d
  | _, _, .nil => .nil
  | _, _, .cons a b => .cons (Rp.mono s a) (RpL.mono s b)
theorem RpK.mono {W : Wd} {H H' : Hp} (s : Sub H H') : ∀ {v : List (Key × V)} {d : List (Key × D)}, RpK W H v d → RpK W H' v d
  | _, _, .nil => .nil
  | _, _, .cons a b => .cons (Rp.mono s a) (RpK.mono s b)
theorem RpF.mono {W : Wd} {H H' : Hp} (s : Sub H H') : ∀ {v : List (Str × V)} {d : List (Str × D)}, RpF W H v d → RpF W H' v d
  | _, _, .nil => .nil
  | _, _, .cons a b => .cons (Rp.mono s a) (RpF.mono s b)
theorem RpN.mono {W : Wd} {H H' : Hp} (s : Sub H H') : ∀ {v : List NEnt} {d : List (D × D)}, RpN W H v d → RpN W H' v d
  | _, _, .nil => .nil
  | _, _, .cons k c a b => .cons k (Rp.mono s c) (Rp.mono s a) (RpN.mono s b)
end
theorem RpF.length {W : Wd} {H : Hp} : ∀ {v : List (Str × V)} {d : List (Str × D)}, RpF W H v d → v.length = d.length
  | _, _, .nil => rfl
  | _, _, .cons _ b => by simp [RpF.length b]
theorem RpF.get {W : Wd} {H : Hp} {f : Str} : ∀ {v : List (Str × V)} {d : List (Str × D)} {x : D}, RpF W H v d → getF d f = some x → ∃ u, v.lookup f = some u ∧ Rp W H u x
  | _, _, x, .nil, e => by cases e
  | _, _, x, .cons (k := k) (v := v) (vs := vs) (d := d) (ds := ds) a b, e => by
    unfold getF at e
    rw [List.lookup_cons] at e ⊢
    cases h : f == k with
    | true =>
      rw [h] at e
      cases e
      exact ⟨v, rfl, a⟩
    | false =>
      rw [h] at e
      exact RpF.get b e
theorem RpF.none {W : Wd} {H : Hp} {f : Str} : ∀ {v : List (Str × V)} {d : List (Str × D)}, RpF W H v d → getF d f = none → v.lookup f = none
  | _, _, .nil, e => rfl
  | _, _, .cons (k := k) (v := v) (vs := vs) (d := d) (ds := ds) a b, e => by
    unfold getF at e
    rw [List.lookup_cons] at e ⊢
    cases h : f == k with
    | true =>
      rw [h] at e
      cases e
    | false =>
      rw [h] at e
      exact RpF.none b e
theorem RpF.put {W : Wd} {H : Hp} {f : Str} {x : V} {y : D} (r : Rp W H x y) : ∀ {v : List (Str × V)} {d : List (Str × D)}, RpF W H v d → RpF W H (putF f x v) (setF f y d)
  | _, _, .nil => .cons r .nil
  | _, _, .cons (k := k) (v := v) (vs := vs) (d := d) (ds := ds) a b => by
    unfold putF setF
    by_cases h : k = f
    · rw [if_pos h, if_pos h]
      exact .cons r b
    · rw [if_neg h, if_neg h]
      exact .cons a (RpF.put r b)
theorem RpN.length {W : Wd} {H : Hp} : ∀ {v : List NEnt} {d : List (D × D)}, RpN W H v d → v.length = d.length
  | _, _, .nil => rfl
  | _, _, .cons _ _ _ b => by simp [RpN.length b]
theorem RpL.length {W : Wd} {H : Hp} : ∀ {v : List V} {d : List D}, RpL W H v d → v.length = d.length
  | _, _, .nil => rfl
  | _, _, .cons _ b => by simp [RpL.length b]
theorem RpK.length {W : Wd} {H : Hp} : ∀ {v : List (Key × V)} {d : List (Key × D)}, RpK W H v d → v.length = d.length
  | _, _, .nil => rfl
  | _, _, .cons _ b => by simp [RpK.length b]
theorem RpL.append {W : Wd} {H : Hp} : ∀ {v u : List V} {d e : List D}, RpL W H v d → RpL W H u e → RpL W H (v ++ u) (d ++ e)
  | _, _, _, _, .nil, q => q
  | _, _, _, _, .cons a b, q => .cons a (RpL.append b q)
theorem RpL.get {W : Wd} {H : Hp} : ∀ {v : List V} {d : List D} {i : Nat} {x : D}, RpL W H v d → d[i]? = some x → ∃ u, v[i]? = some u ∧ Rp W H u x
  | _, _, _, _, .nil, e => by simp at e
  | _, _, 0, _, .cons a _, e => by
    simp at e
    subst e
    exact ⟨_, rfl, a⟩
  | _, _, i + 1, _, .cons _ b, e => by
    obtain ⟨u, h1, h2⟩ := RpL.get (i := i) b (by simpa using e)
    exact ⟨u, by simpa using h1, h2⟩
theorem RpL.getV {W : Wd} {H : Hp} : ∀ {v : List V} {d : List D} {i : Nat} {x : V}, RpL W H v d → v[i]? = some x → ∃ u, d[i]? = some u ∧ Rp W H x u
  | _, _, _, _, .nil, e => by simp at e
  | _, _, 0, _, .cons a _, e => by
    simp at e
    subst e
    exact ⟨_, rfl, a⟩
  | _, _, i + 1, _, .cons _ b, e => by
    obtain ⟨u, h1, h2⟩ := RpL.getV (i := i) b (by simpa using e)
    exact ⟨u, by simpa using h1, h2⟩
theorem RpL.take {W : Wd} {H : Hp} : ∀ {v : List V} {d : List D} (n : Nat), RpL W H v d → RpL W H (v.take n) (d.take n)
  | _, _, 0, _ => .nil
  | _, _, _ + 1, .nil => .nil
  | _, _, n + 1, .cons a b => .cons a (RpL.take n b)
theorem RpL.drop {W : Wd} {H : Hp} : ∀ {v : List V} {d : List D} (n : Nat), RpL W H v d → RpL W H (v.drop n) (d.drop n)
  | _, _, 0, r => r
  | _, _, _ + 1, .nil => .nil
  | _, _, n + 1, .cons _ b => RpL.drop n b
theorem RpL.set {W : Wd} {H : Hp} {x : V} {y : D} (r : Rp W H x y) : ∀ {v : List V} {d : List D} (n : Nat), RpL W H v d → RpL W H (v.set n x) (d.set n y)
  | _, _, _, .nil => .nil
  | _, _, 0, .cons _ b => .cons r b
  | _, _, n + 1, .cons a b => .cons a (RpL.set r n b)
theorem RpL.flat {W : Wd} {H : Hp} {v : List V} {d : List D} (r : RpL W H v d) : ∀ n : Nat, RpL W H ((List.replicate n v).flatten) ((List.replicate n d).flatten)
  | 0 => .nil
  | n + 1 => by
    rw [List.replicate_succ, List.replicate_succ, List.flatten_cons, List.flatten_cons]
    exact r.append (RpL.flat r n)
theorem RpK.get {W : Wd} {H : Hp} : ∀ {v : List (Key × V)} {d : List (Key × D)} (k : Key), RpK W H v d → match getK d k with
    | some x => ∃ u, valV v k = some u ∧ Rp W H u x
    | none => valV v k = none
  | _, _, k, .nil => rfl
  | _, _, k, .cons (k := l) (v := v) (vs := vs) (d := d) (ds := ds) a b => by
    have ih := RpK.get k b
    unfold getK
    by_cases e : l = k
    · rw [if_pos e]
      exact ⟨v, by simp [valV, e], a⟩
    · rw [if_neg e]
      have q : valV ((l, v) :: vs) k = valV vs k := by simp [valV, e]
      rw [q]
      exact ih
theorem RpK.has {W : Wd} {H : Hp} {v : List (Key × V)} {d : List (Key × D)} (k : Key) (r : RpK W H v d) : hasK d k = (valV v k).isSome := by
  have q := r.get k
  unfold hasK
  cases e : getK d k with
  | none =>
    rw [e] at q
    rw [show valV v k = none from q]
    rfl
  | some x =>
    rw [e] at q
    obtain ⟨u, q, _⟩ := q
    rw [q]
    rfl
/-- a store, as the layer says it -/
theorem RpK.any {W : Wd} {H : Hp} (k : Key) : ∀ {v : List (Key × V)} {d : List (Key × D)}, RpK W H v d → (v.any fun kv => decide (kv.1 = k)) = d.any fun kv => decide (kv.1 = k)
  | _, _, .nil => rfl
  | _, _, .cons a b => by simp [RpK.any k b]
theorem RpK.repl {W : Wd} {H : Hp} {x : V} {y : D} (r : Rp W H x y) (k : Key) : ∀ {v : List (Key × V)} {d : List (Key × D)}, RpK W H v d →
    RpK W H (v.map fun kv => if kv.1 = k then (kv.1, x) else kv) (d.map fun kv => if kv.1 = k then (kv.1, y) else kv)
  | _, _, .nil => .nil
  | _, _, .cons (k := l) a b => by
    rw [List.map_cons, List.map_cons]
    by_cases e : l = k
    · simp only [e, if_true]
      exact .cons r (RpK.repl r k b)
    · simp only [e, if_false]
      exact .cons a (RpK.repl r k b)
theorem RpK.snoc {W : Wd} {H : Hp} {x : V} {y : D} (r : Rp W H x y) (k : Key) : ∀ {v : List (Key × V)} {d : List (Key × D)}, RpK W H v d → RpK W H (v ++ [(k, x)]) (d ++ [(k, y)])
  | _, _, .nil => .cons r .nil
  | _, _, .cons a b => .cons a (RpK.snoc r k b)
theorem RpK.put {W : Wd} {H : Hp} {x : V} {y : D} (r : Rp W H x y) (k : Key) {v : List (Key × V)} {d : List (Key × D)} (q : RpK W H v d) : RpK W H (putK v k x) (setK d k y) := by
  unfold putK setK
  rw [q.any k]
  by_cases h : (d.any fun kv => decide (kv.1 = k)) = true
  · rw [if_pos h, if_pos h]
    exact q.repl r k
  · rw [if_neg h, if_neg h]
    exact q.snoc r k
theorem RpK.merge {W : Wd} {H : Hp} : ∀ {m : List (Key × V)} {e : List (Key × D)} {v : List (Key × V)} {d : List (Key × D)}, RpK W H m e → RpK W H v d → RpK W H (mergeK v m) (mergeD d e)
  | _, _, _, _, .nil, q => q
  | _, _, _, _, .cons (k := k) (v := x) (vs := vs) (d := y) (ds := ds) a b, q => by
    have h := RpK.merge b (q.put a k)
    exact h
/-! ### what is owned -/
abbrev Own := Addr → Prop
open Classical in
/-- the heap without what is owned -/
noncomputable def mns (H : Hp) (O : Own) : Hp := fun a => if O a then none else H a
theorem mns_some {H : Hp} {O : Own} {a : Addr} {o : HO} : mns H O a = some o ↔ ¬ O a ∧ H a = some o := by
  unfold mns
  by_cases h : O a
  · simp [h]
  · simp [h]
theorem mns_sub {H : Hp} {O : Own} : Sub (mns H O) H := fun _ _ e => (mns_some.mp e).2
theorem mns_less {H : Hp} {O O' : Own} (h : ∀ a, O' a → O a) : Sub (mns H O) (mns H O') := fun _ _ e => mns_some.mpr ⟨fun z => (mns_some.mp e).1 (h _ z), (mns_some.mp e).2⟩
/-- an owned list or dict at a -/
def OwnAt (W : Wd) (O : Own) (H : Hp) (a : Addr) : D → Prop
  | .lst ds => ∃ vs, H a = some (.lst vs) ∧ RpL W (mns H O) vs ds
  | .dk ds => ∃ ks, H a = some (.dK ks) ∧ RpK W (mns H O) ks ds
  | .ins C ds => KlsOk W.K (ca W C) ∧ ∃ dx fs, H a = some (.ins (ca W C) dx fs) ∧ RpF W (mns H O) fs ds
  | .dn ds => ∃ o xs, H a = some (dnO a o) ∧ DnObj W.P W.w a o xs ∧ RpN W (mns H O) xs ds
  | _ => False
theorem OwnAt.isSome {W : Wd} {O : Own} {H : Hp} {a : Addr} {d : D} (h : OwnAt W O H a d) : ∃ o, H a = some o := by
  cases d with
  | lst ds => exact let ⟨_, e, _⟩ := h; ⟨_, e⟩
  | dk ds => exact let ⟨_, e, _⟩ := h; ⟨_, e⟩
  | ins C ds => exact let ⟨_, _, _, e, _⟩ := h; ⟨_, e⟩
  | dn ds => exact let ⟨_, _, e, _⟩ := h; ⟨_, e⟩
  | _ => exact h.elim
theorem OwnAt.mono {W : Wd} {O O' : Own} {H H' : Hp} {a : Addr} {d : D} (h : OwnAt W O H a d) (e : ∀ o, H a = some o → H' a = some o) (s : Sub (mns H O) (mns H' O')) : OwnAt W O' H' a d := by
  cases d with
  | lst ds => exact let ⟨vs, q, r⟩ := h; ⟨vs, e _ q, r.mono s⟩
  | dk ds => exact let ⟨vs, q, r⟩ := h; ⟨vs, e _ q, r.mono s⟩
  | ins C ds => exact let ⟨k, dx, vs, q, r⟩ := h; ⟨k, dx, vs, e _ q, r.mono s⟩
  | dn ds => exact let ⟨o, xs, q, k, r⟩ := h; ⟨o, xs, e _ q, k, r.mono s⟩
  | _ => exact h.elim
theorem OwnAt.rp {W : Wd} {O : Own} {H H' : Hp} {a : Addr} {d : D} (h : OwnAt W O H a d) (e : ∀ o, H a = some o → H' a = some o) (s : Sub (mns H O) H') : Rp W H' (.ref a) d := by
  cases d with
  | lst ds => exact let ⟨vs, q, r⟩ := h; .lst (.inl (e _ q)) (r.mono s)
  | dk ds => exact let ⟨vs, q, r⟩ := h; .dk (.inl (e _ q)) (r.mono s)
  | ins C ds => exact let ⟨k, dx, vs, q, r⟩ := h; .ins k (e _ q) (r.mono s)
  | dn ds => exact let ⟨o, xs, q, k, r⟩ := h; .dn (e _ q) k (r.mono s)
  | _ => exact h.elim
/-- a slot's value lies as its flag says -/
def SlotAt (W : Wd) (O : Own) (H : Hp) (v : V) (f : Fl) (d : D) : Prop :=
  match f.own with
  | true => ∃ a, v = .ref a ∧ O a ∧ OwnAt W O H a d
  | false => Rp W (mns H O) v d
/-- the addresses that the slots own -/
def owned (σ : L2.St) (r : Rho) : Own := fun a => ∃ (i : Nat) (f : Fl) (d : D), r[i]? = some (some (f, d)) ∧ f.own = true ∧ σ[i]? = some (some (.ref a))
/-- the addresses of the frame's own things (none that was lent) -/
def owsA (σ : L2.St) (r : Rho) : Own := fun a => ∃ (i : Nat) (d : D), r[i]? = some (some (.ow, d)) ∧ σ[i]? = some (some (.ref a))
structure EnvOk (W : Wd) (O : Own) (H : Hp) (σ : L2.St) (r : Rho) : Prop where
  len : σ.length = r.length
  sl : ∀ (i : Nat) (f : Fl) (d : D), r[i]? = some (some (f, d)) → ∃ v, σ[i]? = some (some v) ∧ SlotAt W O H v f d
  dj : ∀ (i j : Nat) (f g : Fl) (d e : D) (a : Addr), r[i]? = some (some (f, d)) → f.own = true → σ[i]? = some (some (.ref a)) → r[j]? = some (some (g, e)) → g.own = true → σ[j]? = some (some (.ref a)) → i = j
  al : ∀ a, O a → ∃ o, H a = some o
/-- a step that changes nothing but what F has -/
structure Stp (F O : Own) (H : Hp) (O' : Own) (H' : Hp) : Prop where
  keep : ∀ a o, H a = some o → ¬ F a → H' a = some o
  kown : ∀ a, O a → ¬ F a → O' a
  news : ∀ a, O' a → O a ∨ H a = none
  there : ∀ a, (∃ o, H a = some o) → ∃ o, H' a = some o
theorem Stp.refl {F O : Own} {H : Hp} : Stp F O H O H := ⟨fun _ _ h _ => h, fun _ h _ => h, fun _ h => .inl h, fun _ h => h⟩
theorem Stp.trans {F F1 O O1 O2 : Own} {H H1 H2 : Hp} (al : ∀ a, O a → ∃ o, H a = some o) (s : Stp F O H O1 H1) (t : Stp F1 O1 H1 O2 H2) (hf : ∀ a, F1 a → F a ∨ H a = none) : Stp F O H O2 H2 where
  keep := fun a o h n => t.keep a o (s.keep a o h n) fun z => by
    rcases hf a z with q | q
    · exact n q
    · rw [h] at q
      cases q
  kown := fun a h n => t.kown a (s.kown a h n) fun z => by
    rcases hf a z with q | q
    · exact n q
    · obtain ⟨o, e⟩ := al a h
      rw [e] at q
      cases q
  news := fun a h => by
    rcases t.news a h with q | q
    · exact s.news a q
    · refine .inr ?_
      cases e : H a with
      | none => rfl
      | some o =>
        obtain ⟨o', e'⟩ := s.there a ⟨o, e⟩
        rw [q] at e'
        cases e'
  there := fun a h => t.there a (s.there a h)
/-- what is shared stays -/
theorem Stp.sub {F O O' : Own} {H H' : Hp} (s : Stp F O H O' H') (hf : ∀ a, F a → O a) : Sub (mns H O) (mns H' O') := fun a o e => by
  obtain ⟨n, e⟩ := mns_some.mp e
  refine mns_some.mpr ⟨fun z => ?_, s.keep a o e fun z => n (hf a z)⟩
  rcases s.news a z with q | q
  · exact n q
  · rw [e] at q
    cases q
theorem EnvOk.owns {W : Wd} {O : Own} {H : Hp} {σ : L2.St} {r : Rho} (E : EnvOk W O H σ r) : ∀ a, owned σ r a → O a := fun a ⟨i, f, d, h1, h2, h3⟩ => by
  obtain ⟨v, e, q⟩ := E.sl i f d h1
  rw [h3] at e
  cases e
  unfold SlotAt at q
  rw [h2] at q
  obtain ⟨b, e, o, _⟩ := q
  cases e
  exact o
/-- the result of an expression: new and owned by nobody yet, or shared -/
def ResAt (W : Wd) (H : Hp) (O' : Own) (H' : Hp) (fr : Bool) (d : D) (v : V) : Prop :=
  match fr with
  | true => ∃ a, v = .ref a ∧ O' a ∧ H a = none ∧ OwnAt W O' H' a d
  | false => Rp W (mns H' O') v d
/-- the slots behind an expression -/
structure Aft (W : Wd) (σ : L2.St) (O : Own) (H : Hp) (r : Rho) (O' : Own) (H' : Hp) (r' : Rho) : Prop where
  env : EnvOk W O' H' σ r'
  stp : Stp (owned σ r) O H O' H'
  less : ∀ a, owned σ r' a → owned σ r a
  lk : ∀ (i : Nat) (f : Fl) (d : D), r[i]? = some (some (f, d)) → f.lent = true → ∃ f' d', r'[i]? = some (some (f', d')) ∧ f'.lent = true
  ows : ∀ a, owsA σ r' a → owsA σ r a
theorem Aft.refl {W : Wd} {σ : L2.St} {O : Own} {H : Hp} {r : Rho} (E : EnvOk W O H σ r) : Aft W σ O H r O H r := ⟨E, .refl, fun _ h => h, fun i f d h l => ⟨f, d, h, l⟩, fun _ h => h⟩
theorem Aft.trans {W : Wd} {σ : L2.St} {O O1 O2 : Own} {H H1 H2 : Hp} {r r1 r2 : Rho} (E : EnvOk W O H σ r) (a : Aft W σ O H r O1 H1 r1) (b : Aft W σ O1 H1 r1 O2 H2 r2) : Aft W σ O H r O2 H2 r2 :=
  ⟨b.env, a.stp.trans E.al b.stp fun x h => .inl (a.less x h), fun x h => a.less x (b.less x h), fun i f d h l => by
    obtain ⟨f1, d1, h1, l1⟩ := a.lk i f d h l
    exact b.lk i f1 d1 h1 l1, fun x h => a.ows x (b.ows x h)⟩
theorem Aft.sub {W : Wd} {σ : L2.St} {O O' : Own} {H H' : Hp} {r r' : Rho} (E : EnvOk W O H σ r) (a : Aft W σ O H r O' H' r') : Sub (mns H O) (mns H' O') := a.stp.sub E.owns
/-- the same slots in a heap that has changed elsewhere, fewer things owned -/
theorem EnvOk.move {W : Wd} {O O' : Own} {H H' : Hp} {σ : L2.St} {r : Rho} (E : EnvOk W O H σ r) (k : ∀ a o, H a = some o → owned σ r a → H' a = some o) (ko : ∀ a, owned σ r a → O' a) (s : Sub (mns H O) (mns H' O')) (al : ∀ a, O' a → ∃ o, H' a = some o) : EnvOk W O' H' σ r where
  len := E.len
  sl := fun i f d h => by
    obtain ⟨v, e, q⟩ := E.sl i f d h
    refine ⟨v, e, ?_⟩
    unfold SlotAt at q ⊢
    cases hf : f.own with
    | true =>
      rw [hf] at q
      obtain ⟨a, rfl, o, q⟩ := q
      have o' := ko a ⟨i, f, d, h, hf, e⟩
      exact ⟨a, rfl, o', q.mono (fun x z => k a x z ⟨i, f, d, h, hf, e⟩) s⟩
    | false =>
      rw [hf] at q
      exact q.mono s
  dj := E.dj
  al := al
end Eg
/-! Eg4: readings by data. -/
namespace Eg
open PySem PySem.Spec PyProof.Rows L2
/-! ### outcomes -/
def Good {α : Type} (p : α → Rho → Prop) (w : Exn → Rho → Prop) : Out α → Prop
  | .ok a r => p a r
  | .ex e r => w e r
  | .no => False
theorem Good.mono {α : Type} {p q : α → Rho → Prop} {w u : Exn → Rho → Prop} {x : Out α} (h : Good p w x) (hp : ∀ a r, p a r → q a r) (hw : ∀ e r, w e r → u e r) : Good q u x := by
  cases x with
  | ok a r => exact hp a r h
  | ex e r => exact hw e r h
  | no => exact h
theorem good_bind {α β : Type} {p : β → Rho → Prop} {w : Exn → Rho → Prop} {x : Out α} {f : α → Rho → Out β} : Good p w (x.bind f) ↔ Good (fun a r => Good p w (f a r)) w x := by
  cases x <;> exact Iff.rfl
theorem good_lift {α : Type} {p : α → Rho → Prop} {w : Exn → Rho → Prop} {o : Option α} {r : Rho} : Good p w (lift o r) ↔ ∃ a, o = some a ∧ p a r := by
  cases o with
  | none => exact ⟨fun h => h.elim, fun ⟨_, e, _⟩ => nomatch e⟩
  | some a => exact ⟨fun h => ⟨a, rfl, h⟩, fun ⟨b, e, h⟩ => by
      cases e
      exact h⟩
theorem good_calm {α : Type} {p : α → Rho → Prop} {w : Exn → Rho → Prop} {x : Out α} (h : Good p w (calm x)) : Good p (fun _ _ => False) x := by
  cases x with
  | ok a r => exact h
  | ex e r => exact h.elim
  | no => exact h
/-- what is wanted where an error leaves (none may, so far) -/
def wishOf (W : Wd) (wx : WX) (σ : L2.St) (O : Own) (H : Hp) (r : Rho) : Exn → Rho → Prop := fun _ _ => False
theorem wishOf.after {W : Wd} {wx : WX} {σ : L2.St} {O O' : Own} {H H' : Hp} {r r' : Rho} (E : EnvOk W O H σ r) (a : Aft W σ O H r O' H' r') : ∀ e q, wishOf W wx σ O H r e q → wishOf W wx σ O' H' r' e q := fun _ _ h => h
/-! ### what is shared, what is read -/
theorem share {W : Wd} {σ : L2.St} {O O' : Own} {H H' : Hp} {r r' : Rho} {fr : Bool} {d : D} {v : V} (E : EnvOk W O H σ r) (a : Aft W σ O H r O' H' r') (q : ResAt W H O' H' fr d v) : ∃ O2, Aft W σ O H r O2 H' r' ∧ Rp W (mns H' O2) v d := by
  cases fr with
  | false => exact ⟨O', a, q⟩
  | true =>
    obtain ⟨p, rfl, op, np, q⟩ := q
    have nown : ∀ b, owned σ r' b → b ≠ p := fun b hb e => by
      obtain ⟨o, z⟩ := E.al b (E.owns b (a.less b hb))
      rw [e, np] at z
      cases z
    have sb : Sub (mns H' O') (mns H' fun b => O' b ∧ b ≠ p) := mns_less fun b z => z.1
    refine ⟨fun b => O' b ∧ b ≠ p, ⟨a.env.move (fun b o e _ => e) (fun b hb => ⟨a.env.owns b hb, nown b hb⟩) sb fun b z => a.env.al b z.1, ⟨a.stp.keep, fun b hb nb => ⟨a.stp.kown b hb nb, fun e => ?_⟩, fun b z => a.stp.news b z.1, a.stp.there⟩, a.less, a.lk, a.ows⟩, ?_⟩
    · obtain ⟨o, z⟩ := E.al b hb
      rw [e, np] at z
      cases z
    · obtain ⟨o, eo⟩ := q.isSome
      exact q.rp (fun o' z => mns_some.mpr ⟨fun y => y.2 rfl, z⟩) sb
/-- what may be read: shared, or owned -/
def Rb (W : Wd) (O : Own) (H : Hp) (v : V) (d : D) : Prop := Rp W (mns H O) v d ∨ ∃ a, v = .ref a ∧ O a ∧ OwnAt W O H a d
theorem Rb.rp {W : Wd} {O : Own} {H : Hp} {v : V} {d : D} (h : Rb W O H v d) : Rp W H v d := by
  rcases h with h | ⟨a, rfl, _, h⟩
  · exact h.mono mns_sub
  · exact h.rp (fun _ z => z) mns_sub
theorem Rb.lst {W : Wd} {O : Own} {H : Hp} {v : V} {ds : List D} (h : Rb W O H v (.lst ds)) : ∃ a vs, v = .ref a ∧ Rd H a (.lst vs) ∧ RpL W (mns H O) vs ds := by
  rcases h with h | ⟨a, rfl, _, vs, e, r⟩
  · cases h with
    | lst a r => exact ⟨_, _, rfl, sub_rd mns_sub a, r⟩
  · exact ⟨a, vs, rfl, .inl e, r⟩
theorem Rb.tup {W : Wd} {O : Own} {H : Hp} {v : V} {ds : List D} (h : Rb W O H v (.tup ds)) : ∃ a vs, v = .ref a ∧ SqT W.K H a vs ∧ RpL W (mns H O) vs ds := by
  rcases h with h | ⟨a, rfl, _, h⟩
  · cases h with
    | tup a r => exact ⟨_, _, rfl, sub_t mns_sub a, r⟩
  · exact h.elim
theorem Rb.dk {W : Wd} {O : Own} {H : Hp} {v : V} {ds : List (Key × D)} (h : Rb W O H v (.dk ds)) : ∃ a vs, v = .ref a ∧ Rd H a (.dK vs) ∧ RpK W (mns H O) vs ds := by
  rcases h with h | ⟨a, rfl, _, vs, e, r⟩
  · cases h with
    | dk a r => exact ⟨_, _, rfl, sub_rd mns_sub a, r⟩
  · exact ⟨a, vs, rfl, .inl e, r⟩
theorem Rb.dw {W : Wd} {O : Own} {H : Hp} {v : V} {ds : List (Key × D)} (h : Rb W O H v (.dw ds)) : ∃ a vs, v = .ref a ∧ DwAt W.P W.w W.K a vs ∧ RpK W (mns H O) vs ds := by
  rcases h with h | ⟨a, rfl, _, h⟩
  · cases h with
    | dw a r => exact ⟨_, _, rfl, a, r⟩
  · exact h.elim
theorem Rb.ins {W : Wd} {O : Own} {H : Hp} {v : V} {C : Addr} {ds : List (Str × D)} (h : Rb W O H v (.ins C ds)) : ∃ a dx fs, v = .ref a ∧ KlsOk W.K (ca W C) ∧ H a = some (.ins (ca W C) dx fs) ∧ RpF W (mns H O) fs ds := by
  rcases h with h | ⟨a, rfl, _, k, dx, fs, e, r⟩
  · cases h with
    | ins k a r => exact ⟨_, _, _, rfl, k, mns_sub _ _ a, r⟩
  · exact ⟨a, dx, fs, rfl, k, e, r⟩
theorem Rb.dn {W : Wd} {O : Own} {H : Hp} {v : V} {ds : List (D × D)} (h : Rb W O H v (.dn ds)) : ∃ a o xs, v = .ref a ∧ H a = some (dnO a o) ∧ DnObj W.P W.w a o xs ∧ RpN W (mns H O) xs ds := by
  rcases h with h | ⟨a, rfl, _, o, xs, e, k, r⟩
  · cases h with
    | dn a k r => exact ⟨_, _, _, rfl, mns_sub _ _ a, k, r⟩
  · exact ⟨a, o, xs, rfl, e, k, r⟩
theorem CtAt.sq {K : PySem.W.Frag} {H : Hp} {a : Addr} {vs : List V} (h : CtAt K a vs) : SqT K H a vs := by
  obtain ⟨o, its, n, h1, h2, h3, h4, h5, h6⟩ := h
  exact .inr ⟨o, its, n, h1, h2, h4, h5, h6⟩
theorem Rb.ct {W : Wd} {O : Own} {H : Hp} {v : V} {ds : List D} (h : Rb W O H v (.ct ds)) : ∃ a vs, v = .ref a ∧ CtAt W.K a vs ∧ RpL W (mns H O) vs ds := by
  rcases h with h | ⟨a, rfl, _, h⟩
  · cases h with
    | ct a r => exact ⟨_, _, rfl, a, r⟩
  · exact h.elim
theorem Rb.int {W : Wd} {O : Own} {H : Hp} {v : V} {i : Int} (h : Rb W O H v (.int i)) : v = .int i := by
  cases h.rp
  rfl
theorem Rb.str {W : Wd} {O : Own} {H : Hp} {v : V} {i : Str} (h : Rb W O H v (.str i)) : v = .str i := by
  cases h.rp
  rfl
theorem Rb.bl {W : Wd} {O : Own} {H : Hp} {v : V} {i : Bool} (h : Rb W O H v (.bl i)) : v = .bl i := by
  cases h.rp
  rfl
theorem Rb.non {W : Wd} {O : Own} {H : Hp} {v : V} (h : Rb W O H v .non) : v = .non := by
  cases h.rp
  rfl
/-- several -/
def RbL (W : Wd) (O : Own) (H : Hp) : List V → List D → Prop
  | [], [] => True
  | v :: vs, d :: ds => Rb W O H v d ∧ RbL W O H vs ds
  | _, _ => False
theorem RbL.length {W : Wd} {O : Own} {H : Hp} : ∀ {vs : List V} {ds : List D}, RbL W O H vs ds → vs.length = ds.length
  | [], [], _ => rfl
  | _ :: _, _ :: _, h => by simp [RbL.length h.2]
  | [], _ :: _, h => h.elim
  | _ :: _, [], h => h.elim
theorem EnvOk.peek {W : Wd} {O : Own} {H : Hp} {σ : L2.St} {r : Rho} (E : EnvOk W O H σ r) {i : Nat} {d : D} (h : peek r i = some d) : ∃ v, σ[i]? = some (some v) ∧ Rb W O H v d := by
  unfold Eg.peek at h
  split at h
  · rename_i f d' e
    cases h
    obtain ⟨v, e2, q⟩ := E.sl i f d e
    refine ⟨v, e2, ?_⟩
    unfold SlotAt at q
    cases hf : f.own with
    | true =>
      rw [hf] at q
      exact .inr q
    | false =>
      rw [hf] at q
      exact .inl q
  · cases h
theorem Fl.shared_own (f : Fl) : f.shared.own = false := by cases f <;> rfl
theorem unown_ok {W : Wd} {O : Own} {H : Hp} {σ : L2.St} {r r' : Rho} (E : EnvOk W O H σ r) {i : Nat} {d : D} (h : unown r i = some (d, r')) : ∃ v O', σ[i]? = some (some v) ∧ Aft W σ O H r O' H r' ∧ Rp W (mns H O') v d := by
  unfold unown at h
  split at h
  · rename_i f d' e
    have h2 := Option.some.inj h
    obtain ⟨rfl, rfl⟩ := Prod.mk.inj h2
    obtain ⟨v, ev, q⟩ := E.sl i f d' e
    have hi : i < r.length := (List.getElem?_eq_some_iff.mp e).1
    have lkset : ∀ (j : Nat) (g : Fl) (x : D), r[j]? = some (some (g, x)) → g.lent = true → ∃ f' d'', (r.set i (some (f.shared, d')))[j]? = some (some (f', d'')) ∧ f'.lent = true := fun j g x hj hl => by
      by_cases hij : i = j
      · subst hij
        rw [e] at hj
        cases hj
        refine ⟨f.shared, d', List.getElem?_set_self hi, ?_⟩
        cases f <;> first | rfl | cases hl
      · exact ⟨g, x, by rw [List.getElem?_set_ne hij]; exact hj, hl⟩
    have owset : ∀ a, owsA σ (r.set i (some (f.shared, d'))) a → owsA σ r a := fun a ⟨j, x, hj, hv⟩ => by
      by_cases hij : i = j
      · subst hij
        rw [List.getElem?_set_self hi] at hj
        cases f <;> cases hj
      · rw [List.getElem?_set_ne hij] at hj
        exact ⟨j, x, hj, hv⟩
    unfold SlotAt at q
    cases hf : f.own with
    | false =>
      rw [hf] at q
      refine ⟨v, O, ev, ⟨⟨by rw [List.length_set]; exact E.len, fun j g x hj => ?_, fun j k g g' x y a h1 h2 h3 h4 h5 h6 => ?_, E.al⟩, .refl, fun a ⟨j, g, x, h1, h2, h3⟩ => ?_, lkset, owset⟩, q⟩
      · by_cases hij : i = j
        · subst hij
          rw [List.getElem?_set_self hi] at hj
          cases hj
          refine ⟨v, ev, ?_⟩
          unfold SlotAt
          rw [Fl.shared_own]
          exact q
        · rw [List.getElem?_set_ne hij] at hj
          exact E.sl j g x hj
      · have nj : i ≠ j := fun z => by
          subst z
          rw [List.getElem?_set_self hi] at h1
          cases h1
          rw [Fl.shared_own] at h2
          cases h2
        have nk : i ≠ k := fun z => by
          subst z
          rw [List.getElem?_set_self hi] at h4
          cases h4
          rw [Fl.shared_own] at h5
          cases h5
        rw [List.getElem?_set_ne nj] at h1
        rw [List.getElem?_set_ne nk] at h4
        exact E.dj j k g g' x y a h1 h2 h3 h4 h5 h6
      · have nj : i ≠ j := fun z => by
          subst z
          rw [List.getElem?_set_self hi] at h1
          cases h1
          rw [Fl.shared_own] at h2
          cases h2
        rw [List.getElem?_set_ne nj] at h1
        exact ⟨j, g, x, h1, h2, h3⟩
    | true =>
      rw [hf] at q
      obtain ⟨p, rfl, op, q⟩ := q
      have isown : owned σ r p := ⟨i, f, d', e, hf, ev⟩
      have sb : Sub (mns H O) (mns H fun b => O b ∧ b ≠ p) := mns_less fun b z => z.1
      have nj : ∀ (j : Nat) (g : Fl) (x : D), (r.set i (some (f.shared, d')))[j]? = some (some (g, x)) → g.own = true → i ≠ j ∧ r[j]? = some (some (g, x)) := fun j g x h1 h2 => by
        have z : i ≠ j := fun z => by
          subst z
          rw [List.getElem?_set_self hi] at h1
          cases h1
          rw [Fl.shared_own] at h2
          cases h2
        rw [List.getElem?_set_ne z] at h1
        exact ⟨z, h1⟩
      refine ⟨.ref p, fun b => O b ∧ b ≠ p, ev, ⟨⟨by rw [List.length_set]; exact E.len, fun j g x hj => ?_, fun j k g g' x y a h1 h2 h3 h4 h5 h6 => ?_, fun b z => E.al b z.1⟩, ⟨fun _ _ z _ => z, fun b hb nb => ⟨hb, fun z => nb (by rw [z]; exact isown)⟩, fun b z => .inl z.1, fun _ z => z⟩, fun a ⟨j, g, x, h1, h2, h3⟩ => ?_, lkset, owset⟩, ?_⟩
      · by_cases hij : i = j
        · subst hij
          rw [List.getElem?_set_self hi] at hj
          cases hj
          refine ⟨.ref p, ev, ?_⟩
          unfold SlotAt
          rw [Fl.shared_own]
          exact q.rp (fun o z => mns_some.mpr ⟨fun y => y.2 rfl, z⟩) sb
        · rw [List.getElem?_set_ne hij] at hj
          obtain ⟨u, eu, qu⟩ := E.sl j g x hj
          refine ⟨u, eu, ?_⟩
          unfold SlotAt at qu ⊢
          cases hg : g.own with
          | false =>
            rw [hg] at qu
            exact qu.mono sb
          | true =>
            rw [hg] at qu
            obtain ⟨b, rfl, ob, qb⟩ := qu
            exact ⟨b, rfl, ⟨ob, fun z => hij (E.dj i j f g d' x p e hf ev hj hg (by rw [← z]; exact eu))⟩, qb.mono (fun _ z => z) sb⟩
      · exact E.dj j k g g' x y a (nj j g x h1 h2).2 h2 h3 (nj k g' y h4 h5).2 h5 h6
      · exact ⟨j, g, x, (nj j g x h1 h2).2, h2, h3⟩
      · exact q.rp (fun o z => mns_some.mpr ⟨fun y => y.2 rfl, z⟩) sb
  · cases h
/-! ### readings -/
section
variable (W : Wd) (cl : Cal) (wx : WX)
/-- e is worth c -/
def tV (c : CE) : TE := fun σ H Q => ∃ O r, EnvOk W O H σ r ∧ Good (fun x r' => ∀ v H' O', Aft W σ O H r O' H' r' → ResAt W H O' H' x.1 x.2 v → Q v H') (wishOf W wx σ O H r) (ev cl c .val r)
/-- .. only read -/
def tR (c : CE) : TE := fun σ H Q => ∃ O r, EnvOk W O H σ r ∧ Good (fun x r' => ∀ v H' O', Aft W σ O H r O' H' r' → Rb W O' H' v x.2 → Q v H') (wishOf W wx σ O H r) (ev cl c .bor r)
/-- .. as a test -/
def tQ (c : CE) : TT := fun σ H Q => ∃ O r, EnvOk W O H σ r ∧ Good (fun x r' => ∃ b, x.2 = .bl b ∧ ∀ H' O', Aft W σ O H r O' H' r' → Q b H') (wishOf W wx σ O H r) (ev cl c .tst r)
/-- values that are kept; that are read -/
def tKs (c : CE) : TA := fun σ H Q => ∃ O r, EnvOk W O H σ r ∧ Good (fun ds r' => ∀ vs H' O', Aft W σ O H r O' H' r' → RpL W (mns H' O') vs ds → Q vs H') (wishOf W wx σ O H r) (evL cl c r)
def tRs (c : CE) : TA := fun σ H Q => ∃ O r, EnvOk W O H σ r ∧ Good (fun ds r' => ∀ vs H' O', Aft W σ O H r O' H' r' → RbL W O' H' vs ds → Q vs H') (wishOf W wx σ O H r) (evB cl c r)
end
theorem _root_.L2.PE.wk {X : Cx} {e : Expr} {t t' : TE} (h : PE X e t) (k : ∀ σ H Q, t' σ H Q → t σ H Q) : PE X e t' := ⟨fun pins s σ H Q I q => h.run pins s σ H Q I (k σ H Q q)⟩
theorem _root_.L2.PT.wk {X : Cx} {e : Expr} {t t' : TT} (h : PT X e t) (k : ∀ σ H Q, t' σ H Q → t σ H Q) : PT X e t' := ⟨fun pins s σ H Q I q => h.run pins s σ H Q I (k σ H Q q)⟩
theorem _root_.L2.PA.wk {X : Cx} {e : List Expr} {t t' : TA} (h : PA X e t) (k : ∀ σ H Q, t' σ H Q → t σ H Q) : PA X e t' := ⟨fun pos pins s σ H Q I q => h.run pos pins s σ H Q I (k σ H Q q)⟩
theorem _root_.L2.PS.wk {X : Cx} {e : Stmt} {t t' : TS} (h : PS X e t) (k : ∀ D σ H, t' D σ H → t D σ H) : PS X e t' := ⟨fun pins s σ H D I q => h.run pins s σ H D I (k D σ H q)⟩
theorem _root_.L2.PSs.wk {X : Cx} {e : List Stmt} {t t' : TS} (h : PSs X e t) (k : ∀ D σ H, t' D σ H → t D σ H) : PSs X e t' := ⟨fun pins s σ H D I q => h.run pins s σ H D I (k D σ H q)⟩
/-- an expression is worth its code: kept, read, as a test -/
structure SE (W : Wd) (cl : Cal) (wx : WX) (X : Cx) (c : CE) (e : Expr) : Prop where
  v : PE X e (tV W cl wx c)
  r : PE X e (tR W cl wx c)
  t : PT X e (tQ W cl wx c)
  n : ∀ i, c.late = some i → PE X e (tVar i)
section
variable {W : Wd} {cl : Cal} {wx : WX} {X : Cx}
/-- enter: the slots, the outcome -/
theorem tV.at {c : CE} {σ : L2.St} {H : Hp} {Q : VK} {O : Own} {r : Rho} {p : Bool × D → Rho → Prop} (E : EnvOk W O H σ r) (h : Good p (wishOf W wx σ O H r) (ev cl c .val r))
    (k : ∀ x r' v H' O', p x r' → Aft W σ O H r O' H' r' → ResAt W H O' H' x.1 x.2 v → Q v H') : tV W cl wx c σ H Q := ⟨O, r, E, h.mono (fun x r' hp v H' O' a q => k x r' v H' O' hp a q) fun _ _ z => z⟩
/-- .. the value shared -/
theorem tV.sh {c : CE} {σ : L2.St} {H : Hp} {Q : VK} {O : Own} {r : Rho} {p : Bool × D → Rho → Prop} (E : EnvOk W O H σ r) (h : Good p (wishOf W wx σ O H r) (ev cl c .val r))
    (k : ∀ x r' v H' O', p x r' → Aft W σ O H r O' H' r' → Rp W (mns H' O') v x.2 → Q v H') : tV W cl wx c σ H Q :=
  tV.at E h fun x r' v H' O' hp a q => by
    obtain ⟨O2, a2, q2⟩ := share E a q
    exact k x r' v H' O2 hp a2 q2
theorem tR.at {c : CE} {σ : L2.St} {H : Hp} {Q : VK} {O : Own} {r : Rho} {p : Bool × D → Rho → Prop} (E : EnvOk W O H σ r) (h : Good p (wishOf W wx σ O H r) (ev cl c .bor r))
    (k : ∀ x r' v H' O', p x r' → Aft W σ O H r O' H' r' → Rb W O' H' v x.2 → Q v H') : tR W cl wx c σ H Q := ⟨O, r, E, h.mono (fun x r' hp v H' O' a q => k x r' v H' O' hp a q) fun _ _ z => z⟩
theorem tQ.at {c : CE} {σ : L2.St} {H : Hp} {Q : Bool → Hp → Prop} {O : Own} {r : Rho} {p : Bool × D → Rho → Prop} (E : EnvOk W O H σ r) (h : Good p (wishOf W wx σ O H r) (ev cl c .tst r))
    (k : ∀ x r', p x r' → ∃ b, x.2 = .bl b ∧ ∀ H' O', Aft W σ O H r O' H' r' → Q b H') : tQ W cl wx c σ H Q := ⟨O, r, E, h.mono k fun _ _ z => z⟩
theorem tKs.at {c : CE} {σ : L2.St} {H : Hp} {Q : List V → Hp → Prop} {O : Own} {r : Rho} {p : List D → Rho → Prop} (E : EnvOk W O H σ r) (h : Good p (wishOf W wx σ O H r) (evL cl c r))
    (k : ∀ ds r' vs H' O', p ds r' → Aft W σ O H r O' H' r' → RpL W (mns H' O') vs ds → Q vs H') : tKs W cl wx c σ H Q := ⟨O, r, E, h.mono (fun x r' hp v H' O' a q => k x r' v H' O' hp a q) fun _ _ z => z⟩
theorem tRs.at {c : CE} {σ : L2.St} {H : Hp} {Q : List V → Hp → Prop} {O : Own} {r : Rho} {p : List D → Rho → Prop} (E : EnvOk W O H σ r) (h : Good p (wishOf W wx σ O H r) (evB cl c r))
    (k : ∀ ds r' vs H' O', p ds r' → Aft W σ O H r O' H' r' → RbL W O' H' vs ds → Q vs H') : tRs W cl wx c σ H Q := ⟨O, r, E, h.mono (fun x r' hp v H' O' a q => k x r' v H' O' hp a q) fun _ _ z => z⟩
/-- the outcome behind a step -/
theorem Good.on {α : Type} {p : α → Rho → Prop} {σ : L2.St} {O O' : Own} {H H' : Hp} {r r' : Rho} {x : Out α} (h : Good p (wishOf W wx σ O H r) x) (E : EnvOk W O H σ r) (a : Aft W σ O H r O' H' r') : Good p (wishOf W wx σ O' H' r') x :=
  h.mono (fun _ _ z => z) (wishOf.after E a)
/-- where a value has no name of its own, reading it is keeping it -/
theorem ev_bor {c : CE} (h : c.late = none) (r : Rho) : ev cl c .bor r = ev cl c .val r := by
  cases c <;> first | rfl | cases h
/-- the truth of a value, as the layer has it -/
theorem truth_ok {H : Hp} {v : V} {d : D} {b : Bool} (q : Rp W H v d) (h : d.truth = some b) : TruV W.K v H b := by
  cases q with
  | non =>
    cases h
    rfl
  | bl x =>
    cases h
    rfl
  | int i =>
    cases h
    rfl
  | str x =>
    have h : (if x.length ≤ sizeLine then some (x.length != 0) else none) = some b := h
    by_cases hz : x.length ≤ sizeLine
    · rw [if_pos hz] at h
      cases h
      refine ⟨hz, ?_⟩
      by_cases h0 : x.length = 0
      · rw [h0]
        rfl
      · have e1 : (x.length != 0) = true := by simpa using h0
        have e2 : ((x.length : Int) != 0) = true := by simpa using h0
        rw [e1, e2]
    · rw [if_neg hz] at h
      cases h
  | tup a c =>
    cases h
    refine .inr (.inl ⟨_, a, ?_⟩)
    cases c <;> rfl
  | lst a c =>
    cases h
    refine .inl ⟨_, .inl a, ?_⟩
    cases c <;> rfl
  | dk a c => cases h
  | dw a c => cases h
  | ins k a c => cases h
  | dn a k c => cases h
  | ct a c => cases h
/-- an expression with a value of its own -/
theorem SE.leaf {c : CE} {e : Expr} (hv : PE X e (tV W cl wx c)) (hW : W = ⟨X.prog, X.w, X.K⟩) (hl : c.late = none) (ht : ∀ r, ev cl c .tst r = tru (ev cl c .val r)) (he : ∀ whole, isTrue e X.env whole = (do let v ← whole; standAt e.pos; holding [v] (truthy v))) : SE W cl wx X c e := by
  have hr : PE X e (tR W cl wx c) := hv.wk fun σ H Q ⟨O, r, E, h⟩ => by
    rw [ev_bor hl] at h
    exact tV.sh E h fun x r' v H' O' hp a q => hp v H' O' a (.inl q)
  refine ⟨hv, hr, (pt_truth hr he).wk ?_, fun i hi => by rw [hl] at hi; cases hi⟩
  intro σ H Q ⟨O, r, E, h⟩
  rw [ht] at h
  unfold tru at h
  have h2 := good_bind.mp h
  rw [← ev_bor hl] at h2
  refine tR.at E h2 fun x r' v H' O' hp a q => ?_
  obtain ⟨b, eb, hq⟩ := good_lift.mp (good_bind.mp hp)
  obtain ⟨b', e1, k⟩ := hq
  cases e1
  have tr := truth_ok q.rp eb
  rw [hW] at tr
  exact ⟨b, tr, k H' O' a⟩
end
end Eg
/-! Eg5: expressions. -/
namespace Eg
open PySem PySem.Spec PyProof.Rows L2
/-! ### new objects -/
theorem sub_new {H : Hp} {p : Addr} {o : HO} (n : H p = none) : Sub H (upd H p o) := fun a u e => by
  rw [upd_ne (ne_of_none e n)]
  exact e
theorem subm_new {H : Hp} {O : Own} {p : Addr} {o : HO} (n : H p = none) : Sub (mns H O) (mns (upd H p o) O) := fun a u e => by
  obtain ⟨n1, e1⟩ := mns_some.mp e
  exact mns_some.mpr ⟨n1, sub_new n a u e1⟩
section
variable {W : Wd} {σ : L2.St} {O : Own} {H : Hp} {r : Rho} {p : Addr}
theorem aft_new {o : HO} (E : EnvOk W O H σ r) (n : H p = none) : Aft W σ O H r O (upd H p o) r :=
  ⟨E.move (fun a u e _ => sub_new n a u e) E.owns (subm_new n) fun a h => let ⟨u, e⟩ := E.al a h; ⟨u, sub_new n a u e⟩,
    ⟨fun a u e _ => sub_new n a u e, fun a h _ => h, fun a h => .inl h, fun a ⟨u, e⟩ => ⟨u, sub_new n a u e⟩⟩, fun a h => h, fun i f d h l => ⟨f, d, h, l⟩, fun _ h => h⟩
theorem notO (E : EnvOk W O H σ r) (n : H p = none) : ¬ O p := fun h => by
  obtain ⟨o, e⟩ := E.al p h
  rw [n] at e
  cases e
theorem new_tup {vs : List V} {ds : List D} (E : EnvOk W O H σ r) (n : H p = none) (q : RpL W (mns H O) vs ds) : Rp W (mns (upd H p (.tup vs)) O) (.ref p) (.tup ds) :=
  .tup (SqT.of (mns_some.mpr ⟨notO E n, upd_same⟩)) (q.mono (subm_new n))
/-- a new thing that is owned -/
theorem aft_own {o : HO} (E : EnvOk W O H σ r) (n : H p = none) : Aft W σ O H r (fun b => O b ∨ b = p) (upd H p o) r := by
  have sb : Sub (mns H O) (mns (upd H p o) fun b => O b ∨ b = p) := fun a u e => by
    obtain ⟨n1, e1⟩ := mns_some.mp e
    exact mns_some.mpr ⟨fun z => z.elim n1 (ne_of_none e1 n), sub_new n a u e1⟩
  exact ⟨E.move (fun a u e _ => sub_new n a u e) (fun a h => .inl (E.owns a h)) sb fun a h => by
      rcases h with h | h
      · obtain ⟨u, e⟩ := E.al a h
        exact ⟨u, sub_new n a u e⟩
      · exact ⟨o, by rw [h, upd_same]⟩,
    ⟨fun a u e _ => sub_new n a u e, fun a h _ => .inl h, fun a h => by
      rcases h with h | h
      · exact .inl h
      · exact .inr (by rw [h]; exact n), fun a ⟨u, e⟩ => ⟨u, sub_new n a u e⟩⟩, fun a h => h, fun i f d h l => ⟨f, d, h, l⟩, fun _ h => h⟩
theorem subm_own {o : HO} (E : EnvOk W O H σ r) (n : H p = none) : Sub (mns H O) (mns (upd H p o) fun b => O b ∨ b = p) := fun a u e => by
  obtain ⟨n1, e1⟩ := mns_some.mp e
  exact mns_some.mpr ⟨fun z => z.elim n1 (ne_of_none e1 n), sub_new n a u e1⟩
theorem new_lst {vs : List V} {ds : List D} (E : EnvOk W O H σ r) (n : H p = none) (q : RpL W (mns H O) vs ds) : ResAt W H (fun b => O b ∨ b = p) (upd H p (.lst vs)) true (.lst ds) (.ref p) :=
  ⟨p, rfl, .inr rfl, n, vs, upd_same, q.mono (subm_own E n)⟩
theorem new_dk {vs : List (Key × V)} {ds : List (Key × D)} (E : EnvOk W O H σ r) (n : H p = none) (q : RpK W (mns H O) vs ds) : ResAt W H (fun b => O b ∨ b = p) (upd H p (.dK vs)) true (.dk ds) (.ref p) :=
  ⟨p, rfl, .inr rfl, n, vs, upd_same, q.mono (subm_own E n)⟩
/-- new here is new from the start on -/
theorem _root_.Eg.Stp.fresh {F O' : Own} {H' : Hp} (s : Stp F O H O' H') {a : Addr} (h : H' a = none) : H a = none := by
  cases e : H a with
  | none => rfl
  | some o =>
    obtain ⟨o', e'⟩ := s.there a ⟨o, e⟩
    rw [h] at e'
    cases e'
theorem ResAt.back {F O1 O2 : Own} {H1 H2 : Hp} {fr : Bool} {d : D} {v : V} (s : Stp F O H O1 H1) (q : ResAt W H1 O2 H2 fr d v) : ResAt W H O2 H2 fr d v := by
  cases fr with
  | false => exact q
  | true =>
    obtain ⟨a, e, o, n, q⟩ := q
    exact ⟨a, e, o, s.fresh n, q⟩
end
theorem Rb.move {W : Wd} {O O' : Own} {H H' : Hp} {v : V} {d : D} (s : Sub (mns H O) (mns H' O')) (h : Rp W (mns H O) v d) : Rb W O' H' v d := .inl (h.mono s)
theorem _root_.Eg.EnvOk.peekAt {W : Wd} {O : Own} {H : Hp} {σ : L2.St} {r : Rho} (E : EnvOk W O H σ r) {i : Nat} {d : D} {v : V} (ev : σ[i]? = some (some v)) (h : Eg.peek r i = some d) : Rb W O H v d := by
  obtain ⟨u, eu, q⟩ := E.peek h
  rw [ev] at eu
  cases eu
  exact q
/-! ### names, constants -/
section
variable {W : Wd} {cl : Cal} {wx : WX} {X : Cx} {pos : Pos}
theorem se_var {i : Nat} {x : Str} (hW : W = ⟨X.prog, X.w, X.K⟩) (hN : X.N[i]? = some x) (hv : Vis X.env.scope x) (hd : (x == ("__debug__" : Str)) = false) (hcd : (x == ("__classdict__" : Str)) = false) : SE W cl wx X (.var i) (.Name x pos) := by
  have hp : PE X (.Name x pos) (tVar i) := pe_var hN hv hd hcd
  have hr : PE X (.Name x pos) (tR W cl wx (.var i)) := hp.wk fun σ H Q ⟨O, r, E, h⟩ => by
    obtain ⟨d, e, k⟩ := good_lift.mp (good_bind.mp h)
    obtain ⟨v, ev, q⟩ := E.peek e
    exact ⟨v, ev, k v H O (.refl E) q⟩
  refine ⟨hp.wk ?_, hr, (pt_truth hr (fun _ => rfl)).wk ?_, fun j hj => by
    cases hj
    exact hp⟩
  · intro σ H Q ⟨O, r, E, h⟩
    obtain ⟨⟨d, r'⟩, e, k⟩ := good_lift.mp (good_bind.mp h)
    obtain ⟨v, O', ev, a, q⟩ := unown_ok E e
    exact ⟨v, ev, k v H O' a q⟩
  · intro σ H Q ⟨O, r, E, h⟩
    have h2 : Good _ _ (tru ((lift (peek r i) r).bind fun x r => .ok (false, x) r)) := h
    unfold tru at h2
    have h3 := good_bind.mp h2
    refine tR.at (p := fun x r' => _) E h3 fun x r' v H' O' hp a q => ?_
    obtain ⟨b, eb, hq⟩ := good_lift.mp (good_bind.mp hp)
    obtain ⟨b', e1, k⟩ := hq
    cases e1
    have tr := truth_ok q.rp eb
    rw [hW] at tr
    exact ⟨b, tr, k H' O' a⟩
/-- what is no name, by its value -/
def litOf : Const → Option D
  | .none => some .non
  | .bool b => some (.bl b)
  | .int i => some (.int i)
  | .str x => some (.str x)
  | _ => none
theorem se_lit {k : Const} {j : Nat} {d : D} (hW : W = ⟨X.prog, X.w, X.K⟩) (h : litOf k = some d) : SE W cl wx X (.lit d) (.Constant k j pos) := by
  have main : ∀ v, PE X (.Constant k j pos) (tC v) → (∀ H, Rp W H v d) → SE W cl wx X (.lit d) (.Constant k j pos) := fun v hp hr =>
    SE.leaf (hp.wk fun σ H Q ⟨O, r, E, h⟩ => h v H O (.refl E) (hr _)) hW rfl (fun _ => rfl) (fun _ => rfl)
  cases k with
  | none =>
    cases h
    exact main .non pe_non fun _ => .non
  | bool b =>
    cases h
    exact main (.bl b) pe_bl fun _ => .bl b
  | int i =>
    cases h
    exact main (.int i) pe_int fun _ => .int i
  | str x =>
    cases h
    exact main (.str x) pe_str fun _ => .str x
  | _ => cases h
theorem se_con {x : Str} {d : D} {v : V} {u : Value} (hW : W = ⟨X.prog, X.w, X.K⟩) (hg : Gl X x) (hm : X.mg x = some u) (r : RelV v u) (hd : (x == ("__debug__" : Str)) = false) (q : Rp W (fun _ => none) v d) : SE W cl wx X (.con x d) (.Name x pos) :=
  SE.leaf ((pe_glob hg hm r hd).wk fun σ H Q ⟨O, r, E, h⟩ => h v H O (.refl E) (q.mono fun _ _ z => by cases z)) hW rfl (fun _ => rfl) (fun _ => rfl)
/-! ### several values -/
theorem ks_nil : PA X [] (tKs W cl wx .nil) := pa_nil.wk fun σ H Q ⟨O, r, E, h⟩ => h [] H O (.refl E) .nil
theorem ks_cons {c t : CE} {e : Expr} {es : List Expr} (h1 : SE W cl wx X c e) (h2 : PA X es (tKs W cl wx t)) (hs : starEach (e :: es) X.env = (false, eval e X.env) :: starEach es X.env) : PA X (e :: es) (tKs W cl wx (.cons c t)) :=
  (pa_cons h1.v h2 hs).wk fun σ H Q ⟨O, r, E, h⟩ => by
    refine tV.sh E (good_bind.mp h) fun x r1 v H1 O1 hp a1 q1 => ?_
    refine tKs.at a1.env ((good_bind.mp hp).on E a1) fun ds r2 vs H2 O2 hp2 a2 q2 => ?_
    exact hp2 (v :: vs) H2 O2 (a1.trans E a2) (.cons (q1.mono (a2.sub a1.env)) q2)
theorem rs_nil : PA X [] (tRs W cl wx .nil) := pa_nil.wk fun σ H Q ⟨O, r, E, h⟩ => h [] H O (.refl E) trivial
theorem rs_cons {c t : CE} {e : Expr} {es : List Expr} (h1 : SE W cl wx X c e) (h2 : PA X es (tRs W cl wx t)) (hs : starEach (e :: es) X.env = (false, eval e X.env) :: starEach es X.env) : PA X (e :: es) (tRs W cl wx (.cons c t)) := by
  cases hl : c.late with
  | some i =>
    refine (pa_cons (h1.n i hl) h2 hs).wk fun σ H Q ⟨O, r, E, h⟩ => ?_
    have h : Good _ _ ((two c.late (ev cl c .val) (fun r => (evB cl t r).bind fun ds r => .ok (false, .lst ds) r) r).bind fun x r => match x.2 with
      | .lst ds => .ok (x.1 :: ds) r
      | _ => .no) := h
    rw [hl] at h
    obtain ⟨d0, e0, h⟩ := good_lift.mp (good_bind.mp (good_bind.mp h))
    have h := good_bind.mp (good_bind.mp h)
    obtain ⟨v, ev, _⟩ := E.peek e0
    refine ⟨v, ev, tRs.at E h fun ds r1 vs H1 O1 hp a1 q1 => ?_⟩
    obtain ⟨d, e, k⟩ := good_lift.mp (good_bind.mp hp)
    exact k (v :: vs) H1 O1 a1 ⟨a1.env.peekAt ev e, q1⟩
  | none =>
    refine (pa_cons h1.v h2 hs).wk fun σ H Q ⟨O, r, E, h⟩ => ?_
    have h : Good _ _ ((two c.late (ev cl c .val) (fun r => (evB cl t r).bind fun ds r => .ok (false, .lst ds) r) r).bind fun x r => match x.2 with
      | .lst ds => .ok (x.1 :: ds) r
      | _ => .no) := h
    rw [hl] at h
    have h := good_bind.mp (good_bind.mp h)
    refine tV.sh E h fun x r1 v H1 O1 hp a1 q1 => ?_
    have hp := good_bind.mp (good_bind.mp (show Good _ _ (((evB cl t r1).bind fun ds r => Out.ok (false, D.lst ds) r).bind fun y r => Out.ok (x.2, y.2) r) from hp))
    refine tRs.at a1.env (hp.on E a1) fun ds r2 vs H2 O2 hp2 a2 q2 => ?_
    exact hp2 (v :: vs) H2 O2 (a1.trans E a2) ⟨Rb.move (a2.sub a1.env) q1, q2⟩
end
end Eg
/-! Eg6: operators, tests, displays. -/
namespace Eg
open PySem PySem.Spec PyProof.Rows L2
section
variable {W : Wd} {cl : Cal} {wx : WX} {X : Cx} {pos : Pos}
/-- a left operand -/
def tA1 (W : Wd) (cl : Cal) (wx : WX) (c : CE) : TE := match c.late with
  | some i => tVar i
  | none => tV W cl wx c
theorem SE.a1 {c : CE} {e : Expr} (h : SE W cl wx X c e) : PE X e (tA1 W cl wx c) := by
  unfold tA1
  cases hl : c.late with
  | some i => exact h.n i hl
  | none => exact h.v
theorem two_op {c1 c2 : CE} {rd : R2} {σ : L2.St} {H : Hp} {Q : VK} {O : Own} {r : Rho} {p : D × D → Rho → Prop} (E : EnvOk W O H σ r) (h : Good p (wishOf W wx σ O H r) (two c1.late (ev cl c1 .val) (ev cl c2 .bor) r))
    (k : ∀ x r' v u H' O', p x r' → Aft W σ O H r O' H' r' → Rb W O' H' v x.1 → Rb W O' H' u x.2 → rd v u H' Q) : tOp rd (tA1 W cl wx c1) (tR W cl wx c2) σ H Q := by
  unfold tOp tA1
  unfold two at h
  cases hl : c1.late with
  | some i =>
    rw [hl] at h
    obtain ⟨d0, e0, h⟩ := good_lift.mp (good_bind.mp h)
    obtain ⟨v, ev, _⟩ := E.peek e0
    refine ⟨v, ev, tR.at E (good_bind.mp h) fun y r1 u H1 O1 hp a1 q1 => ?_⟩
    obtain ⟨d, e, hq⟩ := good_lift.mp (good_bind.mp hp)
    exact k (d, y.2) r1 v u H1 O1 hq a1 (a1.env.peekAt ev e) q1
  | none =>
    rw [hl] at h
    refine tV.sh E (good_bind.mp h) fun x r1 v H1 O1 hp a1 q1 => ?_
    refine tR.at a1.env ((good_bind.mp hp).on E a1) fun y r2 u H2 O2 hq a2 q2 => ?_
    exact k (x.2, y.2) r2 v u H2 O2 hq (a1.trans E a2) (Rb.move (a2.sub a1.env) q1) q2
/-! ### tuples and lists written -/
theorem se_tup {c : CE} {es : List Expr} {k : Nat} (hW : W = ⟨X.prog, X.w, X.K⟩) (h : PA X es (tKs W cl wx c)) : SE W cl wx X (.tup c) (.Tuple es k pos) := by
  refine SE.leaf ((pe_tup h).wk fun σ H Q ⟨O, r, E, q⟩ => ?_) hW rfl (fun _ => rfl) (fun _ => rfl)
  refine tKs.at E (good_bind.mp q) fun ds r1 vs H1 O1 hp a1 q1 => ?_
  by_cases hz : small ds.length = true
  · rw [if_pos hz] at hp
    refine ⟨by rw [q1.length]; exact Nat.le_of_ble_eq_true hz, fun p n => ?_⟩
    exact hp (.ref p) _ O1 (a1.trans E (aft_new a1.env n)) (new_tup a1.env n q1)
  · rw [if_neg hz] at hp
    exact hp.elim
theorem se_lst {c : CE} {es : List Expr} (hW : W = ⟨X.prog, X.w, X.K⟩) (h : PA X es (tKs W cl wx c)) : SE W cl wx X (.lst c) (.List es pos) := by
  refine SE.leaf ((pe_lst h).wk fun σ H Q ⟨O, r, E, q⟩ => ?_) hW rfl (fun _ => rfl) (fun _ => rfl)
  refine tKs.at E (good_bind.mp q) fun ds r1 vs H1 O1 hp a1 q1 => ?_
  by_cases hz : small ds.length = true
  · rw [if_pos hz] at hp
    refine ⟨by rw [q1.length]; exact Nat.le_of_ble_eq_true hz, fun p n => ?_⟩
    exact hp (.ref p) _ _ (a1.trans E (aft_own a1.env n)) ((new_lst a1.env n q1).back a1.stp)
  · rw [if_neg hz] at hp
    exact hp.elim
/-! ### operators -/
/-- a rule of an operator by data: what it hands back -/
def OpD (W : Wd) (rd : R2) (g : D → D → Option (Bool × D)) : Prop :=
  ∀ (σ : L2.St) (O : Own) (H : Hp) (r : Rho) (v u : V) (d e : D) (x : Bool × D) (Q : VK), EnvOk W O H σ r → Rb W O H v d → Rb W O H u e → g d e = some x →
    (∀ z H' O', Aft W σ O H r O' H' r → ResAt W H O' H' x.1 x.2 z → Q z H') → rd v u H Q
theorem se_bin {op : BOp} {op' : Operator} {c1 c2 : CE} {e1 e2 : Expr} {rd : R2} (hW : W = ⟨X.prog, X.w, X.K⟩) (h1 : SE W cl wx X c1 e1) (h2 : SE W cl wx X c2 e2) (ho : OpR X (binaryOp op') rd) (hd : OpD W rd (binD op)) :
    SE W cl wx X (.bin op c1 c2) (.BinOp e1 op' e2 pos) := by
  refine SE.leaf ((pe_op ho h1.a1 h2.r).wk fun σ H Q ⟨O, r, E, q⟩ => ?_) hW rfl (fun _ => rfl) (fun _ => rfl)
  refine two_op E (good_bind.mp q) fun x r1 v u H1 O1 hp a1 q1 q2 => ?_
  obtain ⟨y, ey, hq⟩ := good_lift.mp hp
  exact hd σ O1 H1 r1 v u x.1 x.2 y Q a1.env q1 q2 ey fun z H2 O2 a2 q3 => hq z H2 O2 (a1.trans E a2) (q3.back a1.stp)
theorem se_neg {c : CE} {e : Expr} (hW : W = ⟨X.prog, X.w, X.K⟩) (h : SE W cl wx X c e) : SE W cl wx X (.neg c) (.UnaryOp .USub e pos) := by
  refine SE.leaf ((pe_un un_neg h.r).wk fun σ H Q ⟨O, r, E, q⟩ => ?_) hW rfl (fun _ => rfl) (fun _ => rfl)
  refine tR.at E (good_bind.mp q) fun x r1 v H1 O1 hp a1 q1 => ?_
  cases hx : x.2 with
  | int i =>
    rw [hx] at hp q1
    obtain rfl := q1.int
    exact ⟨i, rfl, hp (.int (-i)) H1 O1 a1 (.int (-i))⟩
  | _ =>
    rw [hx] at hp
    exact hp.elim
/-- a rule of a comparison by data -/
def CmD (W : Wd) (rd : R2) (g : D → D → Option Bool) : Prop :=
  ∀ (O : Own) (H : Hp) (v u : V) (d e : D) (b : Bool) (Q : VK), Rb W O H v d → Rb W O H u e → g d e = some b → Q (.bl b) H → rd v u H Q
theorem se_cmp {op : COp} {op' : CmpOp} {c1 c2 : CE} {e1 e2 : Expr} {rd : R2} (h1 : SE W cl wx X c1 e1) (h2 : SE W cl wx X c2 e2) (ho : OpR X (compareOp op') rd) (hd : CmD W rd (cmpD op)) (hm : behindInMarks op' e2 = false) :
    SE W cl wx X (.cmp op c1 c2) (.Compare e1 [op'] [e2] pos) := by
  have hv : PE X (.Compare e1 [op'] [e2] pos) (tV W cl wx (.cmp op c1 c2)) := (pe_cmpR ho h1.a1 h2.r hm).wk fun σ H Q ⟨O, r, E, q⟩ => by
    refine two_op E (good_bind.mp q) fun x r1 v u H1 O1 hp a1 q1 q2 => ?_
    obtain ⟨b, eb, hq⟩ := good_lift.mp (good_bind.mp hp)
    exact hd O1 H1 v u x.1 x.2 b Q q1 q2 eb (hq (.bl b) H1 O1 a1 (.bl b))
  refine ⟨hv, hv.wk fun σ H Q ⟨O, r, E, q⟩ => tV.sh E q fun x r' v H' O' hp a q => hp v H' O' a (.inl q), (pt_cmpR ho h1.a1 h2.r hm).wk fun σ H Q ⟨O, r, E, q⟩ => ?_, fun i hi => by cases hi⟩
  refine two_op E (good_bind.mp q) fun x r1 v u H1 O1 hp a1 q1 q2 => ?_
  obtain ⟨b, eb, b', e', hq⟩ := good_lift.mp (good_bind.mp hp)
  cases e'
  exact hd O1 H1 v u x.1 x.2 b _ q1 q2 eb ⟨b, rfl, hq H1 O1 a1⟩
theorem se_chn {op oq : COp} {op' oq' : CmpOp} {c1 c2 c3 : CE} {e1 e2 e3 : Expr} {rd re : R2} (h1 : SE W cl wx X c1 e1) (h2 : SE W cl wx X c2 e2) (h3 : SE W cl wx X c3 e3) (ho : OpR X (compareOp op') rd) (hp : OpR X (compareOp oq') re)
    (hd : CmD W rd (cmpD op)) (he : CmD W re (cmpD oq)) (hb : behindInMarks oq' e3 = false) : SE W cl wx X (.chn op oq c1 c2 c3) (.Compare e1 [op', oq'] [e2, e3] pos) := by
  have core : ∀ (σ : L2.St) (H : Hp) (O : Own) (r : Rho) (p : Bool × D → Rho → Prop) (Q : VK), EnvOk W O H σ r → Good p (wishOf W wx σ O H r) (ev cl (.chn op oq c1 c2 c3) .val r) → (∀ b r' H' O', p (false, .bl b) r' → Aft W σ O H r O' H' r' → Q (.bl b) H') →
      tChain rd re (tV W cl wx c1) (tV W cl wx c2) (tR W cl wx c3) σ H Q := by
    intro σ H O r p Q E q k
    refine tV.sh E (good_bind.mp q) fun x r1 v H1 O1 hp a1 q1 => ?_
    refine tV.sh a1.env ((good_bind.mp hp).on E a1) fun y r2 u H2 O2 hp2 a2 q2 => ?_
    obtain ⟨b, eb, hq⟩ := good_lift.mp (good_bind.mp hp2)
    have a12 := a1.trans E a2
    refine hd O2 H2 v u x.2 y.2 b _ (Rb.move (a2.sub a1.env) q1) (.inl q2) eb ⟨b, rfl, ?_⟩
    cases b with
    | false => exact k false r2 H2 O2 hq a12
    | true =>
      have hq := good_bind.mp hq
      refine tR.at a12.env (hq.on E a12) fun z r3 w3 H3 O3 hp3 a3 q3 => ?_
      obtain ⟨b, eb, hq3⟩ := good_lift.mp (good_bind.mp hp3)
      exact he O3 H3 u w3 y.2 z.2 b _ (Rb.move (a3.sub a12.env) q2) q3 eb (k b r3 H3 O3 hq3 (a12.trans E a3))
  have hv : PE X (.Compare e1 [op', oq'] [e2, e3] pos) (tV W cl wx (.chn op oq c1 c2 c3)) := (pe_chain ho hp h1.v h2.v h3.r hb).wk fun σ H Q ⟨O, r, E, q⟩ => core σ H O r _ Q E q fun b r' H' O' hp a => hp (.bl b) H' O' a (.bl b)
  refine ⟨hv, hv.wk fun σ H Q ⟨O, r, E, q⟩ => tV.sh E q fun x r' v H' O' hp a q => hp v H' O' a (.inl q), (pt_chain ho hp h1.v h2.v h3.r hb).wk fun σ H Q ⟨O, r, E, q⟩ => ?_, fun i hi => by cases hi⟩
  exact core σ H O r _ _ E q fun b r' H' O' ⟨b', e', hq⟩ a => by
    cases e'
    exact ⟨b, rfl, hq H' O' a⟩
theorem isN_ok {O : Own} {H : Hp} {v : V} {d : D} (q : Rb W O H v d) : d.isNon = decide (v = .non) := by
  have q := q.rp
  cases q <;> rfl
theorem se_isN {c : CE} {e : Expr} {j : Nat} {p2 : Pos} (h : SE W cl wx X c e) : SE W cl wx X (.isN c) (.Compare e [.Is] [.Constant .none j p2] pos) := by
  have hv : PE X (.Compare e [.Is] [.Constant .none j p2] pos) (tV W cl wx (.isN c)) := (pe_cmpR op_isN h.r pe_non (nomark _)).wk fun σ H Q ⟨O, r, E, q⟩ => by
    refine tR.at E (good_bind.mp q) fun x r1 v H1 O1 hp a1 q1 => ⟨rfl, ?_⟩
    rw [← isN_ok q1]
    exact hp _ H1 O1 a1 (.bl _)
  refine ⟨hv, hv.wk fun σ H Q ⟨O, r, E, q⟩ => tV.sh E q fun x r' v H' O' hp a q => hp v H' O' a (.inl q), (pt_cmpR op_isN h.r pe_non (nomark _)).wk fun σ H Q ⟨O, r, E, q⟩ => ?_, fun i hi => by cases hi⟩
  refine tR.at E (good_bind.mp q) fun x r1 v H1 O1 hp a1 q1 => ⟨rfl, ?_⟩
  obtain ⟨b, e', hq⟩ := hp
  rw [← isN_ok q1]
  cases e'
  exact ⟨_, rfl, hq H1 O1 a1⟩
theorem se_notN {c : CE} {e : Expr} {j : Nat} {p2 : Pos} (h : SE W cl wx X c e) : SE W cl wx X (.notN c) (.Compare e [.IsNot] [.Constant .none j p2] pos) := by
  have hv : PE X (.Compare e [.IsNot] [.Constant .none j p2] pos) (tV W cl wx (.notN c)) := (pe_cmpR op_notN h.r pe_non (nomark _)).wk fun σ H Q ⟨O, r, E, q⟩ => by
    refine tR.at E (good_bind.mp q) fun x r1 v H1 O1 hp a1 q1 => ⟨rfl, ?_⟩
    rw [← isN_ok q1]
    exact hp _ H1 O1 a1 (.bl _)
  refine ⟨hv, hv.wk fun σ H Q ⟨O, r, E, q⟩ => tV.sh E q fun x r' v H' O' hp a q => hp v H' O' a (.inl q), (pt_cmpR op_notN h.r pe_non (nomark _)).wk fun σ H Q ⟨O, r, E, q⟩ => ?_, fun i hi => by cases hi⟩
  refine tR.at E (good_bind.mp q) fun x r1 v H1 O1 hp a1 q1 => ⟨rfl, ?_⟩
  obtain ⟨b, e', hq⟩ := hp
  rw [← isN_ok q1]
  cases e'
  exact ⟨_, rfl, hq H1 O1 a1⟩
/-! ### and, or, not -/
theorem se_not {c : CE} {e : Expr} (h : SE W cl wx X c e) : SE W cl wx X (.not c) (.UnaryOp .Not e pos) := by
  have hv : PE X (.UnaryOp .Not e pos) (tV W cl wx (.not c)) := (pe_not h.v).wk fun σ H Q ⟨O, r, E, q⟩ => by
    refine tV.sh E (good_bind.mp q) fun x r1 v H1 O1 hp a1 q1 => ?_
    cases hx : x.2 with
    | bl k =>
      rw [hx] at hp q1
      cases q1
      exact ⟨k, rfl, hp (.bl (!k)) H1 O1 a1 (.bl _)⟩
    | _ =>
      rw [hx] at hp
      exact hp.elim
  refine ⟨hv, hv.wk fun σ H Q ⟨O, r, E, q⟩ => tV.sh E q fun x r' v H' O' hp a q => hp v H' O' a (.inl q), (pt_not h.t).wk fun σ H Q ⟨O, r, E, q⟩ => ?_, fun i hi => by cases hi⟩
  refine tQ.at E (good_bind.mp q) fun x r1 hp => ?_
  cases hx : x.2 with
  | bl k =>
    rw [hx] at hp
    obtain ⟨b, e', hq⟩ := hp
    cases e'
    exact ⟨k, rfl, fun H1 O1 a1 => hq H1 O1 a1⟩
  | _ =>
    rw [hx] at hp
    exact hp.elim
/-- a chain of and (or): its value, its test -/
structure SB (W : Wd) (cl : Cal) (wx : WX) (X : Cx) (c : CE) (op : BoolOp) (es : List Expr) (pos : Pos) : Prop where
  v : PE X (.BoolOp op es pos) (tV W cl wx c)
  t : PW X (.BoolOp op es pos) (tQ W cl wx c)
theorem sb_one {op : BoolOp} {c : CE} {e : Expr} (h : SE W cl wx X c e) : SB W cl wx X c op [e] pos := ⟨pe_one h.v, by
  cases op
  · exact pw_and1 h.t
  · exact pw_or1 h.t⟩
theorem _root_.L2.PW.wk {X : Cx} {e : Expr} {t t' : TT} (h : PW X e t) (k : ∀ σ H Q, t' σ H Q → t σ H Q) : PW X e t' := ⟨fun whole pins s σ H Q I q => h.run whole pins s σ H Q I (k σ H Q q)⟩
theorem sb_and {c t : CE} {a b : Expr} {rest : List Expr} (h1 : SE W cl wx X c a) (h2 : SB W cl wx X t .And (b :: rest) pos) : SB W cl wx X (.and c t) .And (a :: b :: rest) pos := by
  refine ⟨(pe_and h1.v h2.v).wk fun σ H Q ⟨O, r, E, q⟩ => ?_, (pw_and h1.t h2.t).wk fun σ H Q ⟨O, r, E, q⟩ => ?_⟩
  · refine tV.sh E (good_bind.mp q) fun x r1 v H1 O1 hp a1 q1 => ?_
    cases hx : x.2 with
    | bl k =>
      rw [hx] at hp q1
      cases q1
      refine ⟨k, rfl, ?_⟩
      cases k with
      | true => exact tV.at a1.env (hp.on E a1) fun y r2 u H2 O2 hq a2 q2 => hq u H2 O2 (a1.trans E a2) (q2.back a1.stp)
      | false => exact hp (.bl false) H1 O1 a1 (.bl false)
    | _ =>
      rw [hx] at hp
      exact hp.elim
  · refine tQ.at E (good_bind.mp q) fun x r1 hp => ?_
    cases hx : x.2 with
    | bl k =>
      rw [hx] at hp
      refine ⟨k, rfl, fun H1 O1 a1 => ?_⟩
      cases k with
      | true => exact tQ.at a1.env (hp.on E a1) fun y r2 ⟨b, e', hq⟩ => ⟨b, e', fun H2 O2 a2 => hq H2 O2 (a1.trans E a2)⟩
      | false =>
        obtain ⟨b, e', hq⟩ := hp
        cases e'
        exact hq H1 O1 a1
    | _ =>
      rw [hx] at hp
      exact hp.elim
theorem sb_or {c t : CE} {a b : Expr} {rest : List Expr} (h1 : SE W cl wx X c a) (h2 : SB W cl wx X t .Or (b :: rest) pos) : SB W cl wx X (.or c t) .Or (a :: b :: rest) pos := by
  refine ⟨(pe_or h1.v h2.v).wk fun σ H Q ⟨O, r, E, q⟩ => ?_, (pw_or h1.t h2.t).wk fun σ H Q ⟨O, r, E, q⟩ => ?_⟩
  · refine tV.sh E (good_bind.mp q) fun x r1 v H1 O1 hp a1 q1 => ?_
    cases hx : x.2 with
    | bl k =>
      rw [hx] at hp q1
      cases q1
      refine ⟨k, rfl, ?_⟩
      cases k with
      | false => exact tV.at a1.env (hp.on E a1) fun y r2 u H2 O2 hq a2 q2 => hq u H2 O2 (a1.trans E a2) (q2.back a1.stp)
      | true => exact hp (.bl true) H1 O1 a1 (.bl true)
    | _ =>
      rw [hx] at hp
      exact hp.elim
  · refine tQ.at E (good_bind.mp q) fun x r1 hp => ?_
    cases hx : x.2 with
    | bl k =>
      rw [hx] at hp
      refine ⟨k, rfl, fun H1 O1 a1 => ?_⟩
      cases k with
      | false => exact tQ.at a1.env (hp.on E a1) fun y r2 ⟨b, e', hq⟩ => ⟨b, e', fun H2 O2 a2 => hq H2 O2 (a1.trans E a2)⟩
      | true =>
        obtain ⟨b, e', hq⟩ := hp
        cases e'
        exact hq H1 O1 a1
    | _ =>
      rw [hx] at hp
      exact hp.elim
theorem se_bool {op : BoolOp} {c : CE} {es : List Expr} (hl : c.late = none) (h : SB W cl wx X c op es pos) : SE W cl wx X c (.BoolOp op es pos) :=
  ⟨h.v, h.v.wk fun σ H Q ⟨O, r, E, q⟩ => by
    rw [ev_bor hl] at q
    exact tV.sh E q fun x r' v H' O' hp a q => hp v H' O' a (.inl q), h.t.pt, fun i hi => by
    rw [hl] at hi
    cases hi⟩
/-! ### a if t else b -/
theorem pt_ife {t a b : Expr} {tt ta tb : TT} (ht : PT X t tt) (ha : PT X a ta) (hb : PT X b tb) : PT X (.IfExp t a b pos) (fun σ H Q => tt σ H fun k H1 => if k = true then ta σ H1 Q else tb σ H1 Q) := by
  refine ⟨fun pins s σ H Q I h => ?_⟩
  show wpAny _ _ (do if ← isTrue t X.env (eval t X.env) then isTrue a X.env (eval a X.env) else isTrue b X.env (eval b X.env)) _ _ s
  refine wpAny_bind (thn (ht.run pins s σ H _ I h) fun k s1 ⟨H1, I1, q1⟩ => ?_)
  cases k with
  | true =>
    rw [if_pos rfl] at q1 ⊢
    exact ha.run pins s1 σ H1 Q I1 q1
  | false =>
    rw [if_neg (by simp)] at q1 ⊢
    exact hb.run pins s1 σ H1 Q I1 q1
theorem ife_v {t a b : CE} {et ea eb : Expr} (ht : SE W cl wx X t et) (ha : SE W cl wx X a ea) (hb : SE W cl wx X b eb) : PE X (.IfExp et ea eb pos) (tV W cl wx (.ife t a b)) :=
  (pe_ifExp ht.t ha.v hb.v).wk fun σ H Q ⟨O, r, E, q⟩ => by
    refine tQ.at E (good_bind.mp q) fun x r1 hp => ?_
    cases hx : x.2 with
    | bl k =>
      rw [hx] at hp
      refine ⟨k, rfl, fun H1 O1 a1 => ?_⟩
      cases k with
      | true => exact tV.at a1.env (hp.on E a1) fun y r2 u H2 O2 hq a2 q2 => hq u H2 O2 (a1.trans E a2) (q2.back a1.stp)
      | false => exact tV.at a1.env (hp.on E a1) fun y r2 u H2 O2 hq a2 q2 => hq u H2 O2 (a1.trans E a2) (q2.back a1.stp)
    | _ =>
      rw [hx] at hp
      exact hp.elim
theorem se_ife {t a b : CE} {et ea eb : Expr} (ht : SE W cl wx X t et) (ha : SE W cl wx X a ea) (hb : SE W cl wx X b eb) : SE W cl wx X (.ife t a b) (.IfExp et ea eb pos) := by
  refine ⟨ife_v ht ha hb, (ife_v ht ha hb).wk fun σ H Q ⟨O, r, E, h⟩ => ?_, (pt_ife ht.t ha.t hb.t).wk fun σ H Q ⟨O, r, E, q⟩ => ?_, fun i hi => by cases hi⟩
  · rw [ev_bor rfl] at h
    exact tV.sh E h fun x r' v H' O' hp a q => hp v H' O' a (.inl q)
  · refine tQ.at E (good_bind.mp q) fun x r1 hp => ?_
    cases hx : x.2 with
    | bl k =>
      rw [hx] at hp
      refine ⟨k, rfl, fun H1 O1 a1 => ?_⟩
      cases k with
      | true =>
        rw [if_pos rfl]
        exact tQ.at a1.env (hp.on E a1) fun y r2 ⟨b, e, hq⟩ => ⟨b, e, fun H2 O2 a2 => hq H2 O2 (a1.trans E a2)⟩
      | false =>
        rw [if_neg (by simp)]
        exact tQ.at a1.env (hp.on E a1) fun y r2 ⟨b, e, hq⟩ => ⟨b, e, fun H2 O2 a2 => hq H2 O2 (a1.trans E a2)⟩
    | _ =>
      rw [hx] at hp
      exact hp.elim
end
end Eg
/-! EgN: dicts whose keys are tuples. -/
namespace Eg
open PySem PySem.Spec PyProof.Rows L2
section
variable {X : Cx} {pins : List (Addr × Obj)} {σ : L2.St} {H : Hp} {s : Shared} {W : Wd}
mutual
/-- a datum as a key, in the machine's heap -/
theorem nested_of (hW : W = ⟨X.prog, X.w, X.K⟩) (I : Inv X pins σ H s) : ∀ {v : V} {d : D} {u : Value} {k : NestedKey}, Rp W H v d → d.nk = some k → RelV v u → NestedIs s.heap k u
  | _, _, u, k, .non, h, r => by
    cases h
    cases (show u = Value.none from r)
    exact .none
  | _, _, u, k, .bl b, h, r => by
    cases h
    cases (show u = Value.bool b from r)
    exact .bool rfl
  | _, _, u, k, .int i, h, r => by
    cases h
    obtain ⟨t, rfl⟩ := (show ∃ t, u = Value.int i t from r)
    exact .int i t
  | _, _, u, k, .str x, h, r => by
    cases h
    obtain ⟨t, rfl⟩ := (show ∃ t, u = Value.str x t from r)
    exact .text x t
  | _, _, u, k, .tup (a := a) (vs := vs) (ds := ds) q l, h, r => by
    cases (show u = Value.ref a from r)
    have h : (D.nkL ds).map NestedKey.tup = some k := h
    obtain ⟨ks, e, rfl⟩ := Option.map_eq_some_iff.mp h
    have eK : W.K = X.K := by rw [hW]
    rw [eK] at q
    obtain ⟨its, rv, ⟨ob, e1, c, n, e3⟩, hz⟩ := I.tuple q
    exact .tup e1 c e3 (by simpa using nested_all hW I l e rv)
  | _, _, u, k, .lst _ _, h, r => by cases h
  | _, _, u, k, .dk _ _, h, r => by cases h
  | _, _, u, k, .dw _ _, h, r => by cases h
  | _, _, u, k, .ins _ _ _, h, r => by cases h
  | _, _, u, k, .dn _ _ _, h, r => by cases h
  | _, _, u, k, .ct _ _, h, r => by cases h
theorem nested_all (hW : W = ⟨X.prog, X.w, X.K⟩) (I : Inv X pins σ H s) : ∀ {vs : List V} {ds : List D} {us : List Value} {ks : List NestedKey}, RpL W H vs ds → D.nkL ds = some ks → Vals vs us → NestedAll s.heap ks us
  | _, _, us, ks, .nil, h, r => by
    cases h
    cases r
    exact .nil
  | _, _, us, ks, .cons (d := d) (ds := ds) a l, h, r => by
    cases r with
    | cons r1 r2 =>
      have h : (match D.nk d, D.nkL ds with
        | some x, some xs => some (x :: xs)
        | _, _ => none) = some ks := h
      cases e1 : D.nk d with
      | none =>
        rw [e1] at h
        cases h
      | some x =>
        cases e2 : D.nkL ds with
        | none =>
          rw [e1, e2] at h
          cases h
        | some xs =>
          rw [e1, e2] at h
          cases h
          exact .cons (nested_of hW I a e1 r1) (nested_all hW I l e2 r2)
end
theorem tk_nk {d : D} {k : NestedKey} (h : d.tk = some k) : d.nk = some k ∧ k.depth ≤ 8 := by
  cases d with
  | tup xs =>
    have h : (match D.nk (.tup xs) with
      | some k => if Nat.ble k.depth 8 then some k else none
      | none => none) = some k := h
    cases e : D.nk (.tup xs) with
    | none =>
      rw [e] at h
      cases h
    | some j =>
      rw [e] at h
      have h : (if Nat.ble j.depth 8 = true then some j else none) = some k := h
      by_cases hc : Nat.ble j.depth 8 = true
      · rw [if_pos hc] at h
        cases h
        exact ⟨rfl, Nat.le_of_ble_eq_true hc⟩
      · rw [if_neg hc] at h
        cases h
  | _ => cases h
/-- a key, where it stands -/
theorem key_is (hW : W = ⟨X.prog, X.w, X.K⟩) (I : Inv X pins σ H s) {b : Addr} {d : D} {k : NestedKey} (q : Rp W H (.ref b) d) (h : d.tk = some k) : (nestedKind X.prog X.w).is s.heap k b :=
  ⟨nested_of hW I q (tk_nk h).1 rfl, (tk_nk h).2⟩
theorem ref_of_tk {H : Hp} {v : V} {d : D} {k : NestedKey} (q : Rp W H v d) (h : d.tk = some k) : ∃ b, v = .ref b := by
  cases q <;> first | exact ⟨_, rfl⟩ | cases h
abbrev EntRel : NEnt → NestedKey × Addr × Value → Prop := fun x y => x.1 = y.1 ∧ x.2.1 = y.2.1 ∧ RelV x.2.2 y.2.2
theorem ent_keys : ∀ {xs : List NEnt} {vs : List (NestedKey × Addr × Value)}, Paired EntRel xs vs → vs.map (·.1) = xs.map (·.1)
  | _, _, .nil => rfl
  | _, _, .cons h t => by
    rw [List.map_cons, List.map_cons, ent_keys t, h.1]
theorem ent_is (hW : W = ⟨X.prog, X.w, X.K⟩) (I : Inv X pins σ H s) : ∀ {xs : List NEnt} {ds : List (D × D)} {vs : List (NestedKey × Addr × Value)}, RpN W H xs ds → Paired EntRel xs vs → ∀ y ∈ vs, (nestedKind X.prog X.w).is s.heap y.1 y.2.1
  | _, _, _, .nil, .nil, y, hy => by cases hy
  | _, _, _, .cons hk hb hv r, .cons e t, y, hy => by
    rcases List.mem_cons.mp hy with rfl | hy
    · rw [← e.1, ← e.2.1]
      exact key_is hW I hb hk
    · exact ent_is hW I r t y hy
/-- the dict in the machine's heap -/
theorem dn_at (hW : W = ⟨X.prog, X.w, X.K⟩) (I : Inv X pins σ H s) {a : Addr} {o : Obj} {xs : List NEnt} {ds : List (D × D)} (h : H a = some (dnO a o)) (k : DnObj W.P W.w a o xs) (r : RpN W H xs ds) :
    ∃ vs, Paired EntRel xs vs ∧ s.heap.DictOfH (nestedKind X.prog X.w) a vs ∧ s.heap.get? a = some o := by
  obtain ⟨k1, k2, k3, k4, es, ep, vs, k5, k6, k7⟩ := k
  have e : s.heap.get? a = some o := (I.hok a _ h).1
  have eP : W.P = X.prog := by rw [hW]
  have ew : W.w = X.w := by rw [hW]
  rw [eP, ew] at k6
  exact ⟨vs, k7, ⟨o, es, ep, e, k3, k5, k6, ent_is hW I r k7, by rw [ent_keys k7]; exact k4⟩, e⟩
/-- a look-up -/
theorem atKey_cons {x : NestedKey × Addr × Value} {vs : List (NestedKey × Addr × Value)} {k : NestedKey} : atKey (x :: vs) k = if x.1 = k then some x.2 else atKey vs k := by
  unfold atKey
  by_cases h : x.1 = k
  · rw [List.find?_cons_of_pos (by simpa using h), if_pos h]
    rfl
  · rw [List.find?_cons_of_neg (by simpa using h), if_neg h]
theorem getN_ok : ∀ {H : Hp} {xs : List NEnt} {ds : List (D × D)} {vs : List (NestedKey × Addr × Value)} (k : NestedKey), RpN W H xs ds → Paired EntRel xs vs → match getN ds k with
    | some d => ∃ b v u, atKey vs k = some (b, u) ∧ RelV v u ∧ Rp W H v d
    | none => atKey vs k = none
  | _, _, _, _, k, .nil, .nil => rfl
  | _, _, _, _, k, .cons (k := l) (b := b) (v := v) (e := e) (d := d) hk hb hv r, .cons (b := y) (l₂ := vs) h t => by
    have ih := getN_ok k r t
    rw [atKey_cons, ← h.1]
    unfold getN
    by_cases hl : l = k
    · rw [if_pos (by rw [hk, hl]), if_pos hl]
      exact ⟨y.2.1, v, y.2.2, rfl, h.2.2, hv⟩
    · rw [if_neg (by rw [hk]; simpa using hl), if_neg hl]
      exact ih
theorem hasN_ok {H : Hp} {xs : List NEnt} {ds : List (D × D)} {vs : List (NestedKey × Addr × Value)} (k : NestedKey) (r : RpN W H xs ds) (t : Paired EntRel xs vs) : (atKey vs k).isSome = hasN ds k := by
  have h := getN_ok k r t
  unfold hasN
  cases e : getN ds k with
  | none =>
    rw [e] at h
    rw [show atKey vs k = none from h]
    rfl
  | some d =>
    rw [e] at h
    obtain ⟨b, v, u, h, _⟩ := h
    rw [h]
    rfl
/-- a store -/
theorem mapN_ok {H : Hp} {x : V} {u : Value} {y : D} (ru : RelV x u) (ry : Rp W H x y) (k : NestedKey) : ∀ {xs : List NEnt} {ds : List (D × D)} {vs : List (NestedKey × Addr × Value)}, RpN W H xs ds → Paired EntRel xs vs →
    RpN W H (xs.map fun e => if e.1 = k then (e.1, e.2.1, x) else e) (ds.map fun kv => if kv.1.tk = some k then (kv.1, y) else kv) ∧ Paired EntRel (xs.map fun e => if e.1 = k then (e.1, e.2.1, x) else e) (vs.map (putAt k u))
  | _, _, _, .nil, .nil => ⟨.nil, .nil⟩
  | _, _, _, .cons (k := l) (b := b) (v := v) (e := e) (d := d) hk hb hv r, .cons (b := z) (l₂ := vs) h t => by
    obtain ⟨i1, i2⟩ := mapN_ok ru ry k r t
    rw [List.map_cons, List.map_cons, List.map_cons]
    have hz : z.1 = l := h.1.symm
    by_cases hl : l = k
    · rw [if_pos (show l = k from hl), if_pos (show e.tk = some k by rw [hk, hl])]
      refine ⟨.cons hk hb ry i1, .cons ?_ i2⟩
      unfold putAt
      rw [if_pos (by rw [hz]; exact hl)]
      exact ⟨h.1, h.2.1, ru⟩
    · rw [if_neg (show ¬ l = k from hl), if_neg (show ¬ e.tk = some k by rw [hk]; simpa using hl)]
      refine ⟨.cons hk hb hv i1, .cons ?_ i2⟩
      unfold putAt
      rw [if_neg (by rw [hz]; exact hl)]
      exact h
theorem RpN.append {H : Hp} : ∀ {xs ys : List NEnt} {ds es : List (D × D)}, RpN W H xs ds → RpN W H ys es → RpN W H (xs ++ ys) (ds ++ es)
  | _, _, _, _, .nil, q => q
  | _, _, _, _, .cons a b c d, q => .cons a b c (RpN.append d q)
theorem paired_append {α β : Type} {R : α → β → Prop} : ∀ {a c : List α} {b d : List β}, Paired R a b → Paired R c d → Paired R (a ++ c) (b ++ d)
  | _, _, _, _, .nil, q => q
  | _, _, _, _, .cons h t, q => .cons h (paired_append t q)
theorem paired_len {α β : Type} {R : α → β → Prop} : ∀ {a : List α} {b : List β}, Paired R a b → a.length = b.length
  | _, _, .nil => rfl
  | _, _, .cons h t => by simp [paired_len t]
theorem setN_ok {H : Hp} {x : V} {u : Value} {y e : D} {b : Addr} {k : NestedKey} {xs : List NEnt} {ds : List (D × D)} {vs : List (NestedKey × Addr × Value)} (ru : RelV x u) (ry : Rp W H x y) (he : e.tk = some k) (hb : Rp W H (.ref b) e) (r : RpN W H xs ds) (t : Paired EntRel xs vs) :
    ∃ xs', RpN W H xs' (setN ds k e y) ∧ Paired EntRel xs' (storedH vs k b u) ∧ xs'.length ≤ xs.length + 1 := by
  unfold setN storedH
  rw [hasN_ok k r t]
  by_cases hc : hasN ds k = true
  · rw [if_pos hc, if_pos hc]
    obtain ⟨i1, i2⟩ := mapN_ok ru ry k r t
    exact ⟨_, i1, i2, by simp⟩
  · rw [if_neg hc, if_neg hc]
    exact ⟨xs ++ [(k, b, x)], r.append (.cons he hb ry .nil), paired_append t (.cons ⟨rfl, rfl, ru⟩ .nil), by simp⟩
/-- the object behind the store -/
theorem dnObj_of {h' : Heap} {a : Addr} {xs : List NEnt} {vs : List (NestedKey × Addr × Value)} (hd : (a == sysModules) = false) (hz : xs.length ≤ sizeLine) (x : h'.DictOfH (nestedKind X.prog X.w) a vs) (t : Paired EntRel xs vs) :
    ∃ o, h'.get? a = some o ∧ DnObj X.prog X.w a o xs := by
  obtain ⟨o, es, ep, h1, h2, h3, h4, h5, h6⟩ := x
  exact ⟨o, h1, hd, hz, h2, by rw [← ent_keys t]; exact h6, es, ep, vs, h3, h4, t⟩
theorem dn_new {H' : Hp} {h' : Heap} {a : Addr} {o : Obj} (e : h'.get? a = some o) : ObjOk X.prog X.w H' h' a (dnO a o) := ⟨e, ⟨o, e⟩, fun _ _ h1 h2 => h2 _ h1⟩
/-! ### rules -/
def rInN (W : Wd) (f : Bool → Bool) : R2 := fun x y H Q => ∃ a o xs ds e k, y = .ref a ∧ H a = some (dnO a o) ∧ DnObj W.P W.w a o xs ∧ RpN W H xs ds ∧ Rp W H x e ∧ e.tk = some k ∧ Q (.bl (f (hasN ds k))) H
theorem room_n {A : Around} {P : Program} {w : World} (hu : A.units + 65 < cLine) : (nestedKind P w).room A.in1 := by
  show A.units + 1 + 8 < cLine
  omega
theorem op_inN (hW : W = ⟨X.prog, X.w, X.K⟩) (hu : X.A.units + 65 < cLine) : OpR X (compareOp .In) (rInN W id) := by
  intro pins s σ H x y v u Q I rx ry h
  obtain ⟨a, o, xs, ds, e, k, rfl, ha, hk, r, qe, ek, q⟩ := h
  cases ry
  obtain ⟨b, rfl⟩ := ref_of_tk qe ek
  cases rx
  obtain ⟨vs, t, dd, _⟩ := dn_at hW I ha hk r
  refine wpAny_in_heap (room_n hu) (key_is hW I qe ek) hk.1 dd ?_
  rw [hasN_ok k r t]
  exact ⟨.bl _, H, I.tok _, rfl, q⟩
theorem op_notInN (hW : W = ⟨X.prog, X.w, X.K⟩) (hu : X.A.units + 65 < cLine) : OpR X (compareOp .NotIn) (rInN W (!·)) := by
  intro pins s σ H x y v u Q I rx ry h
  obtain ⟨a, o, xs, ds, e, k, rfl, ha, hk, r, qe, ek, q⟩ := h
  cases ry
  obtain ⟨b, rfl⟩ := ref_of_tk qe ek
  cases rx
  obtain ⟨vs, t, dd, _⟩ := dn_at hW I ha hk r
  show wpAny (model X.prog X.w) X.A ((do return Value.bool (!(← contains (.ref a) (.ref b)))) : Sem Value) _ _ s
  refine wpAny_bind (wpAny_contains_heap (room_n hu) (key_is hW I qe ek) hk.1 dd (wpAny_pure ?_))
  rw [hasN_ok k r t]
  exact ⟨.bl _, H, I.tok _, rfl, q⟩
def rIxN (W : Wd) : R2 := fun x y H Q => ∃ a o xs ds e k d H0, x = .ref a ∧ H a = some (dnO a o) ∧ DnObj W.P W.w a o xs ∧ Sub H0 H ∧ RpN W H0 xs ds ∧ Rp W H y e ∧ e.tk = some k ∧ getN ds k = some d ∧ ∀ v, Rp W H0 v d → Q v H
theorem ix_dn (hW : W = ⟨X.prog, X.w, X.K⟩) (hu : X.A.units + 65 < cLine) : IxR X (rIxN W) := by
  intro value slice pins s σ H x y v u Q I rx ry h hs
  obtain ⟨a, o, xs, ds, e, k, d, H0, rfl, ha, hk, sb, r, qe, ek, ed, q⟩ := h
  cases rx
  obtain ⟨b, rfl⟩ := ref_of_tk qe ek
  cases ry
  obtain ⟨vs, t, dd, _⟩ := dn_at hW I ha hk (r.mono sb)
  have g := getN_ok k r t
  rw [ed] at g
  obtain ⟨c, z, w', g1, g2, g3⟩ := g
  exact tail_any dd.typeIs slot_dict_getitem.lookup (wpAny_getItem_heap (room_n hu) (key_is hW I qe ek) dd g1 ⟨z, H, I.tok _, g2, q z g3⟩) hs
/-- d[y] = v -/
def rSetN (W : Wd) : TSet := fun x y v H Q => ∃ a o xs ds e k d H0, x = .ref a ∧ H a = some (dnO a o) ∧ DnObj W.P W.w a o xs ∧ xs.length < sizeLine ∧ Sub H0 H ∧ RpN W H0 xs ds ∧ Rp W H0 y e ∧ e.tk = some k ∧ Rp W H0 v d ∧
  ∀ o' xs', DnObj W.P W.w a o' xs' → RpN W H0 xs' (setN ds k e d) → Q (upd H a (dnO a o'))
theorem set_dn (hW : W = ⟨X.prog, X.w, X.K⟩) (hu : X.A.units + 65 < cLine) : PSet X (rSetN W) := by
  intro pins s σ H x y v xv yv u Q I rx ry rv h
  obtain ⟨a, o, xs, ds, e, k, d, H0, rfl, ha, hk, hz, sb, r, qe, ek, qd, q⟩ := h
  cases rx
  obtain ⟨b, rfl⟩ := ref_of_tk qe ek
  cases ry
  obtain ⟨vs, t, dd, _⟩ := dn_at hW I ha hk (r.mono sb)
  have hl := paired_len t
  refine wpAny_setItem_heap (hsz := by omega) (room_n hu) (key_is hW I (qe.mono sb) ek) dd fun h' dd' hs => ?_
  obtain ⟨xs', r', t', l'⟩ := setN_ok rv qd ek qe r t
  obtain ⟨o', e', k'⟩ := dnObj_of (xs := xs') hk.1 (by omega) dd' t'
  exact ⟨_, d_write (t' := _) I (by rw [ha]; exact True.intro) hs ⟨o', e'⟩ (dn_new e'), q o' xs' (by rw [hW]; exact k') r'⟩
end
end Eg
/-! Eg7: the rules of operators by data. -/
namespace Eg
open PySem PySem.Spec PyProof.Rows L2
/-! ### data as the library's data -/
mutual
theorem Rp.dp {W : Wd} {H : Hp} : ∀ {v : V} {d : D} {p : PyData}, Rp W H v d → d.py = some p → Dp W.K H v p
  | _, _, p, .non, h => by
    cases h
    exact .non
  | _, _, p, .bl b, h => by
    cases h
    exact .bl b
  | _, _, p, .int b, h => by
    cases h
    exact .int b
  | _, _, p, .str b, h => by
    cases h
    exact .str b
  | _, _, p, .tup (ds := ds) a r, h => by
    have h : (D.pyL ds).map PyData.tuple = some p := h
    obtain ⟨ps, e, rfl⟩ := Option.map_eq_some_iff.mp h
    exact .tup a (RpL.dp r e)
  | _, _, p, .lst (ds := ds) a r, h => by
    have h : (D.pyL ds).map PyData.list = some p := h
    obtain ⟨ps, e, rfl⟩ := Option.map_eq_some_iff.mp h
    exact .lst (.inl a) (RpL.dp r e)
  | _, _, p, .dk a r, h => by cases h
  | _, _, p, .dw a r, h => by cases h
  | _, _, p, .ins k a r, h => by cases h
  | _, _, p, .dn k a r, h => by cases h
  | _, _, p, .ct a r, h => by cases h
theorem RpL.dp {W : Wd} {H : Hp} : ∀ {v : List V} {d : List D} {p : List PyData}, RpL W H v d → D.pyL d = some p → DpAll W.K H v p
  | _, _, p, .nil, h => by
    cases h
    exact .nil
  | _, _, p, .cons (d := d) (ds := ds) a r, h => by
    have h : (match D.py d, D.pyL ds with
      | some x, some xs => some (x :: xs)
      | _, _ => none) = some p := h
    cases e1 : D.py d with
    | none =>
      rw [e1] at h
      cases h
    | some x =>
      cases e2 : D.pyL ds with
      | none =>
        rw [e1, e2] at h
        cases h
      | some xs =>
        rw [e1, e2] at h
        cases h
        exact .cons (Rp.dp a e1) (RpL.dp r e2)
end
theorem anyEq_ok {x : PyData} : ∀ {ds : List D} {b : Bool}, D.anyEq x ds = some b → ∃ ps, D.pyL ds = some ps ∧ PyData.canLayAll0 ps = true ∧ b = ps.any fun z => PyData.eqv z x
  | [], b, h => by
    cases h
    exact ⟨[], rfl, rfl, rfl⟩
  | d :: ds, b, h => by
    have h : (match d.py, D.anyEq x ds with
      | some y, some b => if SeqAt.shaped y then some (PyData.eqv y x || b) else none
      | _, _ => none) = some b := h
    cases e1 : d.py with
    | none =>
      rw [e1] at h
      cases h
    | some y =>
      cases e2 : D.anyEq x ds with
      | none =>
        rw [e1, e2] at h
        cases h
      | some c =>
        rw [e1, e2] at h
        obtain ⟨ps, h1, h2, h3⟩ := anyEq_ok e2
        have h : (if SeqAt.shaped y = true then some (PyData.eqv y x || c) else none) = some b := h
        by_cases hs : SeqAt.shaped y = true
        · rw [if_pos hs] at h
          cases h
          refine ⟨y :: ps, ?_, ?_, ?_⟩
          · unfold D.pyL
            rw [e1, h1]
          · unfold PyData.canLayAll0
            rw [SeqAt.canLay_of_shaped hs, h2]
            rfl
          · rw [List.any_cons, h3]
        · rw [if_neg hs] at h
          cases h
/-! ### lists, tracked or frozen -/
section
variable {X : Cx} {pins : List (Addr × Obj)} {σ : L2.St} {H : Hp} {s : Shared} {a : Addr} {xs : List V}
theorem rdL (I : Inv X pins σ H s) (h : Rd H a (.lst xs)) : xs.length ≤ sizeLine ∧ ∃ (its : List Value) (n : Nat), Vals xs its ∧ s.heap.get? a = some { cls := .type "list", data := .seq its.toArray n } := h.ok I.hok
def rCatR : R2 := fun x y H Q => ∃ l b xs zs, x = .ref l ∧ y = .ref b ∧ Rd H l (.lst xs) ∧ Rd H b (.lst zs) ∧ xs.length + zs.length ≤ sizeLine ∧ ∀ p, H p = none → Q (.ref p) (upd H p (.lst (xs ++ zs)))
theorem op_catR : OpR X (binaryOp .Add) rCatR := by
  intro pins s σ H x y v u Q I rx ry h
  obtain ⟨l, b, xs, zs, rfl, rfl, hH, hB, hz, q⟩ := h
  cases rx
  cases ry
  obtain ⟨z, its, n, r, e⟩ := rdL I hH
  obtain ⟨z2, its2, n2, r2, e2⟩ := rdL I hB
  have hl := r.length
  have hl2 := r2.length
  refine PySem.P.add_list e e2 ?_ (by rw [List.size_toArray, List.size_toArray]; omega)
  have ea : its.toArray ++ its2.toArray = (its ++ its2).toArray := by simp
  rw [ea]
  exact ⟨.ref _, _, I.lnew (t' := s.toks) (r.append r2) (by rw [List.length_append]; omega), rfl, q _ I.fresh⟩
end
/-! ### + -/
def rAddD (K : PySem.W.Frag) : R2 := fun x y H Q => (rI0 fun i j => .int (i + j)) x y H Q ∨ (∃ i j, x = .str i ∧ y = .str j ∧ i.length + j.length ≤ sizeLine ∧ Q (.str (i ++ j)) H) ∨ rCatR x y H Q ∨ rCatA K x y H Q
theorem op_addD {X : Cx} : OpR X (binaryOp .Add) (rAddD X.K) := op_add.or (op_add_str.or (op_catR.or op_catA))
section
variable {W : Wd}
theorem small_le {n : Nat} (h : small n = true) : n ≤ sizeLine := Nat.le_of_ble_eq_true h
theorem addD_ok : OpD W (rAddD W.K) (binD .add) := by
  intro σ O H r v u d e x Q E q1 q2 h k
  cases d with
  | int a =>
    cases e with
    | int b =>
      cases h
      obtain rfl := q1.int
      obtain rfl := q2.int
      exact .inl ⟨a, b, rfl, rfl, k _ H O (.refl E) (.int _)⟩
    | _ => cases h
  | str a =>
    cases e with
    | str b =>
      have h : (if small (a.length + b.length) = true then some (false, D.str (a ++ b)) else none) = some x := h
      by_cases hz : small (a.length + b.length) = true
      · rw [if_pos hz] at h
        cases h
        obtain rfl := q1.str
        obtain rfl := q2.str
        exact .inr (.inl ⟨a, b, rfl, rfl, small_le hz, k _ H O (.refl E) (.str _)⟩)
      · rw [if_neg hz] at h
        cases h
    | _ => cases h
  | lst a =>
    cases e with
    | lst b =>
      have h : (if small (a.length + b.length) = true then some (true, D.lst (a ++ b)) else none) = some x := h
      by_cases hz : small (a.length + b.length) = true
      · rw [if_pos hz] at h
        cases h
        obtain ⟨p1, v1, rfl, s1, r1⟩ := q1.lst
        obtain ⟨p2, v2, rfl, s2, r2⟩ := q2.lst
        refine .inr (.inr (.inl ⟨p1, p2, v1, v2, rfl, rfl, s1, s2, by rw [r1.length, r2.length]; exact small_le hz, fun p n => ?_⟩))
        exact k _ _ _ (aft_own E n) (new_lst E n (r1.append r2))
      · rw [if_neg hz] at h
        cases h
    | _ => cases h
  | tup a =>
    cases e with
    | tup b =>
      have h : (if small (a.length + b.length) = true then some (false, D.tup (a ++ b)) else none) = some x := h
      by_cases hz : small (a.length + b.length) = true
      · rw [if_pos hz] at h
        cases h
        have q1s := q1
        have q2s := q2
        obtain ⟨p1, v1, rfl, s1, r1⟩ := q1.tup
        obtain ⟨p2, v2, rfl, s2, r2⟩ := q2.tup
        have sh : ∀ {p : Addr} {c : List D}, Rb W O H (.ref p) (.tup c) → Rp W (mns H O) (.ref p) (.tup c) := fun {p c} q => by
          rcases q with q | ⟨_, _, _, q⟩
          · exact q
          · exact q.elim
        refine .inr (.inr (.inr ⟨p1, p2, v1, v2, rfl, rfl, s1, s2, by rw [r1.length, r2.length]; exact small_le hz, fun e => ?_, fun _ e => ?_, fun _ _ p n => ?_⟩))
        · subst e
          cases r1
          exact k _ H O (.refl E) (sh q2s)
        · subst e
          cases r2
          refine k _ H O (.refl E) ?_
          show Rp W (mns H O) _ (.tup (a ++ []))
          rw [List.append_nil]
          exact sh q1s
        · exact k _ _ _ (aft_new E n) (new_tup E n (r1.append r2))
      · rw [if_neg hz] at h
        cases h
    | _ => cases h
  | _ => cases h
end
/-! ### -, *, //, %, ** -/
section
variable {X : Cx} {W : Wd}
theorem subD_ok : OpD W (rI0 fun i j => .int (i - j)) (binD .sub) := by
  intro σ O H r v u d e x Q E q1 q2 h k
  cases d with
  | int a =>
    cases e with
    | int b =>
      cases h
      obtain rfl := q1.int
      obtain rfl := q2.int
      exact ⟨a, b, rfl, rfl, k _ H O (.refl E) (.int _)⟩
    | _ => cases h
  | _ => cases h
/-- an operator on two ints under a condition -/
theorem intD_ok {op : BOp} {C : Int → Int → Prop} [∀ i j, Decidable (C i j)] {g : Int → Int → Int} (hg : ∀ d e x, binD op d e = some x → ∃ a b, d = .int a ∧ e = .int b ∧ C a b ∧ x = (false, .int (g a b))) : OpD W (rI C fun i j => .int (g i j)) (binD op) := by
  intro σ O H r v u d e x Q E q1 q2 h k
  obtain ⟨a, b, rfl, rfl, hc, rfl⟩ := hg d e x h
  obtain rfl := q1.int
  obtain rfl := q2.int
  exact ⟨a, b, rfl, rfl, hc, k _ H O (.refl E) (.int _)⟩
instance decDiv (i j : Int) : Decidable (CDiv i j) := inferInstanceAs (Decidable (_ ∧ _))
instance decPow (i j : Int) : Decidable (CPow i j) := inferInstanceAs (Decidable (_ ∧ _ ∧ _))
theorem fdivD_ok : OpD W (rI CDiv fun i j => .int (i / j)) (binD .fdiv) := intD_ok (g := fun i j => i / j) fun d e x h => by
  cases d with
  | int a =>
    cases e with
    | int b =>
      have h : (if 0 < b ∧ b < 1073741824 then some (false, D.int (a / b)) else none) = some x := h
      by_cases hc : 0 < b ∧ b < 1073741824
      · rw [if_pos hc] at h
        cases h
        exact ⟨a, b, rfl, rfl, hc, rfl⟩
      · rw [if_neg hc] at h
        cases h
    | _ => cases h
  | _ => cases h
theorem modD_ok : OpD W (rI (fun _ j => 0 < j) fun i j => .int (i % j)) (binD .mod) := intD_ok (g := fun i j => i % j) fun d e x h => by
  cases d with
  | int a =>
    cases e with
    | int b =>
      have h : (if 0 < b then some (false, D.int (a % b)) else none) = some x := h
      by_cases hc : 0 < b
      · rw [if_pos hc] at h
        cases h
        exact ⟨a, b, rfl, rfl, hc, rfl⟩
      · rw [if_neg hc] at h
        cases h
    | _ => cases h
  | _ => cases h
theorem powD_ok : OpD W (rI CPow fun i j => .int (i ^ j.toNat)) (binD .pow) := intD_ok (g := fun i j => i ^ j.toNat) fun d e x h => by
  cases d with
  | int a =>
    cases e with
    | int b =>
      have h : (if 0 ≤ b ∧ b ≤ 1000000 ∧ a.natAbs < 2 ^ 64 then some (false, D.int (a ^ b.toNat)) else none) = some x := h
      by_cases hc : 0 ≤ b ∧ b ≤ 1000000 ∧ a.natAbs < 2 ^ 64
      · rw [if_pos hc] at h
        cases h
        exact ⟨a, b, rfl, rfl, hc, rfl⟩
      · rw [if_neg hc] at h
        cases h
    | _ => cases h
  | _ => cases h
/-- a list times a number, tracked or frozen -/
def rRepR : R2 := fun x y H Q => ∃ l k xs, x = .ref l ∧ y = .int k ∧ Rd H l (.lst xs) ∧ -(2 ^ 63) ≤ k ∧ k < 2 ^ 63 ∧ xs.length * k.toNat ≤ sizeLine ∧
  ∀ p, H p = none → Q (.ref p) (upd H p (.lst (List.replicate k.toNat xs).flatten))
theorem op_repR : OpR X (binaryOp .Mult) rRepR := by
  intro pins s σ H x y v u Q I rx ry h
  obtain ⟨l, k, xs, rfl, rfl, hH, h1, h2, hz, q⟩ := h
  cases rx
  obtain ⟨t, rfl⟩ := ry
  obtain ⟨z, its, n, r, e⟩ := rdL I hH
  have hl := r.length
  have hlen : its.toArray.size * k.toNat ≤ sizeLine := by
    rw [List.size_toArray, ← hl]
    exact hz
  have hcap : ¬ its.toArray.size * k.toNat > (2 ^ 63 - 1) / 8 := by
    have : (sizeLine : Nat) ≤ (2 ^ 63 - 1) / 8 := by decide
    omega
  have hfit : ¬ (!Builtin.List.listFitsIndex k) = true := by
    rw [fitsIndex_both h1 h2]
    exact Bool.false_ne_true
  have hlong : ¬ Builtin.List.listTooLong (its.toArray.size * k.toNat) = true := by
    rw [notLongL hlen]
    exact Bool.false_ne_true
  have hnew : List.foldl (fun x1 x2 => x1 ++ x2) #[] (List.replicate (if its.toArray.isEmpty = true then 0 else k.toNat) its.toArray) = (List.replicate k.toNat its).flatten.toArray := by
    have f0 : ∀ m : Nat, List.foldl (fun x1 x2 => x1 ++ x2) #[] (List.replicate m its.toArray) = (List.replicate m its).flatten.toArray := fun m => by
      have := foldl_rep its m []
      rw [List.nil_append] at this
      exact this
    rw [f0]
    cases its with
    | nil => simp
    | cons a r' => rw [if_neg (by simp)]
  refine wpAny_binaryOp_repeat_ref (T := "list") (U := "int") (by decide) ⟨_, e, rfl⟩ (fun s' => typeIs_int s' k t) noFill_list_mul F.fills_int_mul F.slot_int_rmul repeat_list F.slot_int_index.lookup
    (call_meets F.slot_int_rmul (typeIs_int s k t) F.entry_int_rmul (F.args_int_rmul_2 _ _) (int___rmul___int_list k t l its.toArray n)
      ⟨e, rfl, ⟨_, e, rfl⟩, call_meets F.slot_list_mul ⟨_, e, rfl⟩ F.entry_list_mul (F.args_list_mul_2 _ _) (AutoListH.list___mul___list_int_3 l its.toArray n k t hfit hcap hlong) ⟨e, ?_⟩⟩)
  rw [hnew]
  exact ⟨.ref _, _, I.lnew (t' := s.toks) (r.rep k.toNat) (by rw [PyProof.Rows.lm_len_rep_flat, Nat.mul_comm]; exact hz), rfl, q _ I.fresh⟩
def rMulD : R2 := fun x y H Q => (rI CMul fun i j => .int (i * j)) x y H Q ∨ rRepR x y H Q
theorem op_mulD : OpR X (binaryOp .Mult) rMulD := op_mul.or op_repR
theorem mulD_ok : OpD W rMulD (binD .mul) := by
  intro σ O H r v u d e x Q E q1 q2 h k
  cases d with
  | int a =>
    cases e with
    | int b =>
      have h : (if (-(2 ^ 64) < a ∧ a < 2 ^ 64) ∨ (-(2 ^ 64) < b ∧ b < 2 ^ 64) then some (false, D.int (a * b)) else none) = some x := h
      by_cases hc : (-(2 ^ 64) < a ∧ a < 2 ^ 64) ∨ (-(2 ^ 64) < b ∧ b < 2 ^ 64)
      · rw [if_pos hc] at h
        cases h
        obtain rfl := q1.int
        obtain rfl := q2.int
        exact .inl ⟨a, b, rfl, rfl, hc, k _ H O (.refl E) (.int _)⟩
      · rw [if_neg hc] at h
        cases h
    | _ => cases h
  | lst a =>
    cases e with
    | int b =>
      have h : (if -(2 ^ 63) ≤ b ∧ b < 2 ^ 63 ∧ a.length * b.toNat ≤ sizeLine then some (true, D.lst ((List.replicate b.toNat a).flatten)) else none) = some x := h
      by_cases hc : -(2 ^ 63) ≤ b ∧ b < 2 ^ 63 ∧ a.length * b.toNat ≤ sizeLine
      · rw [if_pos hc] at h
        cases h
        obtain ⟨p1, v1, rfl, s1, r1⟩ := q1.lst
        obtain rfl := q2.int
        refine .inr ⟨p1, b, v1, rfl, rfl, s1, hc.1, hc.2.1, by rw [r1.length]; exact hc.2.2, fun p n => ?_⟩
        exact k _ _ _ (aft_own E n) (new_lst E n (r1.flat b.toNat))
      · rw [if_neg hc] at h
        cases h
    | _ => cases h
  | _ => cases h
end
/-! ### comparisons -/
section
variable {X : Cx} {W : Wd}
theorem eqq_ok {d e : D} {b : Bool} (h : D.eqq d e = some b) : ∃ x y, d.py = some x ∧ e.py = some y ∧ SeqAt.shaped x = true ∧ SeqAt.shaped y = true ∧ b = PyData.eqv x y := by
  unfold D.eqq at h
  split at h
  · rename_i x y e1 e2
    by_cases hs : (SeqAt.shaped x && SeqAt.shaped y) = true
    · rw [if_pos hs] at h
      cases h
      obtain ⟨h1, h2⟩ := Bool.and_eq_true_iff.mp hs
      exact ⟨x, y, e1, e2, h1, h2, rfl⟩
    · rw [if_neg hs] at h
      cases h
  · cases h
theorem eqD_ok : CmD W (rEqD W.K) (cmpD .eq) := by
  intro O H v u d e b Q q1 q2 h k
  obtain ⟨x, y, e1, e2, s1, s2, rfl⟩ := eqq_ok h
  exact ⟨x, y, q1.rp.dp e1, q2.rp.dp e2, s1, s2, k⟩
theorem neD_ok : CmD W (rNeD W.K) (cmpD .ne) := by
  intro O H v u d e b Q q1 q2 h k
  have h : (D.eqq d e).map (!·) = some b := h
  obtain ⟨c, hc, rfl⟩ := Option.map_eq_some_iff.mp h
  obtain ⟨x, y, e1, e2, s1, s2, rfl⟩ := eqq_ok hc
  exact ⟨x, y, q1.rp.dp e1, q2.rp.dp e2, s1, s2, k⟩
theorem ordD_ok {op : COp} {p : Int → Int → Bool} (hp : ∀ d e, cmpD op d e = ordD p d e) : CmD W (rI0 fun i j => .bl (p i j)) (cmpD op) := by
  intro O H v u d e b Q q1 q2 h k
  rw [hp] at h
  cases d with
  | int a =>
    cases e with
    | int c =>
      cases h
      obtain rfl := q1.int
      obtain rfl := q2.int
      exact ⟨a, c, rfl, rfl, k⟩
    | _ => cases h
  | _ => cases h
/-- x < y -/
def rLtD (K : PySem.W.Frag) : R2 := fun x y H Q => (rI0 fun i j => .bl (decide (i < j))) x y H Q ∨ (∃ i j, x = .str i ∧ y = .str j ∧ Q (.bl (decide (i.cps.toList < j.cps.toList))) H) ∨
  ∃ d e, Dp K H x d ∧ Dp K H y e ∧ PySem.W.alike d e = true ∧ d ≠ .none ∧ d.depth ≤ 60 ∧ Q (.bl (PySem.W.dataLt d e)) H
theorem op_ltD (hu : X.A.units + 65 < cLine) : OpR X (compareOp .Lt) (rLtD X.K) := by
  refine op_lt.or (op_lt_str.or ?_)
  intro pins s σ H x y v u Q I rx ry h
  obtain ⟨d, e, hd, he, ha, hn, hz, q⟩ := h
  obtain ⟨as, r1⟩ := Dp.reads I d x v hd rx
  obtain ⟨bs, r2⟩ := Dp.reads I e y u he ry
  exact PySem.W.rcLt_alike d e _ s v u as bs r1 r2 ha hn (by have : min d.depth e.depth ≤ d.depth := Nat.min_le_left _ _; omega) _ _ _ _ ⟨.bl _, H, I, rfl, q⟩
theorem ltD_ok : CmD W (rLtD W.K) (cmpD .lt) := by
  intro O H v u d e b Q q1 q2 h k
  have h : ltD d e = some b := h
  cases d with
  | int a =>
    cases e with
    | int c =>
      cases h
      obtain rfl := q1.int
      obtain rfl := q2.int
      exact .inl ⟨a, c, rfl, rfl, k⟩
    | _ => cases h
  | str a =>
    cases e with
    | str c =>
      cases h
      obtain rfl := q1.str
      obtain rfl := q2.str
      exact .inr (.inl ⟨a, c, rfl, rfl, k⟩)
    | _ => cases h
  | tup a =>
    cases e with
    | tup c =>
      have h : (match D.pyL a, D.pyL c with
        | some x, some y => if PySem.W.alike (.tuple x) (.tuple y) && Nat.ble (PyData.depth (.tuple x)) 60 then some (PySem.W.dataLt (.tuple x) (.tuple y)) else none
        | _, _ => none) = some b := h
      cases e1 : D.pyL a with
      | none =>
        rw [e1] at h
        cases h
      | some x =>
        cases e2 : D.pyL c with
        | none =>
          rw [e1, e2] at h
          cases h
        | some y =>
          rw [e1, e2] at h
          have h : (if (PySem.W.alike (.tuple x) (.tuple y) && Nat.ble (PyData.depth (.tuple x)) 60) = true then some (PySem.W.dataLt (.tuple x) (.tuple y)) else none) = some b := h
          by_cases hc : (PySem.W.alike (.tuple x) (.tuple y) && Nat.ble (PyData.depth (.tuple x)) 60) = true
          · rw [if_pos hc] at h
            cases h
            obtain ⟨c1, c2⟩ := Bool.and_eq_true_iff.mp hc
            exact .inr (.inr ⟨.tuple x, .tuple y, q1.rp.dp (show (D.pyL a).map PyData.tuple = _ by rw [e1]; rfl), q2.rp.dp (show (D.pyL c).map PyData.tuple = _ by rw [e2]; rfl), c1, (fun z => nomatch z), Nat.le_of_ble_eq_true c2, k⟩)
          · rw [if_neg hc] at h
            cases h
    | _ => cases h
  | _ => cases h
/-- x in y, y a list or a tuple of data, or a dict -/
def rInS (K : PySem.W.Frag) (f : Bool → Bool) : R2 := fun x y H Q => ∃ d ds, Dp K H x d ∧ (Dp K H y (.list ds) ∨ Dp K H y (.tuple ds)) ∧ SeqAt.shaped d = true ∧ PyData.canLayAll0 ds = true ∧ Q (.bl (f (ds.any fun z => PyData.eqv z d))) H
theorem room_in {A : Around} {d : PyData} {ds : List PyData} (sd : SeqAt.shaped d = true) (hu : A.units + 65 < cLine) : A.units + 1 + min (PyData.depthAll ds) d.depth < cLine := by
  have h1 := SeqAt.depth_of_shaped sd
  have h2 : min (PyData.depthAll ds) d.depth ≤ d.depth := Nat.min_le_right _ _
  omega
theorem op_inS (hu : X.A.units + 65 < cLine) : OpR X (compareOp .In) (rInS X.K id) := by
  intro pins s σ H x y v u Q I rx ry h
  obtain ⟨d, ds, hd, he, sd, se, q⟩ := h
  obtain ⟨as, r1⟩ := Dp.reads I d x v hd rx
  rcases he with he | he
  · obtain ⟨bs, r2⟩ := Dp.reads I (.list ds) y u he ry
    exact SeqAt.in_list_reads r2 r1 se (SeqAt.canLay_of_shaped sd) (room_in sd hu) ⟨.bl _, H, I, rfl, q⟩
  · obtain ⟨bs, r2⟩ := Dp.reads I (.tuple ds) y u he ry
    exact SeqAt.in_tuple_reads r2 r1 se (SeqAt.canLay_of_shaped sd) (room_in sd hu) ⟨.bl _, H, I, rfl, q⟩
theorem op_notInS (hu : X.A.units + 65 < cLine) : OpR X (compareOp .NotIn) (rInS X.K (!·)) := by
  intro pins s σ H x y v u Q I rx ry h
  obtain ⟨d, ds, hd, he, sd, se, q⟩ := h
  obtain ⟨as, r1⟩ := Dp.reads I d x v hd rx
  rcases he with he | he
  · obtain ⟨bs, r2⟩ := Dp.reads I (.list ds) y u he ry
    exact SeqAt.notIn_list_reads r2 r1 se (SeqAt.canLay_of_shaped sd) (room_in sd hu) ⟨.bl _, H, I, rfl, q⟩
  · obtain ⟨bs, r2⟩ := Dp.reads I (.tuple ds) y u he ry
    exact SeqAt.notIn_tuple_reads r2 r1 se (SeqAt.canLay_of_shaped sd) (room_in sd hu) ⟨.bl _, H, I, rfl, q⟩
/-- a dict that may be read, in the machine's heap -/
theorem dkAt {pins : List (Addr × Obj)} {σ : L2.St} {H : Hp} {s : Shared} {a : Addr} {ks : List (Key × V)} (I : Inv X pins σ H s) (h : DkAt X.prog X.w X.K H a ks) : ks.length ≤ sizeLine ∧ (a == sysModules) = false ∧ ∃ vs, KV ks vs ∧ s.heap.DictOf (mixKind X.prog X.w) a vs := by
  rcases h with h | ⟨es, n, vs, lk, low, hz, kv, ko, pr, nd⟩
  · exact dk_rd I.hok h
  · exact ⟨hz, low, vs, kv, ⟨_, es, n, I.kIn a _ lk, ⟨rfl, rfl, rfl⟩, rfl, ko, pr, nd⟩⟩
def rInK (P : Program) (w : World) (K : PySem.W.Frag) (f : Bool → Bool) : R2 := fun x y H Q => ∃ a ks k, y = .ref a ∧ DkAt P w K H a ks ∧ x = kV k ∧ Q (.bl (f (valV ks k).isSome)) H
theorem op_inK : OpR X (compareOp .In) (rInK X.prog X.w X.K id) := by
  intro pins s σ H x y v u Q I rx ry h
  obtain ⟨a, ks, k, rfl, hk, rfl, q⟩ := h
  cases ry
  obtain ⟨z, hd, vs, rel, dd⟩ := dkAt I hk
  refine wpAny_in_of (kV_is rx) hd dd.mapOf ?_
  rw [← (rel.val k).isSome_eq]
  exact ⟨.bl _, H, I.tok _, rfl, q⟩
theorem op_notInK : OpR X (compareOp .NotIn) (rInK X.prog X.w X.K (!·)) := by
  intro pins s σ H x y v u Q I rx ry h
  obtain ⟨a, ks, k, rfl, hk, rfl, q⟩ := h
  cases ry
  obtain ⟨z, hd, vs, rel, dd⟩ := dkAt I hk
  refine wpAny_notIn_of (kV_is rx) hd dd.mapOf ?_
  rw [← (rel.val k).isSome_eq]
  exact ⟨.bl _, H, I.tok _, rfl, q⟩
def rInD2 (W : Wd) (f : Bool → Bool) : R2 := fun x y H Q => rInS W.K f x y H Q ∨ rInK W.P W.w W.K f x y H Q ∨ rInN W f x y H Q
theorem key_ok {O : Own} {H : Hp} {v : V} {d : D} {k : Key} (q : Rb W O H v d) (h : d.key = some k) : v = kV k := by
  cases d with
  | int i =>
    cases h
    exact q.int
  | str x =>
    cases h
    exact q.str
  | _ => cases h
theorem inD_ok (f : Bool → Bool) : CmD W (rInD2 W f) (fun d e => (inD d e).map f) := by
  intro O H v u d e b Q q1 q2 h k
  obtain ⟨c, hc, rfl⟩ := Option.map_eq_some_iff.mp h
  have seq : ∀ ds, (match d.py with
      | some px => if SeqAt.shaped px then D.anyEq px ds else none
      | none => none) = some c → ∃ px ps, d.py = some px ∧ SeqAt.shaped px = true ∧ D.pyL ds = some ps ∧ PyData.canLayAll0 ps = true ∧ c = ps.any fun z => PyData.eqv z px := fun ds h => by
    cases e1 : d.py with
    | none =>
      rw [e1] at h
      cases h
    | some px =>
      rw [e1] at h
      have h : (if SeqAt.shaped px = true then D.anyEq px ds else none) = some c := h
      by_cases hs : SeqAt.shaped px = true
      · rw [if_pos hs] at h
        obtain ⟨ps, h1, h2, h3⟩ := anyEq_ok h
        exact ⟨px, ps, rfl, hs, h1, h2, h3⟩
      · rw [if_neg hs] at h
        cases h
  cases e with
  | tup ds =>
    obtain ⟨px, ps, e1, hs, e2, hl, rfl⟩ := seq ds hc
    exact .inl ⟨px, ps, q1.rp.dp e1, .inr (q2.rp.dp (show (D.pyL ds).map PyData.tuple = _ by rw [e2]; rfl)), hs, hl, k⟩
  | lst ds =>
    obtain ⟨px, ps, e1, hs, e2, hl, rfl⟩ := seq ds hc
    exact .inl ⟨px, ps, q1.rp.dp e1, .inl (q2.rp.dp (show (D.pyL ds).map PyData.list = _ by rw [e2]; rfl)), hs, hl, k⟩
  | dk kvs =>
    have h : (match d.key with
      | some k => some (hasK kvs k)
      | none => none) = some c := hc
    cases e1 : d.key with
    | none =>
      rw [e1] at h
      cases h
    | some ky =>
      rw [e1] at h
      cases h
      obtain ⟨a, ks, rfl, hk, r⟩ := q2.dk
      refine .inr (.inl ⟨a, ks, ky, rfl, .inl hk, key_ok q1 e1, ?_⟩)
      rw [← r.has ky]
      exact k
  | dw kvs =>
    have h : (match d.key with
      | some k => some (hasK kvs k)
      | none => none) = some c := hc
    cases e1 : d.key with
    | none =>
      rw [e1] at h
      cases h
    | some ky =>
      rw [e1] at h
      cases h
      obtain ⟨a, ks, rfl, hk, r⟩ := q2.dw
      refine .inr (.inl ⟨a, ks, ky, rfl, .inr hk, key_ok q1 e1, ?_⟩)
      rw [← r.has ky]
      exact k
  | dn kvs =>
    have h : (match d.tk with
      | some k => some (hasN kvs k)
      | none => none) = some c := hc
    cases e1 : d.tk with
    | none =>
      rw [e1] at h
      cases h
    | some ky =>
      rw [e1] at h
      cases h
      obtain ⟨a, o, xs, rfl, ha, hk, r⟩ := q2.dn
      exact .inr (.inr ⟨a, o, xs, kvs, d, ky, rfl, ha, hk, r.mono mns_sub, q1.rp, e1, k⟩)
  | _ => cases hc
theorem op_inD2 (hW : W = ⟨X.prog, X.w, X.K⟩) (hu : X.A.units + 65 < cLine) : OpR X (compareOp .In) (rInD2 W id) := by
  have h := op_inN hW hu
  subst hW
  exact (op_inS hu).or (op_inK.or h)
theorem op_notInD2 (hW : W = ⟨X.prog, X.w, X.K⟩) (hu : X.A.units + 65 < cLine) : OpR X (compareOp .NotIn) (rInD2 W (!·)) := by
  have h := op_notInN hW hu
  subst hW
  exact (op_notInS hu).or (op_notInK.or h)
end
end Eg
/-! Eg8: built-ins, subscripts. -/
namespace Eg
open PySem PySem.Spec PyProof.Rows L2
abbrev RC := List V → Hp → VK → Prop
theorem callR_or {X : Cx} {f : Value} {r r' : RC} (h : CallR X f r) (h' : CallR X f r') : CallR X f (fun xs H Q => r xs H Q ∨ r' xs H Q) := by
  intro pins s σ H xs us Q I rx q
  rcases q with q | q
  · exact h pins s σ H xs us Q I rx q
  · exact h' pins s σ H xs us Q I rx q
/-- a rule of a call by data -/
def ClD (W : Wd) (rd : RC) (g : List D → Option (Bool × D)) : Prop :=
  ∀ (σ : L2.St) (O : Own) (H : Hp) (r : Rho) (vs : List V) (ds : List D) (x : Bool × D) (Q : VK), EnvOk W O H σ r → RbL W O H vs ds → g ds = some x →
    (∀ z H' O', Aft W σ O H r O' H' r → ResAt W H O' H' x.1 x.2 z → Q z H') → rd vs H Q
section
variable {W : Wd} {cl : Cal} {wx : WX} {X : Cx} {pos : Pos}
theorem call_core {b : Blt} {c : CE} {rd : RC} (hd : ClD W rd (bltD b)) {σ : L2.St} {H : Hp} {Q : VK} (h : tV W cl wx (.blt b c) σ H Q) : tCB rd (tRs W cl wx c) σ H Q := by
  obtain ⟨O, r, E, q⟩ := h
  refine tRs.at E (good_bind.mp q) fun ds r1 vs H1 O1 hp a1 q1 => ?_
  obtain ⟨y, ey, hq⟩ := good_lift.mp hp
  exact hd σ O1 H1 r1 vs ds y Q a1.env q1 ey fun z H2 O2 a2 q3 => hq z H2 O2 (a1.trans E a2) (q3.back a1.stp)
theorem se_blt {b : Blt} {c : CE} {e : Expr} {es : List Expr} {x : Str} {p : Pos} {id : String} {rd : RC} (hW : W = ⟨X.prog, X.w, X.K⟩) (hc : CallR X (.builtin id) rd) (hd : ClD W rd (bltD b)) (hg : Gl X x) (hm : X.mg x = none) (hv : bootBuiltins x = some (.builtin id)) (hn : x ≠ "__name__")
    (hdb : (x == ("__debug__" : Str)) = false) (ha : PA X (e :: es) (tRs W cl wx c)) (he : starEach (e :: es) X.env = (false, eval e X.env) :: starEach es X.env) (hpl : (backTo pos (starEach es X.env)).any (·.1) = false) : SE W cl wx X (.blt b c) (.Call (.Name x p) (e :: es) [] pos) :=
  SE.leaf ((pe_callB hc hg hm hv ha hn hdb he hpl).wk fun σ H Q h => call_core hd h) hW rfl (fun _ => rfl) (fun _ => rfl)
theorem se_bltT {b : Blt} {c : CE} {e : Expr} {es : List Expr} {x : Str} {p : Pos} {T : String} {rd : RC} (hW : W = ⟨X.prog, X.w, X.K⟩) (hc : CallR X (.type T) rd) (hd : ClD W rd (bltD b)) (hg : Gl X x) (hm : X.mg x = none) (hv : bootBuiltins x = some (.type T)) (hn : x ≠ "__name__")
    (hdb : (x == ("__debug__" : Str)) = false) (ha : PA X (e :: es) (tRs W cl wx c)) (he : starEach (e :: es) X.env = (false, eval e X.env) :: starEach es X.env) (hpl : (backTo pos (starEach es X.env)).any (·.1) = false) : SE W cl wx X (.blt b c) (.Call (.Name x p) (e :: es) [] pos) :=
  SE.leaf ((pe_callTy hc hg hm hv ha hn hdb he hpl).wk fun σ H Q h => call_core hd h) hW rfl (fun _ => rfl) (fun _ => rfl)
end
/-! ### the built-ins -/
theorem rb1 {W : Wd} {O : Own} {H : Hp} {vs : List V} {d : D} (h : RbL W O H vs [d]) : ∃ v, vs = [v] ∧ Rb W O H v d := by
  cases vs with
  | nil => exact h.elim
  | cons v t =>
    cases t with
    | nil => exact ⟨v, rfl, h.1⟩
    | cons _ _ => exact h.2.elim
theorem rb2 {W : Wd} {O : Own} {H : Hp} {vs : List V} {d e : D} (h : RbL W O H vs [d, e]) : ∃ v u, vs = [v, u] ∧ Rb W O H v d ∧ Rb W O H u e := by
  cases vs with
  | nil => exact h.elim
  | cons v t =>
    obtain ⟨u, rfl, q⟩ := rb1 h.2
    exact ⟨v, u, rfl, h.1, q⟩
section
variable {W : Wd} {X : Cx}
/-- len -/
def rLenD (W : Wd) : RC := fun xs H Q => (∃ p ys, xs = [.ref p] ∧ (SqL W.K H p ys ∨ SqT W.K H p ys) ∧ Q (.int ys.length) H) ∨ (∃ p ks, xs = [.ref p] ∧ DkAt W.P W.w W.K H p ks ∧ Q (.int ks.length) H) ∨
  ∃ a o es ds, xs = [.ref a] ∧ H a = some (dnO a o) ∧ DnObj W.P W.w a o es ∧ RpN W H es ds ∧ Q (.int es.length) H
theorem cr_len (hW : W = ⟨X.prog, X.w, X.K⟩) : CallR X (.builtin "len") (rLenD W) := by
  have hn : CallR X (.builtin "len") fun xs H Q => ∃ a o es ds, xs = [.ref a] ∧ H a = some (dnO a o) ∧ DnObj W.P W.w a o es ∧ RpN W H es ds ∧ Q (.int es.length) H := by
    intro pins s σ H xs us Q I r h
    obtain ⟨a, o, es, ds, rfl, ha, hk, rr, q⟩ := h
    obtain ⟨u, rfl, rx⟩ := vals1 r
    cases rx
    obtain ⟨vs, t, dd, _⟩ := dn_at hW I ha hk rr
    have hl := paired_len t
    have hz := hk.2.1
    rw [sizeLine_eq] at hz
    refine call_len_slot (n := es.length) dd.typeIs F.slot_dict_len (fun Q' hq => len_keyed (kvs := pairsH vs) hk.1 ⟨vs, dd, rfl⟩ ?_) (by omega) (by omega) ⟨.int es.length, H, I.tok _, ⟨_, rfl⟩, q⟩
    rw [pairsH_length, ← hl]
    exact hq
  subst hW
  refine callR_or call_len_seq (callR_or ?_ hn)
  intro pins s σ H xs us Q I r h
  obtain ⟨p, ks, rfl, hk, q⟩ := h
  obtain ⟨u, rfl, rx⟩ := vals1 r
  cases rx
  obtain ⟨z, hd, vs, rel, dd⟩ := dkAt I hk
  refine call_len_dict hd dd (by rw [← rel.length]; rw [sizeLine_eq] at z; omega) ?_
  rw [← rel.length]
  exact ⟨.int ks.length, H, I.tok _, ⟨_, rfl⟩, q⟩
theorem lenD_ok : ClD W (rLenD W) (bltD .len) := by
  intro σ O H r vs ds x Q E q h k
  match ds, h, q with
  | [.lst xs], h, q =>
    cases h
    obtain ⟨v, rfl, qq⟩ := rb1 q
    obtain ⟨p, ys, rfl, s, l⟩ := qq.lst
    refine .inl ⟨p, ys, rfl, .inl (.inl s), ?_⟩
    rw [l.length]
    exact k _ H O (.refl E) (.int _)
  | [.tup xs], h, q =>
    cases h
    obtain ⟨v, rfl, qq⟩ := rb1 q
    obtain ⟨p, ys, rfl, s, l⟩ := qq.tup
    refine .inl ⟨p, ys, rfl, .inr s, ?_⟩
    rw [l.length]
    exact k _ H O (.refl E) (.int _)
  | [.dk xs], h, q =>
    cases h
    obtain ⟨v, rfl, qq⟩ := rb1 q
    obtain ⟨p, ys, rfl, s, l⟩ := qq.dk
    refine .inr (.inl ⟨p, ys, rfl, .inl s, ?_⟩)
    rw [l.length]
    exact k _ H O (.refl E) (.int _)
  | [.dw xs], h, q =>
    cases h
    obtain ⟨v, rfl, qq⟩ := rb1 q
    obtain ⟨p, ys, rfl, s, l⟩ := qq.dw
    refine .inr (.inl ⟨p, ys, rfl, .inr s, ?_⟩)
    rw [l.length]
    exact k _ H O (.refl E) (.int _)
  | [.ct xs], h, q =>
    cases h
    obtain ⟨v, rfl, qq⟩ := rb1 q
    obtain ⟨p, ys, rfl, s, l⟩ := qq.ct
    refine .inl ⟨p, ys, rfl, .inr s.sq, ?_⟩
    rw [l.length]
    exact k _ H O (.refl E) (.int _)
  | [.dn xs], h, q =>
    cases h
    obtain ⟨v, rfl, qq⟩ := rb1 q
    obtain ⟨p, o, ys, rfl, ha, hk, l⟩ := qq.dn
    refine .inr (.inr ⟨p, o, ys, xs, rfl, ha, hk, l.mono mns_sub, ?_⟩)
    rw [l.length]
    exact k _ H O (.refl E) (.int _)
/-- int -/
def rIntD : RC := fun xs H Q => (∃ i, xs = [.int i] ∧ Q (.int i) H) ∨ ∃ k, xs = [.bl k] ∧ Q (.int (if k then 1 else 0)) H
def rIntS : RC := fun xs H Q => ∃ a n, xs = [.str a] ∧ PySem.intText? a = some n ∧ a.length ≤ 640 ∧ Q (.int n) H
theorem intB_ok : ClD W (fun xs H Q => rIntD xs H Q ∨ rIntS xs H Q) (bltD .int) := by
  intro σ O H r vs ds x Q E q h k
  match ds, h, q with
  | [.int i], h, q =>
    cases h
    obtain ⟨v, rfl, qq⟩ := rb1 q
    obtain rfl := qq.int
    exact .inl (.inl ⟨i, rfl, k _ H O (.refl E) (.int _)⟩)
  | [.bl b], h, q =>
    cases h
    obtain ⟨v, rfl, qq⟩ := rb1 q
    obtain rfl := qq.bl
    exact .inl (.inr ⟨b, rfl, k _ H O (.refl E) (.int _)⟩)
  | [.str a], h, q =>
    have h : (if Nat.ble a.length 640 = true then (PySem.intText? a).map (fun n => (false, D.int n)) else none) = some x := h
    by_cases hz : Nat.ble a.length 640 = true
    · rw [if_pos hz] at h
      obtain ⟨n, e, rfl⟩ := Option.map_eq_some_iff.mp h
      obtain ⟨v, rfl, qq⟩ := rb1 q
      obtain rfl := qq.str
      exact .inr ⟨a, n, rfl, e, Nat.le_of_ble_eq_true hz, k _ H O (.refl E) (.int _)⟩
    · rw [if_neg hz] at h
      cases h
/-- str -/
def rStrI : RC := fun xs H Q => ∃ i : Int, xs = [.int i] ∧ i.natAbs.log2 < 1920 ∧ Q (.str (toString i)) H
def rStrS : RC := fun xs H Q => ∃ a, xs = [.str a] ∧ Q (.str a) H
theorem strB_ok : ClD W (fun xs H Q => rStrI xs H Q ∨ rStrS xs H Q) (bltD .str) := by
  intro σ O H r vs ds x Q E q h k
  match ds, h, q with
  | [.int i], h, q =>
    have h : (if Nat.blt i.natAbs.log2 1920 = true then some (false, D.str (Str.ofString (toString i))) else none) = some x := h
    by_cases hz : Nat.blt i.natAbs.log2 1920 = true
    · rw [if_pos hz] at h
      cases h
      obtain ⟨v, rfl, qq⟩ := rb1 q
      obtain rfl := qq.int
      exact .inl ⟨i, rfl, Nat.le_of_ble_eq_true hz, k _ H O (.refl E) (.str _)⟩
    · rw [if_neg hz] at h
      cases h
  | [.str a], h, q =>
    cases h
    obtain ⟨v, rfl, qq⟩ := rb1 q
    obtain rfl := qq.str
    exact .inr ⟨a, rfl, k _ H O (.refl E) (.str _)⟩
def rMinD : RC := fun xs H Q => ∃ i j, xs = [.int i, .int j] ∧ Q (.int (if j < i then j else i)) H
theorem minB_ok : ClD W rMinD (bltD .min) := by
  intro σ O H r vs ds x Q E q h k
  match ds, h, q with
  | [.int i, .int j], h, q =>
    cases h
    obtain ⟨v, u, rfl, q1, q2⟩ := rb2 q
    obtain rfl := q1.int
    obtain rfl := q2.int
    exact ⟨i, j, rfl, k _ H O (.refl E) (.int _)⟩
/-- all, any -/
theorem bools_ok {H : Hp} : ∀ {vs : List V} {ds : List D} {bs : List Bool}, RpL W H vs ds → bools ds = some bs → vs = bs.map V.bl
  | _, _, bs, .nil, h => by
    cases h
    rfl
  | _, _, bs, .cons (d := d) (ds := ds) a r, h => by
    cases d with
    | bl b =>
      have h : (bools ds).map (fun bs => b :: bs) = some bs := h
      obtain ⟨cs, e, rfl⟩ := Option.map_eq_some_iff.mp h
      cases a
      rw [bools_ok r e]
      rfl
    | _ => cases h
theorem allB_ok : ClD W (rAll W.K) (bltD .all) := by
  intro σ O H r vs ds x Q E q h k
  match ds, h, q with
  | [.lst xs], h, q =>
    have h : (bools xs).map (fun bs => (false, D.bl (bs.all id))) = some x := h
    obtain ⟨bs, e, rfl⟩ := Option.map_eq_some_iff.mp h
    obtain ⟨v, rfl, qq⟩ := rb1 q
    obtain ⟨p, ys, rfl, s, l⟩ := qq.lst
    refine ⟨p, bs, rfl, ?_, k _ H O (.refl E) (.bl _)⟩
    rw [← bools_ok l e]
    exact .inl s
theorem anyB_ok : ClD W (rAny W.K) (bltD .any) := by
  intro σ O H r vs ds x Q E q h k
  match ds, h, q with
  | [.lst xs], h, q =>
    have h : (bools xs).map (fun bs => (false, D.bl (bs.any id))) = some x := h
    obtain ⟨bs, e, rfl⟩ := Option.map_eq_some_iff.mp h
    obtain ⟨v, rfl, qq⟩ := rb1 q
    obtain ⟨p, ys, rfl, s, l⟩ := qq.lst
    refine ⟨p, bs, rfl, ?_, k _ H O (.refl E) (.bl _)⟩
    rw [← bools_ok l e]
    exact .inl s
/-- tuple, list -/
def rTupD (K : PySem.W.Frag) : RC := fun xs H Q => ∃ p ys, xs = [.ref p] ∧ ((SqL K H p ys ∧ ∀ l, H l = none → Q (.ref l) (upd H l (.tup ys))) ∨ (SqT K H p ys ∧ Q (.ref p) H))
theorem tupB_ok : ClD W (rTupD W.K) (bltD .tuple) := by
  intro σ O H r vs ds x Q E q h k
  match ds, h, q with
  | [.lst xs], h, q =>
    cases h
    obtain ⟨v, rfl, qq⟩ := rb1 q
    obtain ⟨p, ys, rfl, s, l⟩ := qq.lst
    exact ⟨p, ys, rfl, .inl ⟨.inl s, fun t n => k _ _ _ (aft_new E n) (new_tup E n l)⟩⟩
  | [.tup xs], h, q =>
    cases h
    obtain ⟨v, rfl, qq⟩ := rb1 q
    have q0 := qq
    obtain ⟨p, ys, rfl, s, l⟩ := qq.tup
    refine ⟨p, ys, rfl, .inr ⟨s, k _ H O (.refl E) ?_⟩⟩
    rcases q0 with q0 | ⟨_, _, _, q0⟩
    · exact q0
    · exact q0.elim
def rLstD (K : PySem.W.Frag) : RC := fun xs H Q => ∃ p ys, xs = [.ref p] ∧ (SqL K H p ys ∨ SqT K H p ys) ∧ ∀ l, H l = none → Q (.ref l) (upd H l (.lst ys))
theorem lstB_ok : ClD W (rLstD W.K) (bltD .list) := by
  intro σ O H r vs ds x Q E q h k
  match ds, h, q with
  | [.lst xs], h, q =>
    cases h
    obtain ⟨v, rfl, qq⟩ := rb1 q
    obtain ⟨p, ys, rfl, s, l⟩ := qq.lst
    exact ⟨p, ys, rfl, .inl (.inl s), fun t n => k _ _ _ (aft_own E n) (new_lst E n l)⟩
  | [.tup xs], h, q =>
    cases h
    obtain ⟨v, rfl, qq⟩ := rb1 q
    obtain ⟨p, ys, rfl, s, l⟩ := qq.tup
    exact ⟨p, ys, rfl, .inr s, fun t n => k _ _ _ (aft_own E n) (new_lst E n l)⟩
/-- dict(d) -/
def rDicD (W : Wd) : RC := fun xs H Q => ∃ (a : Addr) (kvs : List (Key × V)), xs = [.ref a] ∧ DkAt W.P W.w W.K H a kvs ∧ ∀ p, H p = none → Q (.ref p) (upd H p (.dK kvs))
theorem cr_dict (hW : W = ⟨X.prog, X.w, X.K⟩) : CallR X (.type "dict") (rDicD W) := by
  subst hW
  intro pins s σ H xs us Q I r q
  obtain ⟨a, kvs, ex, hd, q⟩ := q
  subst ex
  obtain ⟨u, eu, rx⟩ := vals1 r
  subst eu
  cases rx
  obtain ⟨z, lo, vs, rel, dd⟩ := dkAt I hd
  refine kt_call_dict lo dd (by rw [← rel.length]; exact z) fun h' d' hs => ?_
  have hm : (s.heap.objs.size == sysModules) = false := beq_eq_false_iff_ne.mpr (Nat.ne_of_gt I.big)
  exact ⟨.ref s.heap.objs.size, upd H s.heap.objs.size (.dK kvs), I.laid (t' := s.toks) (fun b u e => (hs.2 b (Nat.ne_of_lt (Heap.lt_size e))).trans (Heap.get?_push_of_some _ e)) (Nat.le_refl _)
    (show ObjOk X.prog X.w _ _ _ (.dK kvs) from ⟨z, hm, vs, rel, d'⟩), rfl, q _ (I.hok.fresh (Nat.le_refl _))⟩
theorem dicB_ok : ClD W (rDicD W) (bltD .dict) := by
  intro σ O H r vs ds x Q E q h k
  match ds, h, q with
  | [.dk xs], h, q =>
    cases h
    obtain ⟨v, rfl, qq⟩ := rb1 q
    obtain ⟨p, ys, rfl, s, l⟩ := qq.dk
    exact ⟨p, ys, rfl, .inl s, fun t n => k _ _ _ (aft_own E n) (new_dk E n l)⟩
/-- repr of a list or a tuple of data -/
def rRepD (K : PySem.W.Frag) : RC := fun xs H Q => ∃ v d, xs = [v] ∧ Dp K H v d ∧ PyData.showable d = true ∧ PyData.hasDict d = false ∧ PyProof.Rows.isDisplay d = true ∧ d.depth ≤ 60 ∧ d.shown.length ≤ sizeLine ∧ Q (.str d.shown) H
theorem cr_repr (hg : X.A.guards = some []) (hu : X.A.units + 64 < cLine) : CallR X (.builtin "repr") (rRepD X.K) := by
  intro pins s σ H xs us Q I r q
  obtain ⟨v, d, rfl, hd, h1, h2, h3, h4, h5, q⟩ := q
  obtain ⟨u, rfl, rx⟩ := vals1 r
  obtain ⟨as, rd⟩ := Dp.reads I d v u hd rx
  obtain ⟨a, rfl⟩ := isRef_of_reads rd h3
  refine repr_of_reads' rd h1 (PyData.noDict_hsm h2) hg (by omega) (fun _ _ e => e) (fun h' u tk hk => ?_) h5
  exact ⟨.str d.shown, H, I.kept hk, ⟨_, rfl⟩, q⟩
theorem repB_ok : ClD W (rRepD W.K) (bltD .repr) := by
  intro σ O H r vs ds x Q E q h k
  match ds, h, q with
  | [a], h, q =>
    have h : (match a.py with
      | some d => if PyData.showable d && !PyData.hasDict d && bltD.isDisplay d && decide (d.depth ≤ 60) && small d.shown.length then some (false, D.str d.shown) else none
      | none => none) = some x := by
      cases a <;> exact h
    obtain ⟨v, rfl, qq⟩ := rb1 q
    cases e : a.py with
    | none =>
      rw [e] at h
      cases h
    | some d =>
      rw [e] at h
      have h : (if (PyData.showable d && !PyData.hasDict d && bltD.isDisplay d && decide (d.depth ≤ 60) && small d.shown.length) = true then some (false, D.str d.shown) else none) = some x := h
      by_cases hc : (PyData.showable d && !PyData.hasDict d && bltD.isDisplay d && decide (d.depth ≤ 60) && small d.shown.length) = true
      · rw [if_pos hc] at h
        cases h
        simp only [Bool.and_eq_true, decide_eq_true_eq, Bool.not_eq_true'] at hc
        obtain ⟨⟨⟨⟨c1, c2⟩, c3⟩, c4⟩, c5⟩ := hc
        refine ⟨v, d, rfl, qq.rp.dp e, c1, c2, ?_, c4, small_le c5, k _ H O (.refl E) (.str _)⟩
        cases d <;> first | rfl | cases c3
      · rw [if_neg hc] at h
        cases h
end
end Eg
/-! Eg9: isinstance, subscripts, slices, methods, dicts written, changes in place. -/
namespace Eg
open PySem PySem.Spec PyProof.Rows L2
/-! ### isinstance -/
def Ty.name : Ty → String
  | .str => "str"
  | .int => "int"
  | .bool => "bool"
  | .tuple => "tuple"
  | .list => "list"
  | .dict => "dict"
def D.tyV (W : Wd) : D → Value
  | .non => .type "NoneType"
  | .bl _ => .type "bool"
  | .int _ => .type "int"
  | .str _ => .type "str"
  | .tup _ => .type "tuple"
  | .lst _ => .type "list"
  | .dk _ => .type "dict"
  | .dw _ => .type "dict"
  | .ins C _ => .ref (ca W C)
  | .dn _ => .none
  | .ct _ => .none
  | .tp _ => .none
def D.isDn : D → Bool
  | .dn _ => true
  | .ct _ => true
  | .tp _ => true
  | _ => false
theorem tyx {W : Wd} {H : Hp} {v : V} {d : D} (q : Rp W H v d) (hd : d.isDn = false) : TyX W.K H v (d.tyV W) := by
  cases q with
  | non => exact .base .non
  | bl b => exact .base (.bl b)
  | int i => exact .base (.int i)
  | str x => exact .base (.str x)
  | tup a r =>
    rcases a with (a | ⟨o, a⟩) | ⟨o, its, n, h1, h2, _⟩
    · exact .base (.tup a)
    · exact .fTuple a
    · exact .kTuple h1 h2
  | lst a r =>
    rcases a with a | ⟨o, a⟩
    · exact .base (.lst a)
    · exact .base (.frz a)
  | dk a r =>
    rcases a with a | ⟨o, a⟩
    · exact .base (.dK a)
    · exact .fDict a
  | dw a r =>
    obtain ⟨es, n, vs, h1, _⟩ := a
    exact .kDict h1 rfl
  | ins k a r => exact .base (.ins a k.cl k.ha k.hn k.htk k.hm)
  | dn a k r => cases hd
  | ct a r => cases hd
theorem kit_d {W : Wd} {H : Hp} {v : V} {d : D} (q : Rp W H v d) (hd : d.isDn = false) (t : Ty) : PySem.W.kitOne W.K (d.tyV W) (.type t.name) = some (tyD d t) := by
  have all : ∀ t : Ty, kitB "NoneType" t.name = some false ∧ kitB "bool" t.name = some (tyD (.bl true) t) ∧ kitB "int" t.name = some (tyD (.int 0) t) ∧ kitB "str" t.name = some (tyD (.str Str.empty) t) ∧ kitB "tuple" t.name = some (tyD (.tup []) t) ∧
      kitB "list" t.name = some (tyD (.lst []) t) ∧ kitB "dict" t.name = some (tyD (.dk []) t) := by
    intro t
    cases t <;> decide +kernel
  obtain ⟨h1, h2, h3, h4, h5, h6, h7⟩ := all t
  cases q with
  | non => exact kit_ty (h1.trans (by cases t <;> rfl))
  | bl b => exact kit_ty (h2.trans (by cases t <;> rfl))
  | int b => exact kit_ty (h3.trans (by cases t <;> rfl))
  | str b => exact kit_ty (h4.trans (by cases t <;> rfl))
  | tup b => exact kit_ty (h5.trans (by cases t <;> rfl))
  | lst b => exact kit_ty (h6.trans (by cases t <;> rfl))
  | dk b => exact kit_ty (h7.trans (by cases t <;> rfl))
  | dw b => exact kit_ty (h7.trans (by cases t <;> rfl))
  | ins k a r =>
    refine (k.ty t.name (by cases t <;> decide)).trans ?_
    cases t <;> rfl
  | dn a k r => cases hd
  | ct a r => cases hd
theorem kit_any {W : Wd} {H : Hp} {v : V} {d : D} (q : Rp W H v d) (hd : d.isDn = false) : ∀ ts : List Ty, PySem.W.kitAny W.K (d.tyV W) (ts.map fun t => .type t.name) = some (ts.any (tyD d))
  | [] => rfl
  | t :: ts => by
    have ih := kit_any q hd ts
    rw [List.map_cons, List.any_cons]
    unfold PySem.W.kitAny
    rw [kit_d q hd t]
    cases tyD d t with
    | true => rfl
    | false => exact ih
theorem Rb.new {W : Wd} {O : Own} {H : Hp} {v : V} {d : D} {p : Addr} {o : HO} (h : Rb W O H v d) (n : H p = none) : Rb W O (upd H p o) v d := by
  rcases h with h | ⟨a, e, oa, h⟩
  · exact .inl (h.mono (subm_new n))
  · exact .inr ⟨a, e, oa, h.mono (fun u z => sub_new n a u z) (subm_new n)⟩
theorem tyO_ok {ts : List Ty} {d : D} {b : Bool} (h : tyO ts d = some b) : d.isDn = false ∧ b = ts.any (tyD d) := by
  cases d <;> first | (cases h; exact ⟨rfl, rfl⟩) | cases h
section
variable {W : Wd} {cl : Cal} {wx : WX} {X : Cx} {pos : Pos}
theorem se_isi {c : CE} {t : Ty} {e : Expr} {x : Str} {p p2 : Pos} (hW : W = ⟨X.prog, X.w, X.K⟩) (h : SE W cl wx X c e) (hx : x = t.name) (hg : Gl X "isinstance") (hm : X.mg "isinstance" = none) (hg2 : Gl X x) (hm2 : X.mg x = none) (hv2 : bootBuiltins x = some (.type t.name)) (hn : x ≠ "__name__")
    (hdb : (x == ("__debug__" : Str)) = false) (hs : ∀ es, starEach (e :: es) X.env = (false, eval e X.env) :: starEach es X.env) : SE W cl wx X (.isi c t) (.Call (.Name "isinstance" p) [e, .Name x p2] [] pos) := by
  refine SE.leaf ((pe_callB call_isi hg hm (by decide +kernel) (pa_cons h.r (pa_cons (pe_bltn (v := .ty t.name) hg2 hm2 hv2 rfl hn hdb) pa_nil) (hs _)) (by decide) (by decide) (hs _) (by rfl)).wk fun σ H Q ⟨O, r, E, q⟩ => ?_) hW rfl (fun _ => rfl) (fun _ => rfl)
  refine tR.at E (good_bind.mp q) fun y r1 v H1 O1 hp a1 q1 => ?_
  obtain ⟨b, eb, hq⟩ := good_lift.mp (good_bind.mp hp)
  obtain ⟨hd, rfl⟩ := tyO_ok eb
  have z := tyx q1.rp hd
  have k := kit_d q1.rp hd t
  rw [hW] at z k
  refine ⟨v, .ty t.name, _, .type t.name, tyD y.2 t, rfl, .ty _, z, k, ?_⟩
  have e2 : ([t].any (tyD y.2)) = tyD y.2 t := by simp
  rw [e2] at hq
  exact hq _ H1 O1 a1 (.bl _)
/-- the names of built-in classes, as values -/
inductive PTys (X : Cx) : List Expr → List Ty → Prop
  | nil : PTys X [] []
  | cons {x : Str} {p : Pos} {t : Ty} {es : List Expr} {ts : List Ty} : Gl X x → X.mg x = none → bootBuiltins x = some (.type t.name) → x ≠ "__name__" → (x == ("__debug__" : Str)) = false → PTys X es ts → PTys X (.Name x p :: es) (t :: ts)
theorem PTys.pa : ∀ {es : List Expr} {ts : List Ty}, PTys X es ts → PA X es fun _ H Q => Q (ts.map fun t => V.ty t.name) H
  | _, _, .nil => pa_nil
  | _, _, .cons h1 h2 h3 h4 h5 r => (pa_cons (pe_bltn (v := .ty _) h1 h2 h3 rfl h4 h5) r.pa rfl).wk fun σ H Q q => q
theorem cls_all : ∀ ts : List Ty, Paired ClsV (ts.map fun t => V.ty t.name) (ts.map fun t => Value.type t.name)
  | [] => .nil
  | t :: ts => .cons (.ty _) (cls_all ts)
theorem se_isis {c : CE} {ts : List Ty} {e : Expr} {es : List Expr} {p p2 : Pos} {kk : Nat} (hW : W = ⟨X.prog, X.w, X.K⟩) (h : SE W cl wx X c e) (ht : PTys X es ts) (hz : ts.length ≤ 10) (hg : Gl X "isinstance") (hm : X.mg "isinstance" = none)
    (hs : ∀ es, starEach (e :: es) X.env = (false, eval e X.env) :: starEach es X.env) : SE W cl wx X (.isis c ts) (.Call (.Name "isinstance" p) [e, .Tuple es kk p2] [] pos) := by
  refine SE.leaf ((pe_callB call_isiT hg hm (by decide +kernel) (pa_cons h.r (pa_cons (pe_tup ht.pa) pa_nil) (hs _)) (by decide) (by decide) (hs _) (by rfl)).wk fun σ H Q ⟨O, r, E, q⟩ => ?_) hW rfl (fun _ => rfl) (fun _ => rfl)
  refine tR.at E (good_bind.mp q) fun y r1 v H1 O1 hp a1 q1 => ?_
  obtain ⟨b, eb, hq⟩ := good_lift.mp (good_bind.mp hp)
  obtain ⟨hd, rfl⟩ := tyO_ok eb
  refine ⟨by rw [List.length_map, sizeLine_eq]; omega, fun pp n => ?_⟩
  have a2 := aft_new (o := .tup (ts.map fun t => V.ty t.name)) a1.env n
  have q2 := (q1.new (o := .tup (ts.map fun t => V.ty t.name)) n).rp
  have z := tyx q2 hd
  have k := kit_any q2 hd ts
  rw [hW] at z k
  exact ⟨v, pp, _, _, _, _, rfl, upd_same, cls_all ts, z, k, hq _ _ O1 (a1.trans E a2) (.bl _)⟩
/-- isinstance with a class of the program -/
theorem se_isk {c : CE} {C : Addr} {Cs : List Addr} {e : Expr} {x : Str} {p p2 : Pos} (hW : W = ⟨X.prog, X.w, X.K⟩) (h : SE W cl wx X c e) (hg : Gl X "isinstance") (hm : X.mg "isinstance" = none) (hg2 : Gl X x) (hm2 : X.mg x = some (.ref (ca W C)))
    (hdb : (x == ("__debug__" : Str)) = false) (hb : ∀ t : String, t ∈ ["NoneType", "str", "int", "bool", "tuple", "list", "dict"] → PySem.W.kitOne W.K (.type t) (.ref (ca W C)) = some false) (hk : ∀ C' ∈ Cs, PySem.W.kitOne W.K (.ref (ca W C')) (.ref (ca W C)) = some (C' == C))
    (hs : ∀ es, starEach (e :: es) X.env = (false, eval e X.env) :: starEach es X.env) : SE W cl wx X (.isk Cs c C) (.Call (.Name "isinstance" p) [e, .Name x p2] [] pos) := by
  refine SE.leaf ((pe_callB call_isi hg hm (by decide +kernel) (pa_cons h.r (pa_cons (pe_glob (v := .ref (ca W C)) hg2 hm2 rfl hdb) pa_nil) (hs _)) (by decide) (by decide) (hs _) (by rfl)).wk fun σ H Q ⟨O, r, E, q⟩ => ?_) hW rfl (fun _ => rfl) (fun _ => rfl)
  refine tR.at E (good_bind.mp q) fun y r1 v H1 O1 hp a1 q1 => ?_
  obtain ⟨b, eb, hq⟩ := good_lift.mp (good_bind.mp hp)
  have hd : y.2.isDn = false ∧ PySem.W.kitOne W.K (y.2.tyV W) (.ref (ca W C)) = some b := by
    cases hy : y.2 with
    | dn kvs =>
      rw [hy] at eb
      cases eb
    | ct kvs =>
      rw [hy] at eb
      cases eb
    | tp kvs =>
      rw [hy] at eb
      cases eb
    | ins C' fs =>
      rw [hy] at eb
      have eb : (if Cs.contains C' = true then some (C' == C) else none) = some b := eb
      by_cases hc : Cs.contains C' = true
      · rw [if_pos hc] at eb
        cases eb
        exact ⟨rfl, hk C' (List.contains_iff_mem.mp hc)⟩
      · rw [if_neg hc] at eb
        cases eb
    | _ =>
      rw [hy] at eb
      cases eb
      exact ⟨rfl, hb _ (by decide)⟩
  have z := tyx q1.rp hd.1
  have k := hd.2
  have eK : X.K = W.K := by rw [hW]
  rw [← eK] at z k
  exact ⟨v, .ref (ca W C), _, .ref (ca W C), b, rfl, .own _, z, k, hq _ H1 O1 a1 (.bl _)⟩
end
section
variable {W : Wd} {cl : Cal} {wx : WX} {X : Cx} {pos : Pos}
/-! ### a[b] -/
theorem atI_rp {H : Hp} {vs : List V} {ds : List D} {i : Int} {d : D} (r : RpL W H vs ds) (h : ixD ds i = some d) : ∃ v, atI vs i = some v ∧ Rp W H v d := by
  unfold ixD atI at h
  cases e : ixN ds.length i with
  | none =>
    rw [e] at h
    cases h
  | some j =>
    rw [e] at h
    obtain ⟨v, e2, q⟩ := r.get (show ds[j]? = some d from h)
    refine ⟨v, ?_, q⟩
    unfold atI
    rw [r.length, e]
    exact e2
def rIxK (W : Wd) : R2 := fun x y H Q => ∃ a ks k v, x = .ref a ∧ DkAt W.P W.w W.K H a ks ∧ y = kV k ∧ valV ks k = some v ∧ Q v H
theorem ix_dk (hW : W = ⟨X.prog, X.w, X.K⟩) : IxR X (rIxK W) := by
  subst hW
  intro value slice pins s σ H x y v u Q I rx ry h hs
  obtain ⟨a, ks, k, z, rfl, hk, rfl, e, q⟩ := h
  cases rx
  obtain ⟨_, hd, vs, rel, dd⟩ := dkAt I hk
  obtain ⟨w', hw, rw'⟩ := RelO.some_of (v := z) (o := valueAt vs k) (by rw [← e]; exact rel.val k)
  exact tail_any dd.typeIs slot_dict_getitem.lookup (wpAny_getItem_of (kV_is ry) dd.mapOf hw ⟨z, H, I.tok _, rw', q⟩) hs
def rIxA (W : Wd) : R2 := fun x y H Q => rIxL W.K x y H Q ∨ rIxT W.K x y H Q ∨ rIxK W x y H Q ∨ rIxN W x y H Q
theorem ix_all (hW : W = ⟨X.prog, X.w, X.K⟩) (hu : X.A.units + 65 < cLine) : IxR X (rIxA W) := by
  have h := ix_dk hW
  have h2 := ix_dn hW hu
  subst hW
  exact ix_list.or (ix_tup.or (h.or h2))
theorem se_idx {c1 c2 : CE} {e1 e2 : Expr} (hW : W = ⟨X.prog, X.w, X.K⟩) (hu : X.A.units + 65 < cLine) (h1 : SE W cl wx X c1 e1) (h2 : SE W cl wx X c2 e2) (hs : PlainIx e2) : SE W cl wx X (.idx c1 c2) (.Subscript e1 e2 pos) := by
  refine SE.leaf ((pe_ix (ix_all hW hu) h1.a1 h2.r hs).wk fun σ H Q ⟨O, r, E, q⟩ => ?_) hW rfl (fun _ => rfl) (fun _ => rfl)
  refine two_op E (good_bind.mp q) fun x r1 v u H1 O1 hp a1 q1 q2 => ?_
  obtain ⟨d, ed, hq⟩ := good_lift.mp (good_bind.mp hp)
  obtain ⟨d1, d2⟩ := x
  simp only at ed q1 q2
  cases d1 with
  | tup xs =>
    cases d2 with
    | int i =>
      obtain ⟨p, vs, rfl, s, l⟩ := q1.tup
      obtain rfl := q2.int
      obtain ⟨w, ew, qw⟩ := atI_rp l ed
      exact .inr (.inl ⟨p, vs, i, w, rfl, rfl, s, ew, hq w H1 O1 a1 qw⟩)
    | _ => cases ed
  | lst xs =>
    cases d2 with
    | int i =>
      obtain ⟨p, vs, rfl, s, l⟩ := q1.lst
      obtain rfl := q2.int
      obtain ⟨w, ew, qw⟩ := atI_rp l ed
      exact .inl ⟨p, vs, i, w, rfl, rfl, .inl s, ew, hq w H1 O1 a1 qw⟩
    | _ => cases ed
  | dk kvs =>
    have ed : (match d2.key with
      | some k => getK kvs k
      | none => none) = some d := by
      cases d2 <;> exact ed
    cases ek : d2.key with
    | none =>
      rw [ek] at ed
      cases ed
    | some k =>
      rw [ek] at ed
      have ed : getK kvs k = some d := ed
      obtain ⟨p, vs, rfl, s, l⟩ := q1.dk
      have lk := l.get k
      rw [ed] at lk
      obtain ⟨w, ew, qw⟩ := lk
      exact .inr (.inr (.inl ⟨p, vs, k, w, rfl, .inl s, key_ok q2 ek, ew, hq w H1 O1 a1 qw⟩))
  | dw kvs =>
    have ed : (match d2.key with
      | some k => getK kvs k
      | none => none) = some d := by
      cases d2 <;> exact ed
    cases ek : d2.key with
    | none =>
      rw [ek] at ed
      cases ed
    | some k =>
      rw [ek] at ed
      have ed : getK kvs k = some d := ed
      obtain ⟨p, vs, rfl, s, l⟩ := q1.dw
      have lk := l.get k
      rw [ed] at lk
      obtain ⟨w, ew, qw⟩ := lk
      exact .inr (.inr (.inl ⟨p, vs, k, w, rfl, .inr s, key_ok q2 ek, ew, hq w H1 O1 a1 qw⟩))
  | dn kvs =>
    have ed : (match d2.tk with
      | some k => getN kvs k
      | none => none) = some d := by
      cases d2 <;> exact ed
    cases ek : d2.tk with
    | none =>
      rw [ek] at ed
      cases ed
    | some k =>
      rw [ek] at ed
      have ed : getN kvs k = some d := ed
      obtain ⟨p, o, xs, rfl, ha, hk, l⟩ := q1.dn
      exact .inr (.inr (.inr ⟨p, o, xs, kvs, d2, k, d, mns H1 O1, rfl, ha, hk, mns_sub, l, q2.rp, ek, ed, fun v qv => hq v H1 O1 a1 qv⟩))
  | _ => cases ed
/-! ### a[lo:hi] -/
def tOe (W : Wd) (cl : Cal) (wx : WX) (c : CE) : TO := fun σ H Q => ∃ O r, EnvOk W O H σ r ∧ Good (fun o r' => ∀ H' O', Aft W σ O H r O' H' r' → Q o H') (wishOf W wx σ O H r) (evO cl c r)
theorem tOe.at {c : CE} {σ : L2.St} {H : Hp} {Q : Option Int → Hp → Prop} {O : Own} {r : Rho} {p : Option Int → Rho → Prop} (E : EnvOk W O H σ r) (h : Good p (wishOf W wx σ O H r) (evO cl c r))
    (k : ∀ o r' H' O', p o r' → Aft W σ O H r O' H' r' → Q o H') : tOe W cl wx c σ H Q := ⟨O, r, E, h.mono (fun x r' hp H' O' a => k x r' H' O' hp a) fun _ _ z => z⟩
theorem _root_.L2.PO.wk {X : Cx} {e : Option Expr} {t t' : TO} (h : PO X e t) (k : ∀ σ H Q, t' σ H Q → t σ H Q) : PO X e t' := ⟨fun pins s σ H Q I q => h.run pins s σ H Q I (k σ H Q q)⟩
theorem so_none : PO X none (tOe W cl wx .nil) := po_none.wk fun σ H Q ⟨O, r, E, h⟩ => h H O (.refl E)
theorem so_some {c t : CE} {e : Expr} (h : SE W cl wx X c e) : PO X (some e) (tOe W cl wx (.cons c t)) := (po_some h.r).wk fun σ H Q ⟨O, r, E, q⟩ => by
  refine tR.at E (good_bind.mp q) fun x r1 v H1 O1 hp a1 q1 => ?_
  cases hx : x.2 with
  | int i =>
    rw [hx] at hp q1
    exact ⟨i, q1.int, hp H1 O1 a1⟩
  | _ =>
    rw [hx] at hp
    exact hp.elim
def rSlD (K : PySem.W.Frag) : V → Option Int → Option Int → Hp → VK → Prop := fun x lo hi H Q => rSlL K x lo hi H Q ∨ rSlA K x lo hi H Q
theorem cut_rp {H : Hp} {vs : List V} {ds : List D} (r : RpL W H vs ds) (lo hi : Option Int) : RpL W H (cutV vs lo hi) (cutD ds lo hi) := by
  unfold cutV cutD
  rw [r.length]
  exact (r.drop _).take _
theorem se_slc {c l h : CE} {e : Expr} {lo hi : Option Expr} {p2 : Pos} (hW : W = ⟨X.prog, X.w, X.K⟩) (h1 : SE W cl wx X c e) (hl : PO X lo (tOe W cl wx l)) (hh : PO X hi (tOe W cl wx h)) : SE W cl wx X (.slc c l h) (.Subscript e (.Slice lo hi none p2) pos) := by
  refine SE.leaf ((pe_slice (sl_list.or sl_tupA) h1.v hl hh).wk fun σ H Q ⟨O, r, E, q⟩ => ?_) hW rfl (fun _ => rfl) (fun _ => rfl)
  refine tV.sh E (good_bind.mp q) fun x r1 v H1 O1 hp a1 q1 => ?_
  refine tOe.at a1.env ((good_bind.mp hp).on E a1) fun o r2 H2 O2 hp2 a2 => ?_
  have a12 := a1.trans E a2
  refine tOe.at a12.env ((good_bind.mp hp2).on E a12) fun o2 r3 H3 O3 hp3 a3 => ?_
  have a13 := a12.trans E a3
  obtain ⟨y, ey, hq⟩ := good_lift.mp hp3
  have q1 : Rb W O3 H3 v x.2 := .inl ((q1.mono (a2.sub a1.env)).mono (a3.sub a12.env))
  have eK : W.K = X.K := by rw [hW]
  cases hx : x.2 with
  | lst xs =>
    rw [hx] at ey q1
    cases ey
    obtain ⟨p, vs, rfl, s, l⟩ := q1.lst
    exact .inl ⟨p, vs, rfl, .inl s, fun t n => hq _ _ _ (a13.trans E (aft_own a13.env n)) ((new_lst a13.env n (cut_rp l o o2)).back a13.stp)⟩
  | tup xs =>
    rw [hx] at ey q1
    cases ey
    have q0 := q1
    obtain ⟨p, vs, rfl, s, l⟩ := q1.tup
    rw [eK] at s
    refine .inr ⟨p, vs, rfl, s, fun hw => ?_, fun _ t n => hq _ _ _ (a13.trans E (aft_new a13.env n)) (new_tup a13.env n (cut_rp l o o2))⟩
    refine hq _ H3 O3 a13 ?_
    have e : cutD xs o o2 = xs := by
      unfold cutD
      rw [← l.length, hw.1, hw.2, l.length]
      simp
    show Rp W (mns H3 O3) _ (.tup (cutD xs o o2))
    rw [e]
    rcases q0 with q0 | ⟨_, _, _, q0⟩
    · exact q0
    · exact q0.elim
  | _ =>
    rw [hx] at ey
    cases ey
end
end Eg
/-! Eg9b: attributes, truths by identity, turned lists, d.get. -/
namespace Eg
open PySem PySem.Spec PyProof.Rows L2
def plainBase : Expr → Bool
  | .Call (.Name _ _) [] [] _ => false
  | _ => true
theorem base_ok {e : Expr} {m : Str} {env : PySem.Env} {whole : Sem Value} (h : plainBase e = true) : attributeBase e m env whole = whole := by
  unfold attributeBase
  split
  · cases h
  · rfl
section
variable {W : Wd} {cl : Cal} {wx : WX} {X : Cx} {pos : Pos}
theorem fldD_ok {Cs : List Addr} {f : Str} {x d : D} (h : fldD Cs f x = some d) : ∃ C fs, x = .ins C fs ∧ C ∈ Cs ∧ getF fs f = some d := by
  cases x with
  | ins C fs =>
    have h : (if Cs.contains C = true then getF fs f else none) = some d := h
    by_cases hc : Cs.contains C = true
    · rw [if_pos hc] at h
      exact ⟨C, fs, rfl, List.contains_iff_mem.mp hc, h⟩
    · rw [if_neg hc] at h
      cases h
  | _ => cases h
theorem se_fld {Cs : List Addr} {f : Str} {c : CE} {e : Expr} (hW : W = ⟨X.prog, X.w, X.K⟩) (h : SE W cl wx X c e) (hb : plainBase e = true) (hn : ∀ C ∈ Cs, NoAttr W.K (ca W C) f) : SE W cl wx X (.fld Cs f c) (.Attribute e f pos) := by
  refine SE.leaf ((pe_fld h.r (base_ok hb)).wk fun σ H Q ⟨O, r, E, q⟩ => ?_) hW rfl (fun _ => rfl) (fun _ => rfl)
  refine tR.at E (good_bind.mp q) fun x r1 v H1 O1 hp a1 q1 => ?_
  obtain ⟨d, ed, hq⟩ := good_lift.mp (good_bind.mp hp)
  obtain ⟨C, fs, ex, hC, eg⟩ := fldD_ok ed
  rw [ex] at q1
  obtain ⟨a, dx, vs, rfl, k, ea, l⟩ := q1.ins
  obtain ⟨u, eu, qu⟩ := l.get eg
  have kc := k.cl
  have nc := hn C hC
  have eK : X.K = W.K := by rw [hW]
  rw [← eK] at kc nc
  exact ⟨a, ca W C, dx, vs, u, rfl, ea, kc, nc, eu, hq u H1 O1 a1 qu⟩
theorem isB_ok {b k : Bool} {d : D} (h : isB b d = some k) : ∃ c, d = .bl c ∧ k = decide (c = b) := by
  cases d with
  | bl c =>
    cases h
    exact ⟨c, rfl, rfl⟩
  | _ => cases h
theorem se_isB {b : Bool} {c : CE} {e : Expr} {j : Nat} {p2 : Pos} (h : SE W cl wx X c e) : SE W cl wx X (.isB b c) (.Compare e [.Is] [.Constant (.bool b) j p2] pos) := by
  have hv : PE X (.Compare e [.Is] [.Constant (.bool b) j p2] pos) (tV W cl wx (.isB b c)) := (pe_cmpR op_isBl h.r pe_bl (nomark _)).wk fun σ H Q ⟨O, r, E, q⟩ => by
    refine tR.at E (good_bind.mp q) fun x r1 v H1 O1 hp a1 q1 => ?_
    obtain ⟨k, ek, hq⟩ := good_lift.mp (good_bind.mp hp)
    obtain ⟨c, ec, rfl⟩ := isB_ok ek
    rw [ec] at q1
    exact ⟨c, b, q1.bl, rfl, hq _ H1 O1 a1 (.bl _)⟩
  refine ⟨hv, hv.wk fun σ H Q ⟨O, r, E, q⟩ => tV.sh E q fun x r' v H' O' hp a q => hp v H' O' a (.inl q), (pt_cmpR op_isBl h.r pe_bl (nomark _)).wk fun σ H Q ⟨O, r, E, q⟩ => ?_, fun i hi => by cases hi⟩
  refine tR.at E (good_bind.mp q) fun x r1 v H1 O1 hp a1 q1 => ?_
  obtain ⟨k, ek, k', e', hq⟩ := good_lift.mp (good_bind.mp hp)
  obtain ⟨c, ec, rfl⟩ := isB_ok ek
  rw [ec] at q1
  cases e'
  exact ⟨c, b, q1.bl, rfl, _, rfl, hq H1 O1 a1⟩
theorem se_ntB {b : Bool} {c : CE} {e : Expr} {j : Nat} {p2 : Pos} (h : SE W cl wx X c e) : SE W cl wx X (.ntB b c) (.Compare e [.IsNot] [.Constant (.bool b) j p2] pos) := by
  have hv : PE X (.Compare e [.IsNot] [.Constant (.bool b) j p2] pos) (tV W cl wx (.ntB b c)) := (pe_cmpR op_notBl h.r pe_bl (nomark _)).wk fun σ H Q ⟨O, r, E, q⟩ => by
    refine tR.at E (good_bind.mp q) fun x r1 v H1 O1 hp a1 q1 => ?_
    obtain ⟨k, ek, hq⟩ := good_lift.mp (good_bind.mp hp)
    obtain ⟨c, ec, rfl⟩ := isB_ok ek
    rw [ec] at q1
    exact ⟨c, b, q1.bl, rfl, hq _ H1 O1 a1 (.bl _)⟩
  refine ⟨hv, hv.wk fun σ H Q ⟨O, r, E, q⟩ => tV.sh E q fun x r' v H' O' hp a q => hp v H' O' a (.inl q), (pt_cmpR op_notBl h.r pe_bl (nomark _)).wk fun σ H Q ⟨O, r, E, q⟩ => ?_, fun i hi => by cases hi⟩
  refine tR.at E (good_bind.mp q) fun x r1 v H1 O1 hp a1 q1 => ?_
  obtain ⟨k, ek, k', e', hq⟩ := good_lift.mp (good_bind.mp hp)
  obtain ⟨c, ec, rfl⟩ := isB_ok ek
  rw [ec] at q1
  cases e'
  exact ⟨c, b, q1.bl, rfl, _, rfl, hq H1 O1 a1⟩
theorem RpL.reverse {H : Hp} : ∀ {vs : List V} {ds : List D}, RpL W H vs ds → RpL W H vs.reverse ds.reverse
  | _, _, .nil => .nil
  | _, _, .cons a b => by
    rw [List.reverse_cons, List.reverse_cons]
    exact b.reverse.append (.cons a .nil)
theorem se_rev {c : CE} {e : Expr} {k : Nat} {p1 p2 p3 : Pos} (hW : W = ⟨X.prog, X.w, X.K⟩) (h : SE W cl wx X c e) : SE W cl wx X (.rev c) (.Subscript e (.Slice none none (some (.UnaryOp .USub (.Constant (.int 1) k p1) p2)) p3) pos) := by
  refine SE.leaf ((pe_revL h.v).wk fun σ H Q ⟨O, r, E, q⟩ => ?_) hW rfl (fun _ => rfl) (fun _ => rfl)
  refine tV.sh E (good_bind.mp q) fun x r1 v H1 O1 hp a1 q1 => ?_
  obtain ⟨d, ed, hq⟩ := good_lift.mp (good_bind.mp hp)
  cases hx : x.2 with
  | lst xs =>
    rw [hx] at ed q1
    cases ed
    cases q1 with
    | lst s l => exact ⟨_, _, rfl, .inl (sub_rd mns_sub s), fun p n => hq _ _ _ (a1.trans E (aft_own a1.env n)) ((new_lst a1.env n l.reverse).back a1.stp)⟩
  | _ =>
    rw [hx] at ed
    cases ed
theorem get2D_ok {O : Own} {H : Hp} {a : Addr} {x y z d : D} {v u : V} (h : get2D x y z = some d) (q : Rb W O H (.ref a) x) (qy : Rb W O H v y) (qz : Rp W (mns H O) u z) : ∃ o, DGet H a v o ∧ Rp W (mns H O) (o.getD u) d := by
  cases x with
  | dk kvs =>
    have h : (match y.key with
      | some k => some ((getK kvs k).getD z)
      | none => none) = some d := h
    cases ek : y.key with
    | none =>
      rw [ek] at h
      cases h
    | some k =>
      rw [ek] at h
      cases h
      obtain ⟨p, ks, e, s, l⟩ := q.dk
      cases e
      have ev := key_ok qy ek
      subst ev
      refine ⟨valV ks k, .inl ⟨ks, k, s, rfl, rfl⟩, ?_⟩
      have g := l.get k
      cases eg : getK kvs k with
      | none =>
        rw [eg] at g
        rw [show valV ks k = none from g]
        exact qz
      | some d' =>
        rw [eg] at g
        obtain ⟨w, ew, qw⟩ := g
        rw [ew]
        exact qw
  | _ => cases h
theorem isDk_at {O : Own} {H : Hp} {v : V} {x : D} (h : isDk x = true) (q : Rb W O H v x) : ∃ a, v = .ref a ∧ IsD H a := by
  cases x with
  | dk kvs =>
    obtain ⟨p, ks, rfl, s, l⟩ := q.dk
    exact ⟨p, rfl, .inl ⟨ks, s⟩⟩
  | _ => cases h
theorem se_get2 {a k d : CE} {ea ek ed : Expr} {apos : Pos} (hW : W = ⟨X.prog, X.w, X.K⟩) (hu : X.A.units + 65 < cLine) (ha : SE W cl wx X a ea) (hk : SE W cl wx X k ek) (hd : SE W cl wx X d ed) (m : M2 X ea "get" apos ek ed pos) :
    SE W cl wx X (.get2 a k d) (.Call (.Attribute ea "get" apos) [ek, ed] [] pos) := by
  cases hl : a.late with
  | some i =>
    refine SE.leaf ((pe_dget2 (by omega) (ha.n i hl) hk.r hd.v m).wk fun σ H Q ⟨O, r, E, q⟩ => ?_) hW rfl (fun _ => rfl) (fun _ => rfl)
    have q : Good _ _ (match a.late with
      | some i => (lift (peek r i) r).bind fun x r => if isDk x then (ev cl k .bor r).bind fun y r => (ev cl d .val r).bind fun z r => (lift (peek r i) r).bind fun x r => (lift (get2D x y.2 z.2) r).bind fun v r => .ok (false, v) r else .no
      | none => (ev cl a .val r).bind fun x r => if isDk x.2 then (ev cl k .bor r).bind fun y r => (ev cl d .val r).bind fun z r => (lift (get2D x.2 y.2 z.2) r).bind fun v r => .ok (false, v) r else .no) := q
    rw [hl] at q
    obtain ⟨x0, e0, q⟩ := good_lift.mp (good_bind.mp q)
    by_cases hc : isDk x0 = true
    · have q : Good _ _ (if isDk x0 = true then _ else Out.no) := q
      rw [if_pos hc] at q
      obtain ⟨v, ev, qv⟩ := E.peek e0
      obtain ⟨b, rfl, isd⟩ := isDk_at hc qv
      refine ⟨.ref b, ev, b, rfl, isd, tR.at E (good_bind.mp q) fun y r1 u H1 O1 hp a1 q1 => ?_⟩
      refine tV.sh a1.env ((good_bind.mp hp).on E a1) fun z r2 w H2 O2 hp2 a2 q2 => ?_
      have a12 := a1.trans E a2
      obtain ⟨x1, e1, hp3⟩ := good_lift.mp (good_bind.mp hp2)
      obtain ⟨d', ed', hq⟩ := good_lift.mp (good_bind.mp hp3)
      have q1' : Rb W O2 H2 u y.2 := by
        rcases hkey ed' with ⟨ky, hy⟩
        have e := key_ok q1 hy
        subst e
        exact .inl (key_rp hy)
      obtain ⟨o, g, qo⟩ := get2D_ok ed' (a12.env.peekAt ev e1) q1' q2
      exact ⟨o, g, hq _ H2 O2 a12 qo⟩
    · have q : Good _ _ (if isDk x0 = true then _ else Out.no) := q
      rw [if_neg hc] at q
      exact q.elim
  | none =>
    refine SE.leaf ((pe_dget2 (by omega) ha.v hk.r hd.v m).wk fun σ H Q ⟨O, r, E, q⟩ => ?_) hW rfl (fun _ => rfl) (fun _ => rfl)
    have q : Good _ _ (match a.late with
      | some i => (lift (peek r i) r).bind fun x r => if isDk x then (ev cl k .bor r).bind fun y r => (ev cl d .val r).bind fun z r => (lift (peek r i) r).bind fun x r => (lift (get2D x y.2 z.2) r).bind fun v r => .ok (false, v) r else .no
      | none => (ev cl a .val r).bind fun x r => if isDk x.2 then (ev cl k .bor r).bind fun y r => (ev cl d .val r).bind fun z r => (lift (get2D x.2 y.2 z.2) r).bind fun v r => .ok (false, v) r else .no) := q
    rw [hl] at q
    refine tV.sh E (good_bind.mp q) fun x r0 v H0 O0 hp0 a0 q0 => ?_
    by_cases hc : isDk x.2 = true
    · rw [if_pos hc] at hp0
      obtain ⟨b, rfl, isd⟩ := isDk_at hc (.inl q0)
      refine ⟨b, rfl, isd, tR.at a0.env ((good_bind.mp hp0).on E a0) fun y r1 u H1 O1 hp a1 q1 => ?_⟩
      have a01 := a0.trans E a1
      refine tV.sh a01.env ((good_bind.mp hp).on E a01) fun z r2 w H2 O2 hp2 a2 q2 => ?_
      obtain ⟨d', ed', hq⟩ := good_lift.mp (good_bind.mp hp2)
      have q1' : Rb W O2 H2 u y.2 := by
        rcases hkey ed' with ⟨ky, hy⟩
        have e := key_ok q1 hy
        subst e
        exact .inl (key_rp hy)
      obtain ⟨o, g, qo⟩ := get2D_ok ed' (.inl ((q0.mono (a1.sub a0.env)).mono (a2.sub a01.env))) q1' q2
      exact ⟨o, g, hq _ H2 O2 (a01.trans E a2) qo⟩
    · rw [if_neg hc] at hp0
      exact hp0.elim
where
  hkey {x y z d : D} (h : get2D x y z = some d) : ∃ k, y.key = some k := by
    cases x with
    | dk kvs =>
      have h : (match y.key with
        | some k => some ((getK kvs k).getD z)
        | none => none) = some d := h
      cases ek : y.key with
      | none =>
        rw [ek] at h
        cases h
      | some k => exact ⟨k, rfl⟩
    | _ => cases h
  key_rp {H : Hp} {y : D} {k : Key} (h : y.key = some k) : Rp W H (kV k) y := by
    cases y with
    | int i =>
      cases h
      exact .int i
    | str x =>
      cases h
      exact .str x
    | _ => cases h
end
end Eg
/-! Eg10: methods, changes in place, dicts written. -/
namespace Eg
open PySem PySem.Spec PyProof.Rows L2
/-! ### changes in place -/
theorem slotOf_some {r : Rho} {i : Nat} {x : Fl × D} (h : slotOf r i = some x) : r[i]? = some (some x) := by
  unfold slotOf at h
  split at h
  · rename_i y e
    cases h
    exact e
  · cases h
section
variable {W : Wd} {σ : L2.St} {O : Own} {H : Hp} {r : Rho}
theorem EnvOk.own_at (E : EnvOk W O H σ r) {i : Nat} {f : Fl} {d : D} (h : r[i]? = some (some (f, d))) (hf : f.own = true) : ∃ p, σ[i]? = some (some (.ref p)) ∧ O p ∧ OwnAt W O H p d := by
  obtain ⟨v, e, q⟩ := E.sl i f d h
  unfold SlotAt at q
  rw [hf] at q
  obtain ⟨p, rfl, o, q⟩ := q
  exact ⟨p, e, o, q⟩
theorem subm_at {p : Addr} {o : HO} (op : O p) : Sub (mns H O) (mns (upd H p o) O) := fun a u e => by
  obtain ⟨n1, e1⟩ := mns_some.mp e
  refine mns_some.mpr ⟨n1, ?_⟩
  rw [upd_ne]
  · exact e1
  · intro z
    rw [z] at n1
    exact n1 op
/-- an owned thing is changed -/
theorem aft_set {i : Nat} {f : Fl} {d d' : D} {p : Addr} {o : HO} (E : EnvOk W O H σ r) (h : r[i]? = some (some (f, d))) (hf : f.own = true) (ev : σ[i]? = some (some (.ref p))) (op : O p) (q : OwnAt W O (upd H p o) p d') :
    Aft W σ O H r O (upd H p o) (r.set i (some (f, d'))) := by
  have hi : i < r.length := (List.getElem?_eq_some_iff.mp h).1
  have sb : Sub (mns H O) (mns (upd H p o) O) := subm_at op
  have isown : owned σ r p := ⟨i, f, d, h, hf, ev⟩
  have there : ∀ a, (∃ u, H a = some u) → ∃ u, (upd H p o) a = some u := fun a ⟨u, e⟩ => by
    by_cases hap : a = p
    · exact ⟨o, by rw [hap, upd_same]⟩
    · exact ⟨u, by rw [upd_ne hap]; exact e⟩
  have back : ∀ (j : Nat) (g : Fl) (x : D), (r.set i (some (f, d')))[j]? = some (some (g, x)) → ∃ y, r[j]? = some (some (g, y)) ∧ (i ≠ j → y = x) := fun j g x hj => by
    by_cases hij : i = j
    · subst hij
      rw [List.getElem?_set_self hi] at hj
      cases hj
      exact ⟨d, h, fun z => absurd rfl z⟩
    · rw [List.getElem?_set_ne hij] at hj
      exact ⟨x, hj, fun _ => rfl⟩
  refine ⟨⟨by rw [List.length_set]; exact E.len, fun j g x hj => ?_, fun j k g g' x y a h1 h2 h3 h4 h5 h6 => ?_, fun a h => there a (E.al a h)⟩, ⟨fun a u e n => ?_, fun a h _ => h, fun a h => .inl h, there⟩, fun a ⟨j, g, x, h1, h2, h3⟩ => ?_, fun j g x hj hl => ?_, fun a ⟨j, x, hj, hv⟩ => ?_⟩
  · by_cases hij : i = j
    · subst hij
      rw [List.getElem?_set_self hi] at hj
      cases hj
      refine ⟨.ref p, ev, ?_⟩
      unfold SlotAt
      rw [hf]
      exact ⟨p, rfl, op, q⟩
    · rw [List.getElem?_set_ne hij] at hj
      obtain ⟨u, eu, qu⟩ := E.sl j g x hj
      refine ⟨u, eu, ?_⟩
      unfold SlotAt at qu ⊢
      cases hg : g.own with
      | false =>
        rw [hg] at qu
        exact qu.mono sb
      | true =>
        rw [hg] at qu
        obtain ⟨b, rfl, ob, qb⟩ := qu
        refine ⟨b, rfl, ob, qb.mono (fun u z => ?_) sb⟩
        rw [upd_ne]
        · exact z
        · intro z
          subst z
          exact hij (E.dj i j f g d x b h hf ev hj hg eu)
  · obtain ⟨x', e1, _⟩ := back j g x h1
    obtain ⟨y', e2, _⟩ := back k g' y h4
    exact E.dj j k g g' x' y' a e1 h2 h3 e2 h5 h6
  · rw [upd_ne]
    · exact e
    · intro z
      rw [z] at n
      exact n isown
  · obtain ⟨x', e1, _⟩ := back j g x h1
    exact ⟨j, g, x', e1, h2, h3⟩
  · by_cases hij : i = j
    · subst hij
      rw [h] at hj
      cases hj
      exact ⟨f, d', List.getElem?_set_self hi, hl⟩
    · exact ⟨g, x, by rw [List.getElem?_set_ne hij]; exact hj, hl⟩
  · obtain ⟨x', e1, _⟩ := back j .ow x hj
    exact ⟨j, x', e1, hv⟩
end
/-! ### methods -/
theorem few1 {X : Cx} {e : Expr} {cpos : Pos} (hs : starEach [e] X.env = [(false, eval e X.env)]) : ((backTo cpos (starEach [e] X.env)).all (fun x => !x.1) && (backToKw cpos (keywordEach [] X.env)).all (fun x => x.1.isSome)
      && decide (([e] : List Expr).length + ([] : List Keyword).length + (if ([] : List Keyword).isEmpty then 0 else 1) < 30)) = true := by
  rw [hs]
  rfl
section
variable {W : Wd} {cl : Cal} {wx : WX} {X : Cx} {pos : Pos}
theorem _root_.L2.PE.either {X : Cx} {e : Expr} {t t' : TE} (h : PE X e t) (h' : PE X e t') : PE X e (fun σ H Q => t σ H Q ∨ t' σ H Q) := ⟨fun pins s σ H Q I q => q.elim (h.run pins s σ H Q I) (h'.run pins s σ H Q I)⟩
theorem good_and {α : Type} {p : α → Rho → Prop} {w : Exn → Rho → Prop} {x : Out α} {P : α → Prop} (h : Good p w x) (k : ∀ a r, x = .ok a r → P a) : Good (fun a r => P a ∧ p a r) w x := by
  cases x with
  | ok a r => exact ⟨k a r rfl, h⟩
  | ex e r => exact h
  | no => exact h
theorem strs_vals {H : Hp} : ∀ {vs : List V} {xs : List D} {ys : List Str}, RpL W H vs xs → strsD xs = some ys → vs = ys.map V.str
  | _, _, ys, .nil, e => by
    cases e
    rfl
  | _, _, ys, .cons (d := d) (ds := ds) a r, e => by
    cases d with
    | str x =>
      have e : (strsD ds).map (fun xs => x :: xs) = some ys := e
      obtain ⟨zs, e1, rfl⟩ := Option.map_eq_some_iff.mp e
      cases a
      rw [List.map_cons, ← strs_vals r e1]
    | _ => cases e
theorem nostr {xs : List D} {y d : D} (h : mthD .index (.ct xs) [y] = some d) (k : ∀ z, y ≠ .str z) : False := by
  unfold mthD at h
  cases y <;> first | exact k _ rfl | (simp [D.py] at h) | (revert h; simp only [D.py]; first | simp | (cases D.pyL _ <;> simp))
theorem se_index {c c2 : CE} {e e2 : Expr} {apos : Pos} (hW : W = ⟨X.prog, X.w, X.K⟩) (hu : X.A.units + 65 < cLine) (h : SE W cl wx X c e) (h2 : SE W cl wx X c2 e2) (hb : plainBase e = true) (hl : (apos.endLine == pos.line) = true) (hs : starEach [e2] X.env = [(false, eval e2 X.env)]) :
    SE W cl wx X (.mth .index c (.cons c2 .nil)) (.Call (.Attribute e "index" apos) [e2] [] pos) := by
  have ha : PA X [e2] (tRs W cl wx (.cons c2 .nil)) := rs_cons h2 rs_nil hs
  have eK : W.K = X.K := by rw [hW]
  refine SE.leaf ((PE.either (pe_bm PySem.F.plainAttrs_list PySem.F.slot_list_index PySem.F.type_list_index (mt_indexD hu) h.v ha (base_ok hb) (few1 hs) hl hs (by rfl))
    (pe_bm PySem.F.plainAttrs_tuple PySem.F.slot_tuple_index PySem.F.type_tuple_index mt_tup_index h.v ha (base_ok hb) (few1 hs) hl hs (by rfl))).wk fun σ H Q ⟨O, r, E, q⟩ => ?_) hW rfl (fun _ => rfl) (fun _ => rfl)
  by_cases hct : ∃ x r0 xs, ev cl c .val r = .ok x r0 ∧ x.2 = .ct xs
  · obtain ⟨x0, r0, xs, e0, ex0⟩ := hct
    right
    have q := good_bind.mp q
    refine tV.sh (p := fun x r1 => x = x0 ∧ _) E (good_and q fun x r1 hx => ?_) fun x r1 v H1 O1 hp a1 q1 => ?_
    · rw [e0] at hx
      cases hx
      rfl
    obtain ⟨rfl, hp⟩ := hp
    rw [ex0] at hp q1
    have q1b : Rb W O1 H1 v (.ct xs) := .inl q1
    obtain ⟨p, vs, rfl, s, l⟩ := q1b.ct
    have s0 := s
    obtain ⟨o, its, n, k1, k2, k3, k4, k5, k6⟩ := s0
    rw [eK] at k1
    refine ⟨.inr (.inl ⟨rfl, o, k1, k2, k3⟩), tRs.at a1.env ((good_bind.mp hp).on E a1) fun ds r2 us H2 O2 hp2 a2 q2 => ?_⟩
    have a12 := a1.trans E a2
    obtain ⟨d, ed, hq⟩ := good_lift.mp (good_bind.mp hp2)
    match ds, ed, q2 with
    | [y], ed, q2 =>
      obtain ⟨u, rfl, qu⟩ := rb1 q2
      cases y with
      | str z =>
        have ed : (match strsD xs with
          | some ys => (ys.findIdx? fun u => decide (u = z)).map fun n => D.int (n : Nat)
          | none => none) = some d := ed
        cases e1 : strsD xs with
        | none =>
          rw [e1] at ed
          cases ed
        | some ys =>
          rw [e1] at ed
          obtain ⟨j, hj, rfl⟩ := Option.map_eq_some_iff.mp ed
          obtain ⟨hlt, h1, h2⟩ := List.findIdx?_eq_some_iff_getElem.mp hj
          obtain rfl := qu.str
          have ev := strs_vals l e1
          subst ev
          have sq : SqT X.K H2 p (ys.map V.str) := by
            have := s.sq (H := H2)
            rw [eK] at this
            exact this
          refine ⟨p, ys, z, j, rfl, rfl, sq, ?_, fun m hm hz => ?_, hq _ H2 O2 a12 (.int _)⟩
          · rw [List.getElem?_eq_getElem hlt]
            simpa using h1
          · obtain ⟨hm2, e3⟩ := List.getElem?_eq_some_iff.mp hz
            have := h2 m hm
            rw [e3] at this
            simp at this
      | _ => exact (nostr ed (fun z => by intro h; cases h)).elim
  left
  have nct : ∀ x r0 xs, ev cl c .val r = .ok x r0 → x.2 ≠ .ct xs := fun x r0 xs e1 e2 => hct ⟨x, r0, xs, e1, e2⟩
  have q := good_bind.mp q
  refine tV.sh (p := fun x r1 => (∀ xs, x.2 ≠ .ct xs) ∧ _) E (good_and q fun x r1 hx xs => nct x r1 xs hx) fun x r1 v H1 O1 hp a1 q1 => ?_
  obtain ⟨nc, hp⟩ := hp
  have islist : ∃ ds, x.2 = .lst ds := by
    cases hev : evB cl (.cons c2 .nil) r1 with
    | no =>
      rw [hev] at hp
      exact hp.elim
    | ex a b =>
      rw [hev] at hp
      exact hp.elim
    | ok ds r2 =>
      rw [hev] at hp
      obtain ⟨d, ed, _⟩ := good_lift.mp (good_bind.mp hp)
      cases hx : x.2 with
      | lst xs => exact ⟨xs, rfl⟩
      | ct xs => exact (nc xs hx).elim
      | tup xs =>
        rw [hx] at ed
        exfalso
        revert ed
        cases ds with
        | nil => exact fun z => nomatch z
        | cons y t =>
          cases t with
          | cons _ _ => exact fun z => nomatch z
          | nil =>
            unfold mthD
            simp only [D.py]
            cases D.pyL xs <;> simp
      | _ =>
        rw [hx] at ed
        exfalso
        revert ed
        cases ds with
        | nil => exact fun z => nomatch z
        | cons y t =>
          cases t with
          | cons _ _ => exact fun z => nomatch z
          | nil =>
            unfold mthD
            simp [D.py]
  obtain ⟨xs, hx⟩ := islist
  rw [hx] at hp q1
  have q1b : Rb W O1 H1 v (.lst xs) := .inl q1
  obtain ⟨p, vs, rfl, s, l⟩ := q1b.lst
  refine ⟨.inl ⟨rfl, vs, .inl s⟩, tRs.at a1.env ((good_bind.mp hp).on E a1) fun ds r2 us H2 O2 hp2 a2 q2 => ?_⟩
  have a12 := a1.trans E a2
  obtain ⟨d, ed, hq⟩ := good_lift.mp (good_bind.mp hp2)
  match ds, ed, q2 with
  | [y], ed, q2 =>
    obtain ⟨u, rfl, qu⟩ := rb1 q2
    have ed : (match (D.lst xs).py, y.py with
      | some (.list ps), some py => if SeqAt.shaped (.list ps) && SeqAt.shaped py then (ps.findIdx? fun z => PyData.eqv z py).map fun n => D.int (n : Nat) else none
      | _, _ => none) = some d := ed
    have e0 : (D.lst xs).py = (D.pyL xs).map PyData.list := rfl
    cases e1 : D.pyL xs with
    | none =>
      rw [e0, e1] at ed
      cases ed
    | some ps =>
      cases e2 : y.py with
      | none =>
        rw [e0, e1, e2] at ed
        cases ed
      | some py =>
        rw [e0, e1, e2] at ed
        have ed : (if (SeqAt.shaped (.list ps) && SeqAt.shaped py) = true then (ps.findIdx? fun z => PyData.eqv z py).map fun n => D.int (n : Nat) else none) = some d := ed
        by_cases hc : (SeqAt.shaped (.list ps) && SeqAt.shaped py) = true
        · rw [if_pos hc] at ed
          obtain ⟨n, hn, rfl⟩ := Option.map_eq_some_iff.mp ed
          obtain ⟨c1, c2⟩ := Bool.and_eq_true_iff.mp hc
          obtain ⟨hlt, h1, h2⟩ := List.findIdx?_eq_some_iff_getElem.mp hn
          have dl : Dp X.K H2 (.ref p) (.list ps) := by
            have := ((q1.mono (a2.sub a1.env)).mono mns_sub).dp (p := .list ps) (by rw [e0, e1]; rfl)
            rw [eK] at this
            exact this
          have dy : Dp X.K H2 u py := by
            have := qu.rp.dp e2
            rw [eK] at this
            exact this
          refine ⟨p, u, py, ps, n, ps[n], rfl, rfl, dl, dy, c1, c2, List.getElem?_eq_getElem hlt, h1, fun m z' hm hz => ?_, hq _ H2 O2 a12 (.int _)⟩
          obtain ⟨hm2, e3⟩ := List.getElem?_eq_some_iff.mp hz
          have := h2 m hm
          rw [e3] at this
          simpa using this
        · rw [if_neg hc] at ed
          cases ed
end
end Eg
/-! Eg11: append, extend, update; dicts written. -/
namespace Eg
open PySem PySem.Spec PyProof.Rows L2
section
variable {X : Cx}
def rExtR : V → List V → Hp → VK → Prop := fun x vs H Q => ∃ l b xs zs, x = .ref l ∧ vs = [.ref b] ∧ H l = some (.lst xs) ∧ Rd H b (.lst zs) ∧ xs.length + zs.length ≤ sizeLine ∧ Q .non (upd H l (.lst (xs ++ zs)))
theorem mt_extR : MtR X "list.extend" rExtR := by
  intro pins s σ H x vs v us Q I rx rv h
  obtain ⟨l, b, xs, zs, rfl, rfl, hH, hB, hz, q⟩ := h
  cases rx
  obtain ⟨u, rfl, ru⟩ := rv.one
  cases ru
  obtain ⟨z, its, n, r, hl, e⟩ := I.lstM hH
  obtain ⟨z2, its2, n2, r2, e2⟩ := rdL I hB
  have hl2 := r2.length
  have hsz : its.toArray.size + its2.toArray.size ≤ sizeLine := by rw [List.size_toArray, List.size_toArray]; omega
  have hlong : ¬ (!its.toArray.isEmpty && Builtin.List.listTooLong (its.toArray.size + its2.toArray.size)) = true := by
    rw [notLongL hsz, Bool.and_false]
    exact Bool.false_ne_true
  refine call_meets F.slot_list_extend ⟨_, e, rfl⟩ F.entry_list_extend (F.args_list_extend_2 _ _)
    (AutoSeq1.list_extend_list_list_0 l its.toArray n b its2.toArray n2 hlong (by rw [List.size_toArray]; omega) (by omega)) ⟨e, e2, ?_⟩
  refine ⟨.non, _, I.lset (its' := its ++ its2) hH e (by simp) (r.append r2) ?_, rfl, q⟩
  rw [List.length_append]
  omega
def rUpd : V → List V → Hp → VK → Prop := fun x vs H Q => ∃ l b ks ms, x = .ref l ∧ vs = [.ref b] ∧ l ≠ b ∧ H l = some (.dK ks) ∧ Rd H b (.dK ms) ∧ ks.length + ms.length ≤ sizeLine ∧ Q .non (upd H l (.dK (mergeK ks ms)))
theorem mt_upd : MtR X "dict.update" rUpd := by
  intro pins s σ H x vs v us Q I rx rv h
  obtain ⟨l, b, ks, ms, rfl, rfl, hne, hH, hB, hz, q⟩ := h
  cases rx
  obtain ⟨u, rfl, ru⟩ := rv.one
  cases ru
  obtain ⟨z, hd, vs, rel, dd⟩ := dk_of I.hok hH
  obtain ⟨z2, hd2, vs2, rel2, dd2⟩ := dk_rd I.hok hB
  refine call_meetsIn PySem.F.slot_dict_update dd.typeIs PySem.F.entry_dict_update (PySem.F.args_dict_update_2 _ _) (meets_dict_update (mixKind X.prog X.w) l b hne hd2) ⟨vs, vs2, dd, dd2, by rw [← rel.length, ← rel2.length]; exact hz, fun h' d1 d2 hs => ?_⟩
  have he : ∃ q, h'.get? l = some q := let ⟨q, _, _, hq, _⟩ := d1; ⟨q, hq⟩
  have hl := length_mergeK ms ks
  exact ⟨.non, _, d_write (t' := s.toks) I (by rw [hH]; exact True.intro) hs he (dk_new (by omega) hd (rel2.merge rel) d1), rfl, q⟩
end
section
variable {W : Wd} {cl : Cal} {wx : WX} {X : Cx} {pos : Pos}
/-- the change by data: from the slot's own thing -/
def MuD (W : Wd) (rd : V → List V → Hp → VK → Prop) (k : Mu) : Prop :=
  ∀ (σ : L2.St) (O : Own) (H : Hp) (r : Rho) (i : Nat) (f : Fl) (d : D) (p : Addr) (vs : List V) (ds : List D) (z : D × D) (Q : VK), EnvOk W O H σ r → r[i]? = some (some (f, d)) → f.own = true → σ[i]? = some (some (.ref p)) → O p → OwnAt W O H p d →
    (if isMu k then RpL W (mns H O) vs ds else RbL W O H vs ds) → muD k d ds = some z → (∀ v H', Aft W σ O H r O H' (r.set i (some (f, z.1))) → Rp W (mns H' O) v z.2 → Q v H') → rd (.ref p) vs H Q
theorem mu_core {k : Mu} {i : Nat} {c : CE} {rd : V → List V → Hp → VK → Prop} {T : String} {t : TA} (hd : MuD W rd k) (hT : ∀ (O : Own) (H : Hp) (p : Addr) (d : D), OwnAt W O H p d → muTy k d = true → tyV X.K T (.ref p) H)
    (ht : t = if isMu k then tKs W cl wx c else tRs W cl wx c) {σ : L2.St} {H : Hp} {Q : VK} (h : tV W cl wx (.mut k i c) σ H Q) : tBM X.K T rd (tVar i) t σ H Q := by
  obtain ⟨O, r, E, q⟩ := h
  obtain ⟨⟨f0, d0⟩, e0, q⟩ := good_lift.mp (good_bind.mp q)
  have e0 := slotOf_some e0
  by_cases hc : (f0.own && muTy k d0) = true
  · have q : Good _ _ (if (f0.own && muTy k d0) = true then _ else Out.no) := q
    rw [if_pos hc] at q
    obtain ⟨hf, hm⟩ := Bool.and_eq_true_iff.mp hc
    obtain ⟨p, ev, op, qp⟩ := E.own_at e0 hf
    refine ⟨.ref p, ev, hT O H p d0 qp hm, ?_⟩
    subst ht
    have step : ∀ (ds : List D) (r1 : Rho) (vs : List V) (H1 : Hp) (O1 : Own), Aft W σ O H r O1 H1 r1 → (if isMu k then RpL W (mns H1 O1) vs ds else RbL W O1 H1 vs ds) →
        Good (fun x r' => ∀ v H' O', Aft W σ O H r O' H' r' → ResAt W H O' H' x.1 x.2 v → Q v H') (wishOf W wx σ O H r) ((lift (slotOf r1 i) r1).bind fun y r => if y.1.own then (lift (muD k y.2 ds) r).bind fun z r => .ok (false, z.2) (r.set i (some (y.1, z.1))) else .no) →
        rd (.ref p) vs H1 Q := by
      intro ds r1 vs H1 O1 a1 qv hp
      obtain ⟨⟨f1, d1⟩, e1, hp⟩ := good_lift.mp (good_bind.mp hp)
      have e1 := slotOf_some e1
      by_cases hf1 : f1.own = true
      · have hp : Good _ _ (if f1.own = true then _ else Out.no) := hp
        rw [if_pos hf1] at hp
        obtain ⟨z, ez, hq⟩ := good_lift.mp (good_bind.mp hp)
        obtain ⟨p1, ev1, op1, qp1⟩ := a1.env.own_at e1 hf1
        rw [ev] at ev1
        cases ev1
        exact hd σ O1 H1 r1 i f1 d1 p vs ds z Q a1.env e1 hf1 ev op1 qp1 qv ez fun v H' a2 qz => hq v H' O1 (a1.trans E a2) qz
      · have hp : Good _ _ (if f1.own = true then _ else Out.no) := hp
        rw [if_neg hf1] at hp
        exact hp.elim
    have q := good_bind.mp q
    cases hk : isMu k with
    | true =>
      rw [hk] at q step
      simp only [if_true] at q step ⊢
      exact tKs.at E q fun ds r1 vs H1 O1 hp a1 qv => step ds r1 vs H1 O1 a1 qv hp
    | false =>
      rw [hk] at q step
      simp only [Bool.false_eq_true, if_false] at q step ⊢
      exact tRs.at E q fun ds r1 vs H1 O1 hp a1 qv => step ds r1 vs H1 O1 a1 qv hp
  · have q : Good _ _ (if (f0.own && muTy k d0) = true then _ else Out.no) := q
    rw [if_neg hc] at q
    exact q.elim
theorem appD : MuD W rAppend .append := by
  intro σ O H r i f d p vs ds z Q E h hf ev op qp qv hz k
  cases d with
  | lst xs =>
    match ds, hz, qv with
    | [y], hz, qv =>
      have hz : (if Nat.blt xs.length sizeLine = true then some (D.lst (xs ++ [y]), D.non) else none) = some z := hz
      by_cases hc : Nat.blt xs.length sizeLine = true
      · rw [if_pos hc] at hz
        cases hz
        obtain ⟨us, e, l⟩ := qp
        have qv : RpL W (mns H O) vs [y] := qv
        cases qv with
        | cons a b =>
          cases b
          refine ⟨p, us, _, rfl, rfl, e, by rw [l.length]; exact Nat.le_of_ble_eq_true hc, k .non _ (aft_set E h hf ev op ⟨_, upd_same, ?_⟩) .non⟩
          exact (l.append (.cons a .nil)).mono (subm_at op)
      · rw [if_neg hc] at hz
        cases hz
  | _ => cases hz
theorem extD : MuD W rExtR .extend := by
  intro σ O H r i f d p vs ds z Q E h hf ev op qp qv hz k
  cases d with
  | lst xs =>
    match ds, hz, qv with
    | [.lst ys], hz, qv =>
      have hz : (if small (xs.length + ys.length) = true then some (D.lst (xs ++ ys), D.non) else none) = some z := hz
      by_cases hc : small (xs.length + ys.length) = true
      · rw [if_pos hc] at hz
        cases hz
        obtain ⟨us, e, l⟩ := qp
        have qv : RbL W O H vs [.lst ys] := qv
        obtain ⟨u, rfl, qu⟩ := rb1 qv
        obtain ⟨b, ws, rfl, sb, lb⟩ := qu.lst
        refine ⟨p, b, us, ws, rfl, rfl, e, sb, by rw [l.length, lb.length]; exact small_le hc, k .non _ (aft_set E h hf ev op ⟨_, upd_same, ?_⟩) .non⟩
        exact (l.append lb).mono (subm_at op)
      · rw [if_neg hc] at hz
        cases hz
  | _ => cases hz
theorem updD : MuD W rUpd .update := by
  intro σ O H r i f d p vs ds z Q E h hf ev op qp qv hz k
  cases d with
  | dk xs =>
    match ds, hz, qv with
    | [.dk ys], hz, qv =>
      have hz : (if small (xs.length + ys.length) = true then some (D.dk (mergeD xs ys), D.non) else none) = some z := hz
      by_cases hc : small (xs.length + ys.length) = true
      · rw [if_pos hc] at hz
        cases hz
        obtain ⟨us, e, l⟩ := qp
        have qv : RpL W (mns H O) vs [.dk ys] := qv
        cases qv with
        | cons a0 b0 =>
          cases b0
          cases a0 with
          | @dk b ws _ sb lb =>
            have hpb : p ≠ b := fun z => by
              subst z
              rcases sb with sb | ⟨_, sb⟩
              · exact (mns_some.mp sb).1 op
              · exact (mns_some.mp sb).1 op
            refine ⟨p, b, us, ws, rfl, rfl, hpb, e, sub_rd mns_sub sb, by rw [l.length, lb.length]; exact small_le hc, k .non _ (aft_set E h hf ev op ⟨_, upd_same, ?_⟩) .non⟩
            exact (lb.merge l).mono (subm_at op)
      · rw [if_neg hc] at hz
        cases hz
  | _ => cases hz
theorem se_append {i : Nat} {x : Str} {c : CE} {e : Expr} {p apos : Pos} (hW : W = ⟨X.prog, X.w, X.K⟩) (hv : SE W cl wx X (.var i) (.Name x p)) (h : SE W cl wx X c e) (hl : (apos.endLine == pos.line) = true) (hs : starEach [e] X.env = [(false, eval e X.env)]) :
    SE W cl wx X (.mut .append i (.cons c .nil)) (.Call (.Attribute (.Name x p) "append" apos) [e] [] pos) := by
  refine SE.leaf ((pe_bm PySem.F.plainAttrs_list PySem.F.slot_list_append PySem.F.type_list_append mt_append (hv.n i rfl) (ks_cons h ks_nil hs) (base_ok rfl) (few1 hs) hl hs (by rfl)).wk fun σ H Q q => ?_) hW rfl (fun _ => rfl) (fun _ => rfl)
  refine mu_core (X := X) appD (fun O H p d qp hm => ?_) rfl q
  cases d with
  | lst xs => exact .inl ⟨rfl, let ⟨vs, e, _⟩ := qp; ⟨vs, SqL.of e⟩⟩
  | _ => cases hm
theorem se_extend {i : Nat} {x : Str} {c : CE} {e : Expr} {p apos : Pos} (hW : W = ⟨X.prog, X.w, X.K⟩) (hv : SE W cl wx X (.var i) (.Name x p)) (h : SE W cl wx X c e) (hl : (apos.endLine == pos.line) = true) (hs : starEach [e] X.env = [(false, eval e X.env)]) :
    SE W cl wx X (.mut .extend i (.cons c .nil)) (.Call (.Attribute (.Name x p) "extend" apos) [e] [] pos) := by
  refine SE.leaf ((pe_bm PySem.F.plainAttrs_list PySem.F.slot_list_extend PySem.F.type_list_extend mt_extR (hv.n i rfl) (rs_cons h rs_nil hs) (base_ok rfl) (few1 hs) hl hs (by rfl)).wk fun σ H Q q => ?_) hW rfl (fun _ => rfl) (fun _ => rfl)
  refine mu_core (X := X) extD (fun O H p d qp hm => ?_) rfl q
  cases d with
  | lst xs => exact .inl ⟨rfl, let ⟨vs, e, _⟩ := qp; ⟨vs, SqL.of e⟩⟩
  | _ => cases hm
theorem se_update {i : Nat} {x : Str} {c : CE} {e : Expr} {p apos : Pos} (hW : W = ⟨X.prog, X.w, X.K⟩) (hv : SE W cl wx X (.var i) (.Name x p)) (h : SE W cl wx X c e) (hl : (apos.endLine == pos.line) = true) (hs : starEach [e] X.env = [(false, eval e X.env)]) :
    SE W cl wx X (.mut .update i (.cons c .nil)) (.Call (.Attribute (.Name x p) "update" apos) [e] [] pos) := by
  refine SE.leaf ((pe_bm PySem.F.plainAttrs_dict PySem.F.slot_dict_update PySem.F.type_dict_update mt_upd (hv.n i rfl) (ks_cons h ks_nil hs) (base_ok rfl) (few1 hs) hl hs (by rfl)).wk fun σ H Q q => ?_) hW rfl (fun _ => rfl) (fun _ => rfl)
  refine mu_core (X := X) updD (fun O H p d qp hm => ?_) rfl q
  cases d with
  | dk xs => exact .inr (.inr (.inl ⟨rfl, .inl (let ⟨vs, e, _⟩ := qp; ⟨vs, e⟩)⟩))
  | _ => cases hm
theorem RpL.dropLast {H : Hp} : ∀ {v : List V} {d : List D}, RpL W H v d → RpL W H v.dropLast d.dropLast
  | _, _, .nil => .nil
  | _, _, .cons a .nil => .nil
  | _, _, .cons a (.cons b c) => .cons a (RpL.dropLast (.cons b c))
theorem popD : MuD W rPop .pop := by
  intro σ O H r i f d p vs ds z Q E h hf ev op qp qv hz k
  cases d with
  | lst xs =>
    match ds, hz, qv with
    | [], hz, qv =>
      have hz : (xs[xs.length - 1]?).map (fun y => (D.lst xs.dropLast, y)) = some z := hz
      obtain ⟨y, ey, rfl⟩ := Option.map_eq_some_iff.mp hz
      obtain ⟨us, e, l⟩ := qp
      have qv : RbL W O H vs [] := qv
      have ev0 : vs = [] := by
        cases vs with
        | nil => rfl
        | cons _ _ => exact qv.elim
      subst ev0
      obtain ⟨u, eu, qu⟩ := l.get ey
      refine ⟨p, us, u, rfl, rfl, e, by rw [l.length]; exact eu, k u _ (aft_set E h hf ev op ⟨_, upd_same, l.dropLast.mono (subm_at op)⟩) (qu.mono (subm_at op))⟩
  | _ => cases hz
theorem RpL.erase0 {H : Hp} : ∀ {v : List V} {d : List D}, RpL W H v d → RpL W H (v.eraseIdx 0) (d.eraseIdx 0)
  | _, _, .nil => .nil
  | _, _, .cons a b => b
theorem popAtD : MuD W rPopAt .popAt := by
  intro σ O H r i f d p vs ds z Q E h hf ev op qp qv hz k
  cases d with
  | lst xs =>
    match ds, hz, qv with
    | [.int j], hz, qv =>
      have hz : (if j = 0 then (xs[0]?).map (fun y => (D.lst (xs.eraseIdx 0), y)) else none) = some z := hz
      by_cases hj : j = 0
      · rw [if_pos hj] at hz
        subst hj
        obtain ⟨y, ey, rfl⟩ := Option.map_eq_some_iff.mp hz
        obtain ⟨us, e, l⟩ := qp
        have qv : RbL W O H vs [.int 0] := qv
        obtain ⟨u0, rfl, qu0⟩ := rb1 qv
        obtain rfl := qu0.int
        obtain ⟨u, eu, qu⟩ := l.get ey
        have hlen : 0 < us.length := (List.getElem?_eq_some_iff.mp eu).1
        refine ⟨p, us, 0, 0, u, rfl, rfl, e, by decide, by decide, ?_, eu, k u _ (aft_set E h hf ev op ⟨_, upd_same, l.erase0.mono (subm_at op)⟩) (qu.mono (subm_at op))⟩
        exact (ixN_seq (n := us.length) (i := 0) (j := 0) (by unfold ixN; rw [if_pos (by decide), if_pos (by omega)]; rfl)).1
      · rw [if_neg hj] at hz
        cases hz
  | _ => cases hz
theorem clearD : MuD W rClear .clear := by
  intro σ O H r i f d p vs ds z Q E h hf ev op qp qv hz k
  cases d with
  | lst xs =>
    match ds, hz, qv with
    | [], hz, qv =>
      cases hz
      obtain ⟨us, e, l⟩ := qp
      have qv : RbL W O H vs [] := qv
      have ev0 : vs = [] := by
        cases vs with
        | nil => rfl
        | cons _ _ => exact qv.elim
      subst ev0
      exact ⟨p, us, rfl, rfl, e, k .non _ (aft_set E h hf ev op ⟨_, upd_same, .nil⟩) .non⟩
  | _ => cases hz
theorem rs_none {σ : L2.St} {H : Hp} {Q : List V → Hp → Prop} (h : tRs W cl wx .nil σ H Q) : Q [] H := by
  obtain ⟨O, r, E, h⟩ := h
  exact h [] H O (.refl E) trivial
theorem isLst_tyV {K : PySem.W.Frag} {k : Mu} (hk : ∀ d, muTy k d = true → ∃ xs, d = .lst xs) (O : Own) (H : Hp) (p : Addr) (d : D) (qp : OwnAt W O H p d) (hm : muTy k d = true) : tyV K "list" (.ref p) H := by
  obtain ⟨xs, rfl⟩ := hk d hm
  exact .inl ⟨rfl, let ⟨vs, e, _⟩ := qp; ⟨vs, SqL.of e⟩⟩
theorem se_pop {i : Nat} {x : Str} {p apos : Pos} (hW : W = ⟨X.prog, X.w, X.K⟩) (hv : SE W cl wx X (.var i) (.Name x p)) (hl : (apos.endLine == pos.line) = true) :
    SE W cl wx X (.mut .pop i .nil) (.Call (.Attribute (.Name x p) "pop" apos) [] [] pos) := by
  refine SE.leaf ((pe_bm0 PySem.F.plainAttrs_list PySem.F.slot_list_pop PySem.F.type_list_pop mt_pop (hv.n i rfl) (base_ok rfl) hl).wk fun σ H Q q => ?_) hW rfl (fun _ => rfl) (fun _ => rfl)
  obtain ⟨v, ev, ty, q⟩ := mu_core (X := X) popD (isLst_tyV fun d h => by cases d <;> first | exact ⟨_, rfl⟩ | cases h) rfl q
  exact ⟨v, ev, ty, rs_none q⟩
theorem se_clear {i : Nat} {x : Str} {p apos : Pos} (hW : W = ⟨X.prog, X.w, X.K⟩) (hv : SE W cl wx X (.var i) (.Name x p)) (hl : (apos.endLine == pos.line) = true) :
    SE W cl wx X (.mut .clear i .nil) (.Call (.Attribute (.Name x p) "clear" apos) [] [] pos) := by
  refine SE.leaf ((pe_bm0 PySem.F.plainAttrs_list PySem.F.slot_list_clear PySem.F.type_list_clear mt_clear (hv.n i rfl) (base_ok rfl) hl).wk fun σ H Q q => ?_) hW rfl (fun _ => rfl) (fun _ => rfl)
  obtain ⟨v, ev, ty, q⟩ := mu_core (X := X) clearD (isLst_tyV fun d h => by cases d <;> first | exact ⟨_, rfl⟩ | cases h) rfl q
  exact ⟨v, ev, ty, rs_none q⟩
theorem se_popAt {i : Nat} {x : Str} {c : CE} {e : Expr} {p apos : Pos} (hW : W = ⟨X.prog, X.w, X.K⟩) (hv : SE W cl wx X (.var i) (.Name x p)) (h : SE W cl wx X c e) (hl : (apos.endLine == pos.line) = true) (hs : starEach [e] X.env = [(false, eval e X.env)]) :
    SE W cl wx X (.mut .popAt i (.cons c .nil)) (.Call (.Attribute (.Name x p) "pop" apos) [e] [] pos) := by
  refine SE.leaf ((pe_bm PySem.F.plainAttrs_list PySem.F.slot_list_pop PySem.F.type_list_pop mt_popAt (hv.n i rfl) (rs_cons h rs_nil hs) (base_ok rfl) (few1 hs) hl hs (by rfl)).wk fun σ H Q q => ?_) hW rfl (fun _ => rfl) (fun _ => rfl)
  exact mu_core (X := X) popAtD (isLst_tyV fun d h => by cases d <;> first | exact ⟨_, rfl⟩ | cases h) rfl q
/-! ### a dict written -/
def trsOf (W : Wd) (cl : Cal) (wx : WX) : CE → List (TE × TE)
  | .cons k (.cons v t) => (tV W cl wx k, tV W cl wx v) :: trsOf W cl wx t
  | _ => []
def altC : CE → Bool
  | .nil => true
  | .cons _ (.cons _ t) => altC t
  | _ => false
def PairsRp (W : Wd) (H : Hp) : List (V × V) → List D → Prop
  | [], [] => True
  | q :: ps, k :: v :: ds => Rp W H q.1 k ∧ Rp W H q.2 v ∧ PairsRp W H ps ds
  | _, _ => False
theorem PairsRp.mono {H H' : Hp} (s : Sub H H') : ∀ {ps : List (V × V)} {ds : List D}, PairsRp W H ps ds → PairsRp W H' ps ds
  | [], [], h => h
  | [], _ :: _, h => h.elim
  | _ :: _, [], h => h.elim
  | _ :: _, [_], h => h.elim
  | _ :: ps, _ :: _ :: ds, h => ⟨h.1.mono s, h.2.1.mono s, PairsRp.mono s h.2.2⟩
theorem pairs_at : ∀ (c : CE) {σ : L2.St} {H : Hp} {O : Own} {r : Rho} {p : List D → Rho → Prop} {Q : List (V × V) → Hp → Prop}, altC c = true → EnvOk W O H σ r → Good p (wishOf W wx σ O H r) (evL cl c r) →
    (∀ ds r' ps H' O', p ds r' → Aft W σ O H r O' H' r' → PairsRp W (mns H' O') ps ds → Q ps H') → tPairs (trsOf W cl wx c) σ H Q
  | .nil, σ, H, O, r, p, Q, ha, E, h, k => k [] r [] H O h (.refl E) trivial
  | .cons a .nil, _, _, _, _, _, _, ha, _, _, _ => by cases ha
  | .cons a (.cons b t), σ, H, O, r, p, Q, ha, E, h, k => by
    refine tV.sh E (good_bind.mp h) fun x r1 v H1 O1 hp a1 q1 => ?_
    have hp := good_bind.mp (good_bind.mp hp)
    refine tV.sh a1.env (hp.on E a1) fun y r2 u H2 O2 hp2 a2 q2 => ?_
    have a12 := a1.trans E a2
    have hp2 := good_bind.mp hp2
    refine pairs_at t ha a12.env (hp2.on E a12) fun ds r3 ps H3 O3 hp3 a3 q3 => ?_
    exact k (x.2 :: y.2 :: ds) r3 ((v, u) :: ps) H3 O3 hp3 (a12.trans E a3) ⟨(q1.mono (a2.sub a1.env)).mono (a3.sub a12.env), q2.mono (a3.sub a12.env), q3⟩
  | .cons _ (.var _), _, _, _, _, _, _, ha, _, _, _ => by cases ha
  | .cons _ (.lit _), _, _, _, _, _, _, ha, _, _, _ => by cases ha
  | .cons _ (.con _ _), _, _, _, _, _, _, ha, _, _, _ => by cases ha
  | .cons _ (.tup _), _, _, _, _, _, _, ha, _, _, _ => by cases ha
  | .cons _ (.lst _), _, _, _, _, _, _, ha, _, _, _ => by cases ha
  | .cons _ (.dct _), _, _, _, _, _, _, ha, _, _, _ => by cases ha
  | .cons _ (.bin _ _ _), _, _, _, _, _, _, ha, _, _, _ => by cases ha
  | .cons _ (.neg _), _, _, _, _, _, _, ha, _, _, _ => by cases ha
  | .cons _ (.cmp _ _ _), _, _, _, _, _, _, ha, _, _, _ => by cases ha
  | .cons _ (.chn _ _ _ _ _), _, _, _, _, _, _, ha, _, _, _ => by cases ha
  | .cons _ (.isN _), _, _, _, _, _, _, ha, _, _, _ => by cases ha
  | .cons _ (.notN _), _, _, _, _, _, _, ha, _, _, _ => by cases ha
  | .cons _ (.and _ _), _, _, _, _, _, _, ha, _, _, _ => by cases ha
  | .cons _ (.or _ _), _, _, _, _, _, _, ha, _, _, _ => by cases ha
  | .cons _ (.not _), _, _, _, _, _, _, ha, _, _, _ => by cases ha
  | .cons _ (.ife _ _ _), _, _, _, _, _, _, ha, _, _, _ => by cases ha
  | .cons _ (.call _ _ _), _, _, _, _, _, _, ha, _, _, _ => by cases ha
  | .cons _ (.blt _ _), _, _, _, _, _, _, ha, _, _, _ => by cases ha
  | .cons _ (.isi _ _), _, _, _, _, _, _, ha, _, _, _ => by cases ha
  | .cons _ (.idx _ _), _, _, _, _, _, _, ha, _, _, _ => by cases ha
  | .cons _ (.slc _ _ _), _, _, _, _, _, _, ha, _, _, _ => by cases ha
  | .cons _ (.mth _ _ _), _, _, _, _, _, _, ha, _, _, _ => by cases ha
  | .cons _ (.mut _ _ _), _, _, _, _, _, _, ha, _, _, _ => by cases ha
  | .cons _ (.comp _ _ _ _ _), _, _, _, _, _, _, ha, _, _, _ => by cases ha
  | .cons _ (.seq _), _, _, _, _, _, _, ha, _, _, _ => by cases ha
  | .cons _ (.rng1 _), _, _, _, _, _, _, ha, _, _, _ => by cases ha
  | .cons _ (.rng2 _ _), _, _, _, _, _, _, ha, _, _, _ => by cases ha
  | .cons _ (.enum _), _, _, _, _, _, _, ha, _, _, _ => by cases ha
  | .cons _ (.zip _ _), _, _, _, _, _, _, ha, _, _, _ => by cases ha
  | .var _, _, _, _, _, _, _, ha, _, _, _ => by cases ha
  | .lit _, _, _, _, _, _, _, ha, _, _, _ => by cases ha
  | .con _ _, _, _, _, _, _, _, ha, _, _, _ => by cases ha
  | .tup _, _, _, _, _, _, _, ha, _, _, _ => by cases ha
  | .lst _, _, _, _, _, _, _, ha, _, _, _ => by cases ha
  | .dct _, _, _, _, _, _, _, ha, _, _, _ => by cases ha
  | .bin _ _ _, _, _, _, _, _, _, ha, _, _, _ => by cases ha
  | .neg _, _, _, _, _, _, _, ha, _, _, _ => by cases ha
  | .cmp _ _ _, _, _, _, _, _, _, ha, _, _, _ => by cases ha
  | .chn _ _ _ _ _, _, _, _, _, _, _, ha, _, _, _ => by cases ha
  | .isN _, _, _, _, _, _, _, ha, _, _, _ => by cases ha
  | .notN _, _, _, _, _, _, _, ha, _, _, _ => by cases ha
  | .and _ _, _, _, _, _, _, _, ha, _, _, _ => by cases ha
  | .or _ _, _, _, _, _, _, _, ha, _, _, _ => by cases ha
  | .not _, _, _, _, _, _, _, ha, _, _, _ => by cases ha
  | .ife _ _ _, _, _, _, _, _, _, ha, _, _, _ => by cases ha
  | .call _ _ _, _, _, _, _, _, _, ha, _, _, _ => by cases ha
  | .blt _ _, _, _, _, _, _, _, ha, _, _, _ => by cases ha
  | .isi _ _, _, _, _, _, _, _, ha, _, _, _ => by cases ha
  | .idx _ _, _, _, _, _, _, _, ha, _, _, _ => by cases ha
  | .slc _ _ _, _, _, _, _, _, _, ha, _, _, _ => by cases ha
  | .mth _ _ _, _, _, _, _, _, _, ha, _, _, _ => by cases ha
  | .mut _ _ _, _, _, _, _, _, _, ha, _, _, _ => by cases ha
  | .comp _ _ _ _ _, _, _, _, _, _, _, ha, _, _, _ => by cases ha
  | .seq _, _, _, _, _, _, _, ha, _, _, _ => by cases ha
  | .rng1 _, _, _, _, _, _, _, ha, _, _, _ => by cases ha
  | .rng2 _ _, _, _, _, _, _, _, ha, _, _, _ => by cases ha
  | .enum _, _, _, _, _, _, _, ha, _, _, _ => by cases ha
  | .zip _ _, _, _, _, _, _, _, ha, _, _, _ => by cases ha
theorem pairsK_ok {H : Hp} : ∀ {ds : List D} {ps : List (V × V)} {kvs : List (Key × D)}, PairsRp W H ps ds → pairsK ds = some kvs → ∃ ks : List (Key × V), ps = ks.map (fun kv => (kV kv.1, kv.2)) ∧ RpK W H ks kvs
  | [], [], kvs, _, h => by
    cases h
    exact ⟨[], rfl, .nil⟩
  | [], _ :: _, _, q, _ => q.elim
  | [_], [], _, q, _ => q.elim
  | [_], _ :: _, _, q, _ => q.elim
  | _ :: _ :: _, [], _, q, _ => q.elim
  | k :: v :: ds, x :: ps, kvs, q, h => by
    have h : (match k.key, pairsK ds with
      | some k, some t => some ((k, v) :: t)
      | _, _ => none) = some kvs := h
    cases e1 : k.key with
    | none =>
      rw [e1] at h
      cases h
    | some ky =>
      cases e2 : pairsK ds with
      | none =>
        rw [e1, e2] at h
        cases h
      | some t =>
        rw [e1, e2] at h
        cases h
        obtain ⟨ks, rfl, r⟩ := pairsK_ok q.2.2 e2
        have ex : x.1 = kV ky := key_ok (W := W) (O := fun _ => False) (H := H) (.inl (q.1.mono fun a o z => mns_some.mpr ⟨fun y => y, z⟩)) e1
        exact ⟨(ky, x.2) :: ks, by rw [List.map_cons, ← ex], .cons q.2.1 r⟩
theorem se_dct {c : CE} {keys : List (Option Expr)} {values : List Expr} (hW : W = ⟨X.prog, X.w, X.K⟩) (hp : PPs X pos keys values (trsOf W cl wx c)) (hall : keys.all (·.isSome) = true) (hl : keys.length = values.length) (h0 : keys ≠ []) (h15 : keys.length ≤ 15) (ha : altC c = true) :
    SE W cl wx X (.dct c) (.Dict keys values pos) := by
  refine SE.leaf ((pe_disp hp hall hl h0 h15).wk fun σ H Q ⟨O, r, E, q⟩ => ?_) hW rfl (fun _ => rfl) (fun _ => rfl)
  intro p n
  have a1 := aft_own (o := .dK []) E n
  have q := good_bind.mp q
  refine pairs_at c ha a1.env (q.on E a1) fun ds r2 ps H2 O2 hp a2 q2 => ?_
  have a12 := a1.trans E a2
  have np : ¬ owned σ r p := fun z => notO E n (E.owns p z)
  have o2 : O2 p := a2.stp.kown p (.inr rfl) np
  have e2 : H2 p = some (.dK []) := a2.stp.keep p _ upd_same np
  refine ⟨e2, ?_⟩
  have hp : Good _ _ (match pairsK ds with
    | some kvs => if Nat.ble kvs.length 15 then Out.ok (true, D.dk (mergeD [] kvs)) r2 else .no
    | none => .no) := hp
  cases e3 : pairsK ds with
  | none =>
    rw [e3] at hp
    exact hp.elim
  | some kvs =>
    rw [e3] at hp
    have hp : Good _ _ (if Nat.ble kvs.length 15 = true then Out.ok (true, D.dk (mergeD [] kvs)) r2 else .no) := hp
    by_cases hc : Nat.ble kvs.length 15 = true
    · rw [if_pos hc] at hp
      obtain ⟨ks, rfl, rk⟩ := pairsK_ok q2 e3
      refine ⟨ks, rfl, by rw [rk.length]; exact Nat.le_of_ble_eq_true hc, ?_⟩
      have sb : Sub (mns H2 O2) (mns (upd H2 p (.dK (mergeK [] ks))) O2) := subm_at o2
      have nown : ∀ b, owned σ r2 b → b ≠ p := fun b hb z => np (by rw [← z]; exact a2.less b hb)
      have there : ∀ a, (∃ u, H2 a = some u) → ∃ u, (upd H2 p (.dK (mergeK [] ks))) a = some u := fun a ⟨u, e⟩ => by
        by_cases hap : a = p
        · exact ⟨_, by rw [hap, upd_same]⟩
        · exact ⟨u, by rw [upd_ne hap]; exact e⟩
      refine hp (.ref p) _ O2 ⟨a2.env.move (fun b o e hb => ?_) a2.env.owns sb fun b hb => there b (a2.env.al b hb), ⟨fun b o e hb => ?_, a12.stp.kown, a12.stp.news, fun b hb => there b (a12.stp.there b hb)⟩, a12.less, a12.lk, a12.ows⟩ ⟨p, rfl, o2, n, _, upd_same, (rk.merge .nil).mono sb⟩
      · rw [upd_ne (nown b hb)]
        exact e
      · rw [upd_ne (ne_of_none e n)]
        exact a12.stp.keep b o e hb
    · rw [if_neg hc] at hp
      exact hp.elim
end
end Eg
/-! Eg12: calls of own defs: what is lent, how it comes back. -/
namespace Eg
open PySem PySem.Spec PyProof.Rows L2
/-- an argument as it is handed over -/
def ArgAt (W : Wd) (O : Own) (H : Hp) (v : V) (x : Bool × D) : Prop := match x.1 with
  | true => ∃ a, v = .ref a ∧ O a ∧ OwnAt W O H a x.2
  | false => Rp W (mns H O) v x.2
structure ArgsOk (W : Wd) (O : Own) (H : Hp) (vs : List V) (ds : List (Bool × D)) : Prop where
  len : vs.length = ds.length
  at_ : ∀ (i : Nat) (v : V) (x : Bool × D), vs[i]? = some v → ds[i]? = some x → ArgAt W O H v x
  dj : ∀ (i j : Nat) (a : Addr) (d e : D), ds[i]? = some (true, d) → vs[i]? = some (.ref a) → ds[j]? = some (true, e) → vs[j]? = some (.ref a) → i = j
  al : ∀ a, O a → ∃ o, H a = some o
/-- what is lent -/
def lentA (vs : List V) (ds : List (Bool × D)) : Own := fun a => ∃ (i : Nat) (d : D), ds[i]? = some (true, d) ∧ vs[i]? = some (.ref a)
/-- how it comes back -/
def OutsOk (W : Wd) (O' : Own) (H' : Hp) (vs : List V) (ds outs : List (Bool × D)) : Prop :=
  ∀ (i : Nat) (d : D) (v : V), ds[i]? = some (true, d) → vs[i]? = some v → ∃ x, outs[i]? = some x ∧ ArgAt W O' H' v x
/-- the values of the arguments -/
def ArgRel (W : Wd) (σ : L2.St) (O : Own) (H : Hp) : List V → List (Option Nat × D) → Prop
  | [], [] => True
  | v :: vs, (none, d) :: t => Rp W (mns H O) v d ∧ ArgRel W σ O H vs t
  | v :: vs, (some i, _) :: t => σ[i]? = some (some v) ∧ ArgRel W σ O H vs t
  | _, _ => False
section
variable {W : Wd} {σ : L2.St} {O O' : Own} {H H' : Hp} {r r' : Rho}
theorem ArgRel.mono (s : Sub (mns H O) (mns H' O')) : ∀ {vs : List V} {as : List (Option Nat × D)}, ArgRel W σ O H vs as → ArgRel W σ O' H' vs as
  | [], [], h => h
  | [], _ :: _, h => h.elim
  | _ :: _, [], h => h.elim
  | _ :: _, (none, _) :: _, h => ⟨h.1.mono s, ArgRel.mono s h.2⟩
  | _ :: _, (some _, _) :: _, h => ⟨h.1, ArgRel.mono s h.2⟩
theorem ArgRel.len : ∀ {vs : List V} {as : List (Option Nat × D)}, ArgRel W σ O H vs as → vs.length = as.length
  | [], [], h => rfl
  | [], _ :: _, h => h.elim
  | _ :: _, [], h => h.elim
  | _ :: _, (none, _) :: _, h => by simp [ArgRel.len h.2]
  | _ :: _, (some _, _) :: _, h => by simp [ArgRel.len h.2]
theorem ArgRel.none_at : ∀ {vs : List V} {as : List (Option Nat × D)} {p : Nat} {d : D}, ArgRel W σ O H vs as → as[p]? = some (none, d) → ∃ v, vs[p]? = some v ∧ Rp W (mns H O) v d
  | [], [], p, d, h, e => by simp at e
  | [], _ :: _, _, _, h, _ => h.elim
  | _ :: _, [], _, _, h, _ => h.elim
  | v :: _, (none, _) :: _, 0, d, h, e => by
    simp at e
    subst e
    exact ⟨v, rfl, h.1⟩
  | _ :: _, (some _, _) :: _, 0, d, h, e => by simp at e
  | _ :: _, (none, _) :: _, p + 1, d, h, e => by simpa using ArgRel.none_at (p := p) h.2 (by simpa using e)
  | _ :: _, (some _, _) :: _, p + 1, d, h, e => by simpa using ArgRel.none_at (p := p) h.2 (by simpa using e)
theorem ArgRel.some_at : ∀ {vs : List V} {as : List (Option Nat × D)} {p i : Nat} {d : D}, ArgRel W σ O H vs as → as[p]? = some (some i, d) → ∃ v, vs[p]? = some v ∧ σ[i]? = some (some v)
  | [], [], p, i, d, h, e => by simp at e
  | [], _ :: _, _, _, _, h, _ => h.elim
  | _ :: _, [], _, _, _, h, _ => h.elim
  | v :: _, (none, _) :: _, 0, i, d, h, e => by simp at e
  | v :: _, (some _, _) :: _, 0, i, d, h, e => by
    simp at e
    obtain ⟨rfl, rfl⟩ := e
    exact ⟨v, rfl, h.1⟩
  | _ :: _, (none, _) :: _, p + 1, i, d, h, e => by simpa using ArgRel.some_at (p := p) h.2 (by simpa using e)
  | _ :: _, (some _, _) :: _, p + 1, i, d, h, e => by simpa using ArgRel.some_at (p := p) h.2 (by simpa using e)
theorem argD_len : ∀ {as : List (Option Nat × D)} {ds : List (Bool × D)}, argD r as = some ds → as.length = ds.length
  | [], ds, h => by
    cases h
    rfl
  | (none, d) :: t, ds, h => by
    have h : (argD r t).map (fun x => (false, d) :: x) = some ds := h
    obtain ⟨x, e, rfl⟩ := Option.map_eq_some_iff.mp h
    simp [argD_len e]
  | (some i, d) :: t, ds, h => by
    have h : (match r[i]? with
      | some (some (f, d)) => (argD r t).map fun x => (f.own, d) :: x
      | _ => none) = some ds := h
    split at h
    · obtain ⟨x, e, rfl⟩ := Option.map_eq_some_iff.mp h
      simp [argD_len e]
    · cases h
theorem argD_at : ∀ {as : List (Option Nat × D)} {ds : List (Bool × D)} {p : Nat} {x : Bool × D}, argD r as = some ds → ds[p]? = some x → (as[p]? = some (none, x.2) ∧ x.1 = false) ∨ ∃ i d f, as[p]? = some (some i, d) ∧ r[i]? = some (some (f, x.2)) ∧ x.1 = f.own
  | [], ds, p, x, h, e => by
    cases h
    simp at e
  | (none, d) :: t, ds, p, x, h, e => by
    have h : (argD r t).map (fun x => (false, d) :: x) = some ds := h
    obtain ⟨y, ey, rfl⟩ := Option.map_eq_some_iff.mp h
    cases p with
    | zero =>
      simp at e
      subst e
      exact .inl ⟨rfl, rfl⟩
    | succ p => simpa using argD_at (p := p) ey (by simpa using e)
  | (some i, d) :: t, ds, p, x, h, e => by
    have h : (match r[i]? with
      | some (some (f, d)) => (argD r t).map fun x => (f.own, d) :: x
      | _ => none) = some ds := h
    split at h
    · rename_i f d' er
      obtain ⟨y, ey, rfl⟩ := Option.map_eq_some_iff.mp h
      cases p with
      | zero =>
        simp at e
        subst e
        exact .inr ⟨i, d, f, rfl, er, rfl⟩
      | succ p => simpa using argD_at (p := p) ey (by simpa using e)
    · cases h
theorem djA_at : ∀ {as : List (Option Nat × D)} {p q i : Nat} {x y : Option Nat × D}, djA r as = true → as[p]? = some x → as[q]? = some y → lentOf r x = some i → lentOf r y = some i → p = q
  | [], p, q, i, x, y, h, e1, e2, l1, l2 => by simp at e1
  | z :: t, p, q, i, x, y, h, e1, e2, l1, l2 => by
    obtain ⟨h1, h2⟩ := Bool.and_eq_true_iff.mp (show ((match lentOf r z with
      | none => true
      | some i => t.all fun y => lentOf r y != some i) && djA r t) = true from h)
    have nx : ∀ (m : Nat) (u : Option Nat × D), lentOf r z = some i → t[m]? = some u → lentOf r u = some i → False := fun m u hz hu hl => by
      rw [hz] at h1
      have := List.all_eq_true.mp h1 u (List.mem_of_getElem? hu)
      rw [hl] at this
      simp at this
    cases p with
    | zero =>
      cases q with
      | zero => rfl
      | succ q =>
        simp at e1 e2
        subst e1
        exact (nx q y l1 e2 l2).elim
    | succ p =>
      cases q with
      | zero =>
        simp at e1 e2
        subst e2
        exact (nx p x l2 e1 l1).elim
      | succ q =>
        simp at e1 e2
        rw [djA_at h2 e1 e2 l1 l2]
theorem lentOf_some {i : Nat} {d : D} {f : Fl} {d' : D} (h : r[i]? = some (some (f, d'))) (hf : f.own = true) : lentOf r (some i, d) = some i := by
  unfold lentOf
  simp [h, hf]
/-- the callee may take them -/
theorem args_ok {vs : List V} {as : List (Option Nat × D)} {ds : List (Bool × D)} (E : EnvOk W O H σ r) (hr : ArgRel W σ O H vs as) (ha : argD r as = some ds) (hd : djA r as = true) : ArgsOk W O H vs ds where
  len := hr.len.trans (argD_len ha)
  at_ := fun p v x hv hx => by
    rcases argD_at ha hx with ⟨e, k⟩ | ⟨i, d, f, e, er, k⟩
    · obtain ⟨u, eu, q⟩ := hr.none_at e
      rw [hv] at eu
      cases eu
      unfold ArgAt
      rw [k]
      exact q
    · obtain ⟨u, eu, es⟩ := hr.some_at e
      rw [hv] at eu
      cases eu
      obtain ⟨w, ew, q⟩ := E.sl i f _ er
      rw [es] at ew
      cases ew
      unfold SlotAt at q
      unfold ArgAt
      rw [k]
      exact q
  dj := fun p q a d e h1 h2 h3 h4 => by
    have key : ∀ (m : Nat) (z : D), ds[m]? = some (true, z) → vs[m]? = some (.ref a) → ∃ i d' f y, as[m]? = some (some i, d') ∧ r[i]? = some (some (f, y)) ∧ f.own = true ∧ σ[i]? = some (some (.ref a)) := fun m z hz hv => by
      rcases argD_at ha hz with ⟨_, k⟩ | ⟨i, d', f, e, er, k⟩
      · cases k
      · obtain ⟨u, eu, es⟩ := hr.some_at e
        rw [hv] at eu
        cases eu
        exact ⟨i, d', f, z, e, er, k.symm, es⟩
    obtain ⟨i, d1, f, y1, e1, r1, f1, s1⟩ := key p d h1 h2
    obtain ⟨j, d2, g, y2, e2, r2, f2, s2⟩ := key q e h3 h4
    have hij := E.dj i j f g y1 y2 a r1 f1 s1 r2 f2 s2
    subst hij
    exact djA_at hd e1 e2 (lentOf_some r1 f1) (lentOf_some r2 f2)
  al := E.al
theorem lentA_owned {vs : List V} {as : List (Option Nat × D)} {ds : List (Bool × D)} (hr : ArgRel W σ O H vs as) (ha : argD r as = some ds) : ∀ a, lentA vs ds a → owned σ r a := fun a ⟨p, d, h1, h2⟩ => by
  rcases argD_at ha h1 with ⟨_, k⟩ | ⟨i, d', f, e, er, k⟩
  · cases k
  · obtain ⟨u, eu, es⟩ := hr.some_at e
    rw [h2] at eu
    cases eu
    exact ⟨i, f, _, er, k.symm, es⟩
/-- the slots behind the call -/
theorem back_at : ∀ {as : List (Option Nat × D)} {outs : List (Bool × D)} {acc r' : Rho}, back r as outs acc = some r' → djA r as = true → r'.length = acc.length ∧ ∀ i, i < acc.length →
    ((∀ (p : Nat) (x : Option Nat × D), as[p]? = some x → lentOf r x ≠ some i) → r'[i]? = acc[i]?) ∧
    (∀ (p : Nat) (d : D) (f : Fl) (y : D), as[p]? = some (some i, d) → r[i]? = some (some (f, y)) → f.own = true → ∃ k z, outs[p]? = some (k, z) ∧ r'[i]? = some (some (if k then f else f.shared, z)))
  | [], outs, acc, r', h, hd => by
    cases h
    exact ⟨rfl, fun i hi => ⟨fun _ => rfl, fun p d f y e => by simp at e⟩⟩
  | (none, _) :: t, [], acc, r', h, hd => by cases h
  | (some _, _) :: t, [], acc, r', h, hd => by cases h
  | (none, d0) :: t, o :: outs, acc, r', h, hd => by
    have h : back r t outs acc = some r' := by
      obtain ⟨k, d⟩ := o
      exact h
    have hd : djA r t = true := (Bool.and_eq_true_iff.mp (show ((match lentOf r (none, d0) with
      | none => true
      | some i => t.all fun y => lentOf r y != some i) && djA r t) = true from hd)).2
    obtain ⟨hl, ih⟩ := back_at h hd
    refine ⟨hl, fun i hi => ⟨fun hn => (ih i hi).1 fun p x hx => hn (p + 1) x (by simpa using hx), fun p d f y e er hf => ?_⟩⟩
    cases p with
    | zero => simp at e
    | succ p => simpa using (ih i hi).2 p d f y (by simpa using e) er hf
  | (some j, d0) :: t, (k, z) :: outs, acc, r', h, hd => by
    have h : (match r[j]? with
      | some (some (f, _)) => if f.own then back r t outs (acc.set j (some (if k then f else f.shared, z))) else back r t outs acc
      | _ => none) = some r' := h
    obtain ⟨hd1, hd⟩ := Bool.and_eq_true_iff.mp (show ((match lentOf r (some j, d0) with
      | none => true
      | some i => t.all fun y => lentOf r y != some i) && djA r t) = true from hd)
    split at h
    · rename_i f y er
      by_cases hf : f.own = true
      · rw [if_pos hf] at h
        obtain ⟨hl, ih⟩ := back_at h hd
        rw [List.length_set] at hl
        have lj : lentOf r (some j, d0) = some j := lentOf_some er hf
        have nj : ∀ (p : Nat) (x : Option Nat × D), t[p]? = some x → lentOf r x ≠ some j := fun p x hx e => by
          rw [lj] at hd1
          have := List.all_eq_true.mp hd1 x (List.mem_of_getElem? hx)
          rw [e] at this
          simp at this
        refine ⟨hl, fun i hi => ⟨fun hn => ?_, fun p d g y' e er' hg => ?_⟩⟩
        · have hij : j ≠ i := fun e => by
            subst e
            exact hn 0 _ rfl lj
          have := (ih i (by rw [List.length_set]; exact hi)).1 fun p x hx => hn (p + 1) x (by simpa using hx)
          rw [List.getElem?_set_ne hij] at this
          exact this
        · cases p with
          | zero =>
            simp at e
            obtain ⟨rfl, rfl⟩ := e
            rw [er] at er'
            cases er'
            have := (ih j (by rw [List.length_set]; exact hi)).1 nj
            rw [List.getElem?_set_self hi] at this
            exact ⟨k, z, rfl, this⟩
          | succ p => simpa using (ih i (by rw [List.length_set]; exact hi)).2 p d g y' (by simpa using e) er' hg
      · rw [if_neg hf] at h
        obtain ⟨hl, ih⟩ := back_at h hd
        refine ⟨hl, fun i hi => ⟨fun hn => (ih i hi).1 fun p x hx => hn (p + 1) x (by simpa using hx), fun p d g y' e er' hg => ?_⟩⟩
        cases p with
        | zero =>
          simp at e
          obtain ⟨rfl, rfl⟩ := e
          rw [er] at er'
          cases er'
          exact absurd hg hf
        | succ p => simpa using (ih i hi).2 p d g y' (by simpa using e) er' hg
    · cases h
end
end Eg
/-! Eg12b: tuples that a def hands back, some of their items new. -/
namespace Eg
open PySem PySem.Spec PyProof.Rows L2
/-- the new ones -/
def frs : List V → List (Bool × D) → Addr → Prop
  | v :: vs, x :: ps, p => (x.1 = true ∧ v = .ref p) ∨ frs vs ps p
  | _, _, _ => False
def PartsAt (W : Wd) (H : Hp) (O' : Own) (H' : Hp) : List V → List (Bool × D) → Prop
  | [], [] => True
  | v :: vs, x :: ps => ResAt W H O' H' x.1 x.2 v ∧ (x.1 = true → ∀ p, v = .ref p → ¬ frs vs ps p) ∧ PartsAt W H O' H' vs ps
  | _, _ => False
def TupAt (W : Wd) (H : Hp) (O' : Own) (H' : Hp) (ps : List (Bool × D)) (v : V) : Prop := ∃ a vs, v = .ref a ∧ SqT W.K (mns H' O') a vs ∧ PartsAt W H O' H' vs ps
/-- what a call hands back -/
def CRes (W : Wd) (H : Hp) (O' : Own) (H' : Hp) (fr : Bool) (d : D) (v : V) : Prop := match fr with
  | false => Rp W (mns H' O') v d
  | true => match d with
    | .tp ps => TupAt W H O' H' ps v
    | d => ResAt W H O' H' true d v
section
variable {W : Wd} {σ : L2.St} {O O1 O' : Own} {H H1 H' : Hp} {r r' : Rho}
theorem PartsAt.len : ∀ {vs : List V} {ps : List (Bool × D)}, PartsAt W H O' H' vs ps → vs.length = ps.length
  | [], [], _ => rfl
  | [], _ :: _, h => h.elim
  | _ :: _, [], h => h.elim
  | _ :: _, _ :: _, h => by simp [PartsAt.len h.2.2]
theorem PartsAt.back (k : ∀ p, H1 p = none → H p = none) : ∀ {vs : List V} {ps : List (Bool × D)}, PartsAt W H1 O' H' vs ps → PartsAt W H O' H' vs ps
  | [], [], h => h
  | [], _ :: _, h => h.elim
  | _ :: _, [], h => h.elim
  | v :: vs, (b, d) :: ps, h => ⟨by
      cases b with
      | false => exact h.1
      | true =>
        obtain ⟨a, e, o, n, q⟩ := h.1
        exact ⟨a, e, o, k a n, q⟩, h.2.1, PartsAt.back k h.2.2⟩
theorem TupAt.back {ps : List (Bool × D)} {v : V} (k : ∀ p, H1 p = none → H p = none) (h : TupAt W H1 O' H' ps v) : TupAt W H O' H' ps v := by
  obtain ⟨a, vs, e, s, q⟩ := h
  exact ⟨a, vs, e, s, q.back k⟩
theorem PartsAt.fresh : ∀ {vs : List V} {ps : List (Bool × D)} {p : Addr}, PartsAt W H O' H' vs ps → frs vs ps p → O' p ∧ H p = none
  | [], _, p, _, f => f.elim
  | _ :: _, [], p, _, f => f.elim
  | v :: vs, (b, d) :: ps, p, h, f => by
    rcases f with ⟨e1, e2⟩ | f
    · cases (show b = true from e1)
      obtain ⟨a, e, o, n, q⟩ := h.1
      rw [e2] at e
      cases e
      exact ⟨o, n⟩
    · exact PartsAt.fresh h.2.2 f
/-- the items shared -/
theorem parts_rp {O2 : Own} (sb : Sub (mns H' O') (mns H' O2)) : ∀ {vs : List V} {ps : List (Bool × D)}, (∀ p, frs vs ps p → ¬ O2 p) → PartsAt W H O' H' vs ps → RpL W (mns H' O2) vs (ps.map (·.2))
  | [], [], _, _ => .nil
  | [], _ :: _, _, h => h.elim
  | _ :: _, [], _, h => h.elim
  | v :: vs, (b, d) :: ps, n, h => .cons (by
      cases b with
      | false => exact Rp.mono sb h.1
      | true =>
        obtain ⟨a, e, o, _, q⟩ := h.1
        subst e
        exact q.rp (fun o z => mns_some.mpr ⟨n a (.inl ⟨rfl, rfl⟩), z⟩) sb) (parts_rp sb (fun p f => n p (.inr f)) h.2.2)
theorem tup_share {ps : List (Bool × D)} {v : V} (E : EnvOk W O H σ r) (a : Aft W σ O H r O' H' r') (q : TupAt W H O' H' ps v) : ∃ O2, Aft W σ O H r O2 H' r' ∧ Rp W (mns H' O2) v (.tup (ps.map (·.2))) := by
  obtain ⟨b, vs, e, s, q⟩ := q
  subst e
  have dead : ∀ p, frs vs ps p → ∀ c, (∃ o, H c = some o) → c ≠ p := fun p f c ⟨o, z⟩ e => by
    rw [e, (q.fresh f).2] at z
    cases z
  have nown : ∀ c, owned σ r' c → ¬ frs vs ps c := fun c hc f => dead c f c (E.al c (E.owns c (a.less c hc))) rfl
  have sb : Sub (mns H' O') (mns H' fun c => O' c ∧ ¬ frs vs ps c) := mns_less fun c z => z.1
  refine ⟨fun c => O' c ∧ ¬ frs vs ps c, ⟨a.env.move (fun c o e _ => e) (fun c hc => ⟨a.env.owns c hc, nown c hc⟩) sb fun c z => a.env.al c z.1, ⟨a.stp.keep, fun c hc nc => ⟨a.stp.kown c hc nc, fun f => dead c f c (E.al c hc) rfl⟩, fun c z => a.stp.news c z.1, a.stp.there⟩, a.less, a.lk, a.ows⟩,
    .tup (sub_t sb s) (parts_rp sb (fun p f z => z.2 f) q)⟩
/-- what a call hands back, as an expression's value -/
theorem cres_flat {fr : Bool} {d : D} {v : V} (E : EnvOk W O H σ r) (a : Aft W σ O H r O' H' r') (q : CRes W H O' H' fr d v) : ∃ O2, Aft W σ O H r O2 H' r' ∧ ResAt W H O2 H' (flatR fr d).1 (flatR fr d).2 v := by
  cases fr with
  | false => exact ⟨O', a, q⟩
  | true =>
    cases d with
    | tp ps => exact tup_share E a q
    | _ => exact ⟨O', a, q⟩
theorem CRes.back {fr : Bool} {d : D} {v : V} (k : ∀ p, H1 p = none → H p = none) (q : CRes W H1 O' H' fr d v) : CRes W H O' H' fr d v := by
  cases fr with
  | false => exact q
  | true =>
    have old : ∀ d', ResAt W H1 O' H' true d' v → ResAt W H O' H' true d' v := fun d' q => by
      obtain ⟨b, e, o, n, q⟩ := q
      exact ⟨b, e, o, k b n, q⟩
    cases d with
    | tp ps => exact TupAt.back k q
    | _ => exact old _ q
end
end Eg
/-! Eg13: a call's rule. -/
namespace Eg
open PySem PySem.Spec PyProof.Rows L2
section
variable {W : Wd} {σ : L2.St} {O O' : Own} {H H' : Hp} {r r' : Rho}
theorem lentOf_inv {x : Option Nat × D} {i : Nat} (h : lentOf r x = some i) : ∃ d f y, x = (some i, d) ∧ r[i]? = some (some (f, y)) ∧ f.own = true := by
  obtain ⟨o, d⟩ := x
  unfold lentOf at h
  cases o with
  | none => cases h
  | some j =>
    have h : (match r[j]? with
      | some (some (f, _)) => if f.own then some j else none
      | _ => none) = some i := h
    split at h
    · rename_i f y e
      by_cases hf : f.own = true
      · rw [if_pos hf] at h
        cases h
        exact ⟨d, f, y, rfl, e, hf⟩
      · rw [if_neg hf] at h
        cases h
    · cases h
theorem aft_call {vs : List V} {as : List (Option Nat × D)} {ds outs : List (Bool × D)} (E : EnvOk W O H σ r) (hr : ArgRel W σ O H vs as) (ha : argD r as = some ds) (hd : djA r as = true) (s : Stp (lentA vs ds) O H O' H') (hal : ∀ a, O' a → ∃ o, H' a = some o)
    (ho : OutsOk W O' H' vs ds outs) (hb : back r as outs r = some r') : Aft W σ O H r O' H' r' := by
  obtain ⟨hl, hat⟩ := back_at hb hd
  have lo := lentA_owned hr ha
  have sb : Sub (mns H O) (mns H' O') := s.sub fun a z => E.owns a (lo a z)
  have ltr : ∀ {i : Nat} {x : Option (Fl × D)}, r'[i]? = some x → i < r.length := fun {i x} h => by
    rw [← hl]
    exact (List.getElem?_eq_some_iff.mp h).1
  /- a slot behind the call: lent, or as it was -/
  have cases_ : ∀ (i : Nat), i < r.length → (∃ (p : Nat) (d : D) (f : Fl) (y : D) (k : Bool) (z : D) (v : V), as[p]? = some (some i, d) ∧ r[i]? = some (some (f, y)) ∧ f.own = true ∧ r'[i]? = some (some (if k then f else f.shared, z)) ∧ σ[i]? = some (some v) ∧ ArgAt W O' H' v (k, z) ∧ lentA vs ds = lentA vs ds) ∨
      (r'[i]? = r[i]? ∧ ∀ (p : Nat) (x : Option Nat × D), as[p]? = some x → lentOf r x ≠ some i) := fun i hi => by
    by_cases hp : ∃ (p : Nat) (x : Option Nat × D), as[p]? = some x ∧ lentOf r x = some i
    · obtain ⟨p, x, hx, hlx⟩ := hp
      obtain ⟨d, f, y, rfl, er, hf⟩ := lentOf_inv hlx
      obtain ⟨k, z, ho1, h1⟩ := (hat i hi).2 p d f y hx er hf
      obtain ⟨v, hv, hσ⟩ := hr.some_at hx
      refine .inl ⟨p, d, f, y, k, z, v, hx, er, hf, h1, hσ, ?_, rfl⟩
      have hds : ∃ w, ds[p]? = some w := by
        have : p < ds.length := by
          rw [← argD_len ha]
          exact (List.getElem?_eq_some_iff.mp hx).1
        exact ⟨_, List.getElem?_eq_getElem this⟩
      obtain ⟨w, hw⟩ := hds
      rcases argD_at ha hw with ⟨e, _⟩ | ⟨i2, d2, f2, e, er2, k2⟩
      · rw [hx] at e
        cases e
      · rw [hx] at e
        cases e
        rw [er] at er2
        cases er2
        obtain ⟨w1, w2⟩ := w
        have k2 : w1 = f.own := k2
        rw [hf] at k2
        subst k2
        obtain ⟨u, hu, q⟩ := ho p w2 v hw hv
        rw [ho1] at hu
        cases hu
        exact q
    · refine .inr ⟨(hat i hi).1 fun p x hx he => hp ⟨p, x, hx, he⟩, fun p x hx he => hp ⟨p, x, hx, he⟩⟩
  have ownk : ∀ (f : Fl) (k : Bool), f.own = true → (if k then f else f.shared).own = k := fun f k h => by
    cases k with
    | true => exact h
    | false => exact Fl.shared_own f
  /- what is owned behind it was owned ahead -/
  have was : ∀ (i : Nat) (g : Fl) (x : D), r'[i]? = some (some (g, x)) → g.own = true → ∃ y, r[i]? = some (some (g, y)) := fun i g x h hg => by
    rcases cases_ i (ltr h) with ⟨p, d, f, y, k, z, v, hx, er, hf, h1, hσ, q, _⟩ | ⟨e, _⟩
    · rw [h] at h1
      cases h1
      rw [ownk f k hf] at hg
      subst hg
      exact ⟨y, er⟩
    · exact ⟨x, by rw [← e]; exact h⟩
  refine ⟨⟨E.len.trans hl.symm, fun i g x h => ?_, fun i j g g' x y a h1 h2 h3 h4 h5 h6 => ?_, hal⟩, ⟨fun a o e n => s.keep a o e fun z => n (lo a z), fun a h n => s.kown a h fun z => n (lo a z), s.news, s.there⟩, fun a ⟨i, g, x, h1, h2, h3⟩ => ?_, fun i g x h hg => ?_, fun a ⟨i, x, h1, h2⟩ => ?_⟩
  · rcases cases_ i (ltr h) with ⟨p, d, f, y, k, z, v, hx, er, hf, h1, hσ, q, _⟩ | ⟨e, nl⟩
    · rw [h] at h1
      cases h1
      refine ⟨v, hσ, ?_⟩
      unfold SlotAt
      unfold ArgAt at q
      rw [ownk f k hf]
      exact q
    · rw [e] at h
      obtain ⟨v, hv, q⟩ := E.sl i g x h
      refine ⟨v, hv, ?_⟩
      unfold SlotAt at q ⊢
      cases hg : g.own with
      | false =>
        rw [hg] at q
        exact q.mono sb
      | true =>
        rw [hg] at q
        obtain ⟨a, rfl, oa, q⟩ := q
        have na : ¬ lentA vs ds a := fun ⟨p, d, h1, h2⟩ => by
          rcases argD_at ha h1 with ⟨_, k⟩ | ⟨j, d', f, e', er, k⟩
          · cases k
          · obtain ⟨u, eu, es⟩ := hr.some_at e'
            rw [h2] at eu
            cases eu
            have hij := E.dj i j g f x _ a h hg hv er k.symm es
            subst hij
            exact nl p _ e' (lentOf_some er k.symm)
        exact ⟨a, rfl, s.kown a oa na, q.mono (fun o z => s.keep a o z na) sb⟩
  · obtain ⟨x', e1⟩ := was i g x h1 h2
    obtain ⟨y', e2⟩ := was j g' y h4 h5
    exact E.dj i j g g' x' y' a e1 h2 h3 e2 h5 h6
  · obtain ⟨x', e1⟩ := was i g x h1 h2
    exact ⟨i, g, x', e1, h2, h3⟩
  · have hi : i < r.length := (List.getElem?_eq_some_iff.mp h).1
    rcases cases_ i hi with ⟨p, d, f, y, k, z, v, hx, er, hf, h1, hσ, q, _⟩ | ⟨e, _⟩
    · rw [h] at er
      cases er
      refine ⟨_, z, h1, ?_⟩
      cases k with
      | true => exact hg
      | false => cases g <;> first | rfl | cases hg
    · exact ⟨g, x, by rw [e]; exact h, hg⟩
  · obtain ⟨x', e1⟩ := was i .ow x h1 rfl
    exact ⟨i, x', e1, h2⟩
end
/-! ### arguments of a call -/
def tAs (W : Wd) (cl : Cal) (wx : WX) (c : CE) : TA := fun σ H Q => ∃ O r, EnvOk W O H σ r ∧ Good (fun as r' => ∀ vs H' O', Aft W σ O H r O' H' r' → ArgRel W σ O' H' vs as → Q vs H') (wishOf W wx σ O H r) (evA cl c r)
section
variable {W : Wd} {cl : Cal} {wx : WX} {X : Cx} {pos : Pos}
theorem tAs.at {c : CE} {σ : L2.St} {H : Hp} {Q : List V → Hp → Prop} {O : Own} {r : Rho} {p : List (Option Nat × D) → Rho → Prop} (E : EnvOk W O H σ r) (h : Good p (wishOf W wx σ O H r) (evA cl c r))
    (k : ∀ as r' vs H' O', p as r' → Aft W σ O H r O' H' r' → ArgRel W σ O' H' vs as → Q vs H') : tAs W cl wx c σ H Q := ⟨O, r, E, h.mono (fun x r' hp v H' O' a q => k x r' v H' O' hp a q) fun _ _ z => z⟩
theorem as_nil : PA X [] (tAs W cl wx .nil) := pa_nil.wk fun σ H Q ⟨O, r, E, h⟩ => h [] H O (.refl E) trivial
theorem as_cons {c t : CE} {e : Expr} {es : List Expr} (h1 : SE W cl wx X c e) (h2 : PA X es (tAs W cl wx t)) (hs : starEach (e :: es) X.env = (false, eval e X.env) :: starEach es X.env) : PA X (e :: es) (tAs W cl wx (.cons c t)) := by
  cases hl : c.late with
  | some i =>
    refine (pa_cons (h1.n i hl) h2 hs).wk fun σ H Q ⟨O, r, E, h⟩ => ?_
    have h : Good _ _ (match c.late with
      | some i => (lift (peek r i) r).bind fun _ r => (evA cl t r).bind fun as r => .ok ((some i, .non) :: as) r
      | none => (ev cl c .val r).bind fun x r => (evA cl t r).bind fun as r => .ok ((none, x.2) :: as) r) := h
    rw [hl] at h
    obtain ⟨d0, e0, h⟩ := good_lift.mp (good_bind.mp h)
    obtain ⟨v, ev, _⟩ := E.peek e0
    refine ⟨v, ev, tAs.at E (good_bind.mp h) fun as r1 vs H1 O1 hp a1 q1 => ?_⟩
    exact hp (v :: vs) H1 O1 a1 ⟨ev, q1⟩
  | none =>
    refine (pa_cons h1.v h2 hs).wk fun σ H Q ⟨O, r, E, h⟩ => ?_
    have h : Good _ _ (match c.late with
      | some i => (lift (peek r i) r).bind fun _ r => (evA cl t r).bind fun as r => .ok ((some i, .non) :: as) r
      | none => (ev cl c .val r).bind fun x r => (evA cl t r).bind fun as r => .ok ((none, x.2) :: as) r) := h
    rw [hl] at h
    refine tV.sh E (good_bind.mp h) fun x r1 v H1 O1 hp a1 q1 => ?_
    refine tAs.at a1.env ((good_bind.mp hp).on E a1) fun as r2 vs H2 O2 hp2 a2 q2 => ?_
    exact hp2 (v :: vs) H2 O2 (a1.trans E a2) ⟨q1.mono (a2.sub a1.env), q2⟩
end
/-! ### defs -/
/-- a def's promise by its code -/
def spF (W : Wd) (cl : Cal) (f : Nat) : Sp := fun vs H Q _ => ∃ O ds, ArgsOk W O H vs ds ∧ match cl f ds with
  | .ok fr d outs => ∀ v H' O', Stp (lentA vs ds) O H O' H' → (∀ a, O' a → ∃ o, H' a = some o) → OutsOk W O' H' vs ds outs → CRes W H O' H' fr d v → Q v H'
  | _ => False
/-- a def that keeps a promise, where no guard is laid -/
structure FnG (P : Program) (w : World) (K : PySem.W.Frag) (mg : Str → Option Value) (base : Heap) (k : Nat) (f : Addr) (fd : FuncData) (ps : List Str) (sp : Sp) : Prop where
  len : ∀ vs H Q E, sp vs H Q E → vs.length = ps.length
  run : ∀ (A : Around) (outer : List PySem.Env) (s : Shared) (H : Hp) (args : Args) (us : List Value) (vs : List V) (Q : VK) (E : XK), Room k A → A.guards = some [] → Env0 P w K mg base A outer s H → BindsTo s fd args (ps.zip us) → Vals vs us → sp vs H Q E →
    codeAny (model P w) A (.call (.ref f) args) (CR CX0 outer P w H s Q E) s
section
variable {W : Wd} {cl : Cal} {wx : WX} {X : Cx} {pos p : Pos} {k : Nat} {f : Addr} {fd : FuncData} {ps : List Str} {sp : Sp} {x : Str}
theorem run_fnG {pins : List (Addr × Obj)} {σ : L2.St} {H : Hp} {s : Shared} {Q : VK} {us : List Value} {vs : List V} (F : FnG X.prog X.w X.K X.mg X.base k f fd ps sp) (hr : Room k X.A) (hg : X.A.guards = some []) (hb : Binds X.K fd ps [])
    (I : Inv X pins σ H s) (r : Vals vs us) (h : sp vs H Q E0) : wpAny (model X.prog X.w) X.A (call (.ref f) us) (EP X pins σ Q) X.xe s := by
  have hl : (us ++ []).length = ps.length := by
    rw [List.append_nil, ← r.length]
    exact F.len _ _ _ _ h
  have hb2 := hb s us I.kIn hl
  rw [List.append_nil] at hb2
  refine wpAny_call (codeAny_mono (F.run X.A X.stack s H ⟨us, []⟩ us vs Q E0 hr hg I.env0 hb2 r h) fun r s' hq => ?_)
  cases r with
  | error e => exact False.elim hq
  | ok fl =>
    cases fl with
    | ret u => exact I.after hq
    | next => exact False.elim hq
    | brk => exact False.elim hq
    | cont => exact False.elim hq
def tCallG (sp : Sp) (t : TA) : TE := fun σ H Q => t σ H fun vs H1 => sp vs H1 Q E0
theorem pe_callG {e : Expr} {es : List Expr} {t : TA} (F : FnG X.prog X.w X.K X.mg X.base k f fd ps sp) (hr : Room k X.A) (hgd : X.A.guards = some []) (hg : Gl X x) (hm : X.mg x = some (.ref f)) (hk : PySem.W.keepIn X.K (.ref f) = true) (hb : Binds X.K fd ps [])
    (ha : PA X (e :: es) t) (hdb : (x == ("__debug__" : Str)) = false) (he : starEach (e :: es) X.env = (false, eval e X.env) :: starEach es X.env) (hpl : (backTo pos (starEach es X.env)).any (·.1) = false) :
    PE X (.Call (.Name x p) (e :: es) [] pos) (tCallG sp t) := by
  refine ⟨fun pins s σ H Q I h => ?_⟩
  refine wpAny_Call_Name_kw (ld_glob I hg hm ?_ hdb)
  refine PySem.W.callWith_K (h₀ := X.base) I.ok.mod.kin hk (thn (ha.run pos pins s σ H _ I h) fun us s1 ⟨vs, H1, I1, r, q⟩ => ⟨I1.kIn, ?_⟩) he hpl
  exact run_fnG F hr hgd hb I1 r q
/-- a call, by data -/
theorem callB_ok {fi : Nat} {as : List (Option Nat × D)} {σ : L2.St} {O : Own} {H : Hp} {r : Rho} {vs : List V} {Q : VK} {p : Bool × D → Rho → Prop} (E : EnvOk W O H σ r) (qa : ArgRel W σ O H vs as) (h : Good p (fun _ _ => False) (callB cl fi as r))
    (k : ∀ x r' v H' O', p x r' → Aft W σ O H r O' H' r' → CRes W H O' H' x.1 x.2 v → Q v H') : spF W cl fi vs H Q E0 := by
  unfold callB at h
  cases ha : argD r as with
  | none =>
    rw [ha] at h
    exact h.elim
  | some ds =>
    rw [ha] at h
    by_cases hd : djA r as = true
    · simp only [hd, if_true] at h
      refine ⟨O, ds, args_ok E qa ha hd, ?_⟩
      cases hc : cl fi ds with
      | no =>
        rw [hc] at h
        exact h.elim
      | ex e outs =>
        rw [hc] at h
        simp only at h
        cases hb : back r as outs r with
        | none =>
          rw [hb] at h
          exact h.elim
        | some r' =>
          rw [hb] at h
          exact h.elim
      | ok fr d outs =>
        rw [hc] at h
        simp only at h
        cases hb : back r as outs r with
        | none =>
          rw [hb] at h
          exact h.elim
        | some r' =>
          rw [hb] at h
          intro v H' O' s hal ho q
          exact k (fr, d) r' v H' O' h (aft_call E qa ha hd s hal ho hb) q
    · simp only [hd] at h
      exact h.elim
theorem callA_ok {fi : Nat} {as : List (Option Nat × D)} {σ : L2.St} {O : Own} {H : Hp} {r : Rho} {vs : List V} {Q : VK} {p : Bool × D → Rho → Prop} (E : EnvOk W O H σ r) (qa : ArgRel W σ O H vs as) (h : Good p (fun _ _ => False) (callA cl fi as r))
    (k : ∀ x r' v H' O', p x r' → Aft W σ O H r O' H' r' → ResAt W H O' H' x.1 x.2 v → Q v H') : spF W cl fi vs H Q E0 :=
  callB_ok E qa (good_bind.mp h) fun x r' v H' O' hp a q => by
    obtain ⟨O2, a2, q2⟩ := cres_flat E a q
    exact k _ r' v H' O2 hp a2 q2
theorem call_coreF {fi : Nat} {c : CE} {σ : L2.St} {H : Hp} {Q : VK} (h : tV W cl wx (.call fi x c) σ H Q) : tCallG (spF W cl fi) (tAs W cl wx c) σ H Q := by
  obtain ⟨O, r, E, q⟩ := h
  refine tAs.at E (good_bind.mp q) fun as r1 vs H1 O1 hp a1 qa => ?_
  exact callA_ok a1.env qa hp fun y r2 z H2 O2 hq a2 q2 => hq z H2 O2 (a1.trans E a2) (q2.back a1.stp)
theorem se_call {fi : Nat} {c : CE} {e : Expr} {es : List Expr} (hW : W = ⟨X.prog, X.w, X.K⟩) (F : FnG X.prog X.w X.K X.mg X.base k f fd ps (spF W cl fi)) (hr : Room k X.A) (hgd : X.A.guards = some []) (hg : Gl X x) (hm : X.mg x = some (.ref f)) (hk : PySem.W.keepIn X.K (.ref f) = true) (hb : Binds X.K fd ps [])
    (ha : PA X (e :: es) (tAs W cl wx c)) (hdb : (x == ("__debug__" : Str)) = false) (he : starEach (e :: es) X.env = (false, eval e X.env) :: starEach es X.env) (hpl : (backTo pos (starEach es X.env)).any (·.1) = false) : SE W cl wx X (.call fi x c) (.Call (.Name x p) (e :: es) [] pos) :=
  SE.leaf ((pe_callG F hr hgd hg hm hk hb ha hdb he hpl).wk fun σ H Q h => call_coreF h) hW rfl (fun _ => rfl) (fun _ => rfl)
end
end Eg
/-! Eg13b: calls without arguments, new instances, methods. -/
namespace Eg
open PySem PySem.Spec PyProof.Rows L2
section
variable {W : Wd} {cl : Cal} {wx : WX} {X : Cx} {pos p : Pos} {k : Nat} {f C : Addr} {fd : FuncData} {ps : List Str} {sp : Sp} {x : Str}
/-! ### no arguments -/
theorem pe_callG0 (F : FnG X.prog X.w X.K X.mg X.base k f fd ps sp) (hr : Room k X.A) (hgd : X.A.guards = some []) (hg : Gl X x) (hm : X.mg x = some (.ref f)) (hk : PySem.W.keepIn X.K (.ref f) = true) (hb : Binds X.K fd ps []) (hdb : (x == ("__debug__" : Str)) = false) :
    PE X (.Call (.Name x p) [] [] pos) (tCallG sp fun _ H Q => Q [] H) :=
  ⟨fun pins s σ H Q I h => wpAny_Call_Name_kw (ld_glob I hg hm (PySem.W.callWith_K0 I.kIn hk (run_fnG (us := []) F hr hgd hb I .nil h)) hdb)⟩
theorem as_none {σ : L2.St} {H : Hp} {Q : List V → Hp → Prop} (h : tAs W cl wx .nil σ H Q) : Q [] H := by
  obtain ⟨O, r, E, h⟩ := h
  exact h [] H O (.refl E) trivial
theorem se_call0 {fi : Nat} (hW : W = ⟨X.prog, X.w, X.K⟩) (F : FnG X.prog X.w X.K X.mg X.base k f fd ps (spF W cl fi)) (hr : Room k X.A) (hgd : X.A.guards = some []) (hg : Gl X x) (hm : X.mg x = some (.ref f)) (hk : PySem.W.keepIn X.K (.ref f) = true) (hb : Binds X.K fd ps [])
    (hdb : (x == ("__debug__" : Str)) = false) : SE W cl wx X (.call fi x .nil) (.Call (.Name x p) [] [] pos) :=
  SE.leaf ((pe_callG0 F hr hgd hg hm hk hb hdb).wk fun σ H Q h => as_none (call_coreF h)) hW rfl (fun _ => rfl) (fun _ => rfl)
/-! ### a new instance -/
/-- what the __init__ is asked -/
def mkQ (C : Addr) (sp : Sp) (Q : VK) (vs : List V) (H : Hp) : Prop := ∀ y dy, H y = none → H dy = none → dy ≠ y → sp (.ref y :: vs) (upd (upd H dy (.own y)) y (.ins C dy [])) (fun v H2 => v = .non ∧ Q (.ref y) H2) E0
theorem run_mk {pins : List (Addr × Obj)} {σ : L2.St} {H : Hp} {s : Shared} {Q : VK} {us : List Value} {vs : List V} (M : Mk X.K C f) (F : FnG X.prog X.w X.K X.mg X.base k f fd ps sp) (hr : Room (k + 1) X.A) (hgd : X.A.guards = some []) (hb : Binds X.K fd ps [])
    (I : Inv X pins σ H s) (rv : Vals vs us) (h : mkQ C sp Q vs H) : wpAny (model X.prog X.w) X.A (call (.ref C) us) (EP X pins σ Q) X.xe s := by
  have J := Inv.made (C := C) I
  have q0 := h (s.heap.objs.size + 1) s.heap.objs.size (I.hok.fresh (Nat.le_succ _)) (I.hok.fresh (Nat.le_refl _)) (Nat.ne_of_lt (Nat.lt_succ_self _))
  have r2 : Vals (V.ref (s.heap.objs.size + 1) :: vs) (Value.ref (s.heap.objs.size + 1) :: us) := .cons rfl rv
  have hn : (Value.ref (s.heap.objs.size + 1) :: us ++ []).length = ps.length := by
    rw [List.append_nil, ← r2.length]
    exact F.len _ _ _ _ q0
  have hb2 := hb _ (Value.ref (s.heap.objs.size + 1) :: us) J.kIn hn
  rw [List.append_nil] at hb2
  have run := F.run _ X.stack _ _ ⟨Value.ref (s.heap.objs.size + 1) :: us, []⟩ _ _ _ E0 (hr.make C us []) hgd (J.env0.make C us []) hb2 r2 q0
  refine wpAny_call (make_map (f := f) I.kIn M.makes M.init (beq_iff_eq.mp M.fn) (codeAny_mono run fun res s2 q2 => ?_))
  match res, q2 with
  | .ok (.ret u), q2 =>
    obtain ⟨v, H2, I2, r3, e3, q3⟩ := J.after q2
    subst e3
    exact ⟨r3, V.ref (s.heap.objs.size + 1), H2, I2, rfl, q3⟩
  | .ok .next, q2 => exact False.elim q2
  | .ok .brk, q2 => exact False.elim q2
  | .ok .cont, q2 => exact False.elim q2
  | .error e, q2 => exact False.elim q2
theorem pe_mkG {e : Expr} {es : List Expr} {t : TA} (M : Mk X.K C f) (F : FnG X.prog X.w X.K X.mg X.base k f fd ps sp) (hr : Room (k + 1) X.A) (hgd : X.A.guards = some []) (hb : Binds X.K fd ps []) (hg : Gl X x) (hm : X.mg x = some (.ref C)) (hdb : (x == ("__debug__" : Str)) = false)
    (ha : PA X (e :: es) t) (he : starEach (e :: es) X.env = (false, eval e X.env) :: starEach es X.env) (hpl : (backTo pos (starEach es X.env)).any (·.1) = false) : PE X (.Call (.Name x p) (e :: es) [] pos) (fun σ H Q => t σ H fun vs H1 => mkQ C sp Q vs H1) :=
  ⟨fun pins s σ H Q I h => wpAny_Call_Name_kw (ld_glob I hg hm (PySem.W.callWith_K (h₀ := X.base) I.ok.mod.kin M.kp (thn (ha.run pos pins s σ H _ I h) fun us s1 ⟨vs, H1, I1, r, q⟩ => ⟨I1.kIn, run_mk M F hr hgd hb I1 r q⟩) he hpl) hdb)⟩
theorem pe_mkG0 (M : Mk X.K C f) (F : FnG X.prog X.w X.K X.mg X.base k f fd ps sp) (hr : Room (k + 1) X.A) (hgd : X.A.guards = some []) (hb : Binds X.K fd ps []) (hg : Gl X x) (hm : X.mg x = some (.ref C)) (hdb : (x == ("__debug__" : Str)) = false) :
    PE X (.Call (.Name x p) [] [] pos) (fun σ H Q => mkQ C sp Q [] H) :=
  ⟨fun pins s σ H Q I h => wpAny_Call_Name_kw (ld_glob I hg hm (PySem.W.callWith_K0 I.kIn M.kp (run_mk (us := []) M F hr hgd hb I .nil h)) hdb)⟩
theorem made_ok {y : COut} {fr : Bool} {d : D} {outs : List (Bool × D)} (h : made y = .ok fr d outs) : ∃ fr0, y = .ok fr0 .non ((fr, d) :: outs) := by
  cases y with
  | ok a b c =>
    cases b with
    | non =>
      cases c with
      | nil => cases h
      | cons z t =>
        obtain ⟨z1, z2⟩ := z
        cases h
        exact ⟨a, rfl⟩
    | _ => cases h
  | ex e c => cases c <;> cases h
  | no => cases h
/-- the class's promise, from that of its __init__ -/
theorem mk_core {cl' : Cal} {c g Ci : Nat} {vs : List V} {H : Hp} {Q : VK} (kls : KlsOk W.K (ca W Ci)) (hc : ∀ ds, cl c ds = made (cl' g ((true, .ins Ci []) :: ds))) (h : spF W cl c vs H Q E0) : mkQ (ca W Ci) (spF W cl' g) Q vs H := by
  obtain ⟨O, ds, A, h⟩ := h
  rw [hc ds] at h
  intro y dy ny ndy ne
  cases hm : made (cl' g ((true, .ins Ci []) :: ds)) with
  | no =>
    rw [hm] at h
    exact h.elim
  | ex e outs =>
    rw [hm] at h
    exact h.elim
  | ok fr d outs =>
    rw [hm] at h
    obtain ⟨fr0, ec⟩ := made_ok hm
    have grow : ∀ a o, H a = some o → (upd (upd H dy (.own y)) y (.ins (ca W Ci) dy [])) a = some o := fun a o e => by
      rw [upd_ne (ne_of_none e ny), upd_ne (ne_of_none e ndy)]
      exact e
    have nO : ∀ a, O a → a ≠ y := fun a ha e => by
      obtain ⟨o, z⟩ := A.al a ha
      rw [e, ny] at z
      cases z
    have sb : Sub (mns H O) (mns (upd (upd H dy (.own y)) y (.ins (ca W Ci) dy [])) fun b => O b ∨ b = y) := fun a o e => by
      obtain ⟨n1, e1⟩ := mns_some.mp e
      exact mns_some.mpr ⟨fun z => z.elim n1 (ne_of_none e1 ny), grow a o e1⟩
    have lent2 : ∀ a, lentA (.ref y :: vs) ((true, .ins Ci []) :: ds) a → a = y ∨ lentA vs ds a := fun a ⟨i, d, h1, h2⟩ => by
      cases i with
      | zero =>
        simp at h2
        exact .inl h2.symm
      | succ i => exact .inr ⟨i, d, by simpa using h1, by simpa using h2⟩
    refine ⟨fun b => O b ∨ b = y, (true, .ins Ci []) :: ds, ⟨by simp [A.len], fun i v z h1 h2 => ?_, fun i j a d e h1 h2 h3 h4 => ?_, fun a ha => ?_⟩, ?_⟩
    · cases i with
      | zero =>
        simp at h1 h2
        subst h1 h2
        exact ⟨y, rfl, .inr rfl, kls, dy, [], upd_same, .nil⟩
      | succ i =>
        have q := A.at_ i v z (by simpa using h1) (by simpa using h2)
        obtain ⟨z1, z2⟩ := z
        cases z1 with
        | false => exact Rp.mono sb q
        | true =>
          obtain ⟨a, e, oa, q⟩ := q
          exact ⟨a, e, .inl oa, q.mono (fun o z => grow a o z) sb⟩
    · have key : ∀ (m : Nat) (z : D), ds[m]? = some (true, z) → vs[m]? = some (.ref y) → False := fun m z h1 h2 => by
        obtain ⟨b, e, ob, _⟩ := A.at_ m (.ref y) (true, z) h2 h1
        cases e
        exact nO y ob rfl
      cases i with
      | zero =>
        cases j with
        | zero => rfl
        | succ j =>
          simp at h2
          subst h2
          exact (key j e (by simpa using h3) (by simpa using h4)).elim
      | succ i =>
        cases j with
        | zero =>
          simp at h4
          subst h4
          exact (key i d (by simpa using h1) (by simpa using h2)).elim
        | succ j => rw [A.dj i j a d e (by simpa using h1) (by simpa using h2) (by simpa using h3) (by simpa using h4)]
    · rcases ha with ha | ha
      · obtain ⟨o, e⟩ := A.al a ha
        exact ⟨o, grow a o e⟩
      · exact ⟨_, by rw [ha, upd_same]⟩
    · rw [ec]
      intro v H' O' st al ou q
      have ev : v = .non := by
        cases fr0 with
        | false =>
          cases (show Rp W (mns H' O') v .non from q)
          rfl
        | true =>
          obtain ⟨_, _, _, _, q⟩ := (show ResAt W _ O' H' true .non v from q)
          exact q.elim
      refine ⟨ev, ?_⟩
      obtain ⟨z, ez, qz⟩ := ou 0 (.ins Ci []) (.ref y) rfl rfl
      have ez : (fr, d) = z := by simpa using ez
      subst ez
      refine h (.ref y) H' O' ⟨fun a o e n => ?_, fun a oa n => ?_, fun a oa => ?_, fun a ⟨o, e⟩ => st.there a ⟨o, grow a o e⟩⟩ al (fun i d v h1 h2 => ?_) ?_
      · exact st.keep a o (grow a o e) fun z => (lent2 a z).elim (ne_of_none e ny) n
      · exact st.kown a (.inl oa) fun z => (lent2 a z).elim (nO a oa) n
      · rcases st.news a oa with (z | z) | z
        · exact .inl z
        · exact .inr (by rw [z]; exact ny)
        · refine .inr ?_
          cases e : H a with
          | none => rfl
          | some o =>
            rw [grow a o e] at z
            cases z
      · obtain ⟨w, ew, qw⟩ := ou (i + 1) d v (by simpa using h1) (by simpa using h2)
        exact ⟨w, by simpa using ew, qw⟩
      · cases fr with
        | false => exact qz
        | true =>
          obtain ⟨a, e, oa, qa⟩ := qz
          cases e
          cases d with
          | tp ps => exact qa.elim
          | _ => exact ⟨y, rfl, oa, ny, qa⟩
theorem se_mk {cl' : Cal} {c g Ci : Nat} {co : CE} {e : Expr} {es : List Expr} (hW : W = ⟨X.prog, X.w, X.K⟩) (kls : KlsOk W.K (ca W Ci)) (hc : ∀ ds, cl c ds = made (cl' g ((true, .ins Ci []) :: ds))) (M : Mk X.K (ca W Ci) f) (F : FnG X.prog X.w X.K X.mg X.base k f fd ps (spF W cl' g)) (hr : Room (k + 1) X.A)
    (hgd : X.A.guards = some []) (hb : Binds X.K fd ps []) (hg : Gl X x) (hm : X.mg x = some (.ref (ca W Ci))) (hdb : (x == ("__debug__" : Str)) = false) (ha : PA X (e :: es) (tAs W cl wx co)) (he : starEach (e :: es) X.env = (false, eval e X.env) :: starEach es X.env)
    (hpl : (backTo pos (starEach es X.env)).any (·.1) = false) : SE W cl wx X (.call c x co) (.Call (.Name x p) (e :: es) [] pos) := by
  refine SE.leaf ((pe_mkG M F hr hgd hb hg hm hdb ha he hpl).wk fun σ H Q h => ?_) hW rfl (fun _ => rfl) (fun _ => rfl)
  obtain ⟨O, r, E, q⟩ := call_coreF h
  exact ⟨O, r, E, q.mono (fun as r' hp vs H' O' a qa => mk_core kls hc (hp vs H' O' a qa)) fun _ _ z => z⟩
theorem se_mk0 {cl' : Cal} {c g Ci : Nat} (hW : W = ⟨X.prog, X.w, X.K⟩) (kls : KlsOk W.K (ca W Ci)) (hc : ∀ ds, cl c ds = made (cl' g ((true, .ins Ci []) :: ds))) (M : Mk X.K (ca W Ci) f) (F : FnG X.prog X.w X.K X.mg X.base k f fd ps (spF W cl' g)) (hr : Room (k + 1) X.A)
    (hgd : X.A.guards = some []) (hb : Binds X.K fd ps []) (hg : Gl X x) (hm : X.mg x = some (.ref (ca W Ci))) (hdb : (x == ("__debug__" : Str)) = false) : SE W cl wx X (.call c x .nil) (.Call (.Name x p) [] [] pos) :=
  SE.leaf ((pe_mkG0 M F hr hgd hb hg hm hdb).wk fun σ H Q h => mk_core kls hc (as_none (call_coreF h))) hW rfl (fun _ => rfl) (fun _ => rfl)
end
/-! ### methods -/
/-- a method of a class, by what it keeps -/
structure MetG (X : Cx) (k : Nat) (C : Addr) (m : Str) (sp : Sp) : Prop where
  cls : Cls X.K C
  at_ : ∃ f fd ps, Meth X.K C m f ∧ FnG X.prog X.w X.K X.mg X.base k f fd ps sp ∧ Binds X.K fd ps []
section
variable {W : Wd} {cl : Cal} {wx : WX} {X : Cx} {pos apos : Pos} {k : Nat} {m : Str} {o e : Expr} {es : List Expr} {ta : TE} {t : TA}
def tMetG (X : Cx) (k : Nat) (m : Str) (ta : TE) (t : TA) : TE := fun σ H Q => ta σ H fun x H1 => ∃ a C dx fs sp, x = .ref a ∧ H1 a = some (.ins C dx fs) ∧ fs.lookup m = none ∧ MetG X k C m sp ∧ t σ H1 fun vs H2 => sp (x :: vs) H2 Q E0
theorem pe_metG {pl : Sem Bool} (ho : PE X o ta) (hr : Room k X.A) (hgd : X.A.guards = some []) (ha : PA X (e :: es) t) (hst : starEach (e :: es) X.env = (false, eval e X.env) :: starEach es X.env) (hpl : (backTo pos (starEach es X.env)).any (·.1) = false)
    (ht : eval (.Call (.Attribute o m apos) (e :: es) [] pos) X.env = (do
      let ov ← eval o X.env
      standAt apos.atName
      let (f, first) ← holding [ov] (getMethod ov m pl)
      callWith pos f first (backTo pos (starEach (e :: es) X.env)) (backToKw pos (keywordEach [] X.env)))) : PE X (.Call (.Attribute o m apos) (e :: es) [] pos) (tMetG X k m ta t) := by
  refine ⟨fun pins s σ H Q I h => PySem.W.methodCall_KW (pl := pl) (thn (ho.run pins s σ H _ I h) fun u s1 hu => ?_) ht⟩
  obtain ⟨x, H1, I1, rx, a, C, dx, fs, sp, ex, ea, l, ⟨c, f, fd, ps, hm, F, hb⟩, q⟩ := hu
  subst ex
  cases (show u = Value.ref a from rx)
  refine getmeth_ok I1 ea c hm l (PySem.W.callWith_K (first := [.ref a]) (h₀ := X.base) I.ok.mod.kin hm.kp (thn (ha.run pos pins s1 σ H1 _ I1 q) fun us s2 ⟨vs, H2, I2, r, q2⟩ => ⟨I2.kIn, ?_⟩) hst hpl)
  exact run_fnG (us := .ref a :: us) (vs := .ref a :: vs) F hr hgd hb I2 (.cons rfl r) q2
theorem pe_metG0 {pl : Sem Bool} (ho : PE X o ta) (hr : Room k X.A) (hgd : X.A.guards = some [])
    (ht : eval (.Call (.Attribute o m apos) [] [] pos) X.env = (do
      let ov ← eval o X.env
      standAt apos.atName
      let (f, first) ← holding [ov] (getMethod ov m pl)
      callWith pos f first (backTo pos (starEach [] X.env)) (backToKw pos (keywordEach [] X.env)))) : PE X (.Call (.Attribute o m apos) [] [] pos) (tMetG X k m ta fun _ H Q => Q [] H) := by
  refine ⟨fun pins s σ H Q I h => PySem.W.methodCall_KW (pl := pl) (thn (ho.run pins s σ H _ I h) fun u s1 hu => ?_) ht⟩
  obtain ⟨x, H1, I1, rx, a, C, dx, fs, sp, ex, ea, l, ⟨c, f, fd, ps, hm, F, hb⟩, q⟩ := hu
  subst ex
  cases (show u = Value.ref a from rx)
  exact getmeth_ok I1 ea c hm l (PySem.W.callWith_K0 (first := [.ref a]) I1.kIn hm.kp (run_fnG (us := [.ref a]) (vs := [.ref a]) F hr hgd hb I1 (.cons rfl .nil) q))
theorem methOf_ok {ms : List (Addr × Nat)} {m : Str} {x : D} {f : Nat} (h : methOf ms m x = some f) : ∃ C fs, x = .ins C fs ∧ getF fs m = none ∧ ms.lookup C = some f := by
  cases x with
  | ins C fs =>
    have h : (if (getF fs m).isNone = true then ms.lookup C else none) = some f := h
    by_cases hc : (getF fs m).isNone = true
    · rw [if_pos hc] at h
      exact ⟨C, fs, rfl, Option.isNone_iff_eq_none.mp hc, h⟩
    · rw [if_neg hc] at h
      cases h
  | _ => cases h
/-- the tree of a method call -/
def plainCall (o : Expr) (m : Str) (apos : Pos) (args : List Expr) (pos : Pos) (env : PySem.Env) : Prop := ∃ pl : Sem Bool, eval (.Call (.Attribute o m apos) args [] pos) env = (do
  let ov ← eval o env
  standAt apos.atName
  let (f, first) ← holding [ov] (getMethod ov m pl)
  callWith pos f first (backTo pos (starEach args env)) (backToKw pos (keywordEach [] env)))
theorem metG_core {ms : List (Addr × Nat)} {co c : CE} {Q : VK} {σ : L2.St} {H : Hp} {t : TA} (hm : ∀ C f, ms.lookup C = some f → MetG X k (ca W C) m (spF W cl f)) (ht : ∀ σ H Q, tAs W cl wx c σ H Q → t σ H Q) (h : tV W cl wx (.meth ms m co c) σ H Q) :
    tMetG X k m (tA1 W cl wx co) t σ H Q := by
  obtain ⟨O, r, E, q⟩ := h
  have q : Good _ _ (match co.late with
    | some i => (lift (peek r i) r).bind fun x r => (lift (methOf ms m x) r).bind fun f r => (evA cl c r).bind fun as r => callA cl f ((some i, .non) :: as) r
    | none => (ev cl co .val r).bind fun x r => (lift (methOf ms m x.2) r).bind fun f r => (evA cl c r).bind fun as r => callA cl f ((none, x.2) :: as) r) := q
  unfold tMetG tA1
  cases hl : co.late with
  | some i =>
    rw [hl] at q
    obtain ⟨x, e1, qa1⟩ := good_lift.mp (good_bind.mp q)
    obtain ⟨f, e2, qa2⟩ := good_lift.mp (good_bind.mp qa1)
    obtain ⟨C, fs, ex, e3, e4⟩ := methOf_ok e2
    rw [ex] at e1
    obtain ⟨v, ev, qv⟩ := E.peek e1
    obtain ⟨a, dx, vs, rfl, _, ea, l⟩ := qv.ins
    refine ⟨.ref a, ev, a, ca W C, dx, vs, spF W cl f, rfl, ea, l.none e3, hm C f e4, ht _ _ _ (tAs.at E (good_bind.mp qa2) fun as r1 us H1 O1 hp a1 qa => ?_)⟩
    exact callA_ok a1.env (as := (some i, .non) :: as) ⟨ev, qa⟩ hp fun y r2 z H2 O2 hq a2 q2 => hq z H2 O2 (a1.trans E a2) (q2.back a1.stp)
  | none =>
    rw [hl] at q
    refine tV.sh E (good_bind.mp q) fun x r0 v H0 O0 hp0 a0 q0 => ?_
    obtain ⟨f, e2, q⟩ := good_lift.mp (good_bind.mp hp0)
    obtain ⟨C, fs, ex, e3, e4⟩ := methOf_ok e2
    have q0b : Rb W O0 H0 v (.ins C fs) := by
      rw [← ex]
      exact .inl q0
    obtain ⟨a, dx, vs, rfl, _, ea, l⟩ := q0b.ins
    refine ⟨a, ca W C, dx, vs, spF W cl f, rfl, ea, l.none e3, hm C f e4, ht _ _ _ (tAs.at a0.env ((good_bind.mp q).on E a0) fun as r1 us H1 O1 hp a1 qa => ?_)⟩
    have a01 := a0.trans E a1
    exact callA_ok a01.env (as := (none, x.2) :: as) ⟨q0.mono (a1.sub a0.env), qa⟩ hp fun y r2 z H2 O2 hq a2 q2 => hq z H2 O2 (a01.trans E a2) (q2.back a01.stp)
theorem se_meth {ms : List (Addr × Nat)} {co c : CE} (hW : W = ⟨X.prog, X.w, X.K⟩) (ho : SE W cl wx X co o) (hr : Room k X.A) (hgd : X.A.guards = some []) (hm : ∀ C f, ms.lookup C = some f → MetG X k (ca W C) m (spF W cl f)) (ha : PA X (e :: es) (tAs W cl wx c))
    (hst : starEach (e :: es) X.env = (false, eval e X.env) :: starEach es X.env) (hpl : (backTo pos (starEach es X.env)).any (·.1) = false) (ht : plainCall o m apos (e :: es) pos X.env) : SE W cl wx X (.meth ms m co c) (.Call (.Attribute o m apos) (e :: es) [] pos) := by
  obtain ⟨pl, ht⟩ := ht
  exact SE.leaf ((pe_metG ho.a1 hr hgd ha hst hpl ht).wk fun σ H Q h => metG_core hm (fun _ _ _ z => z) h) hW rfl (fun _ => rfl) (fun _ => rfl)
theorem se_meth0 {ms : List (Addr × Nat)} {co : CE} (hW : W = ⟨X.prog, X.w, X.K⟩) (ho : SE W cl wx X co o) (hr : Room k X.A) (hgd : X.A.guards = some []) (hm : ∀ C f, ms.lookup C = some f → MetG X k (ca W C) m (spF W cl f))
    (ht : plainCall o m apos [] pos X.env) : SE W cl wx X (.meth ms m co .nil) (.Call (.Attribute o m apos) [] [] pos) := by
  obtain ⟨pl, ht⟩ := ht
  exact SE.leaf ((pe_metG0 ho.a1 hr hgd ht).wk fun σ H Q h => metG_core hm (fun _ _ _ z => as_none z) h) hW rfl (fun _ => rfl) (fun _ => rfl)
end
end Eg
/-! EgU: special methods of own classes: len(x), x[k], x == y, x != y. -/
namespace Eg
open PySem PySem.Spec PyProof.Rows L2
section
open PySem.W
variable {prog : Program} {w : World} {A : Around} {E : Value → Shared → Prop} {s : Shared} {K : PySem.W.Frag} {x C L f : Addr} {h₀ : Heap} {m : Str → Option Value} {ox : Obj} {od : Option Obj} {b tb : Value}
theorem ne_K {Q : Value → Shared → Prop} (hu : A.units < cLine) (hu1 : A.in1.units < cLine) (F : Fr h₀ L s.heap m) (X₀ : K.In h₀) (I : InstAt s.heap x ox C od) (hb : Looks (model prog w) s.heap (typeOf b) tb) (hn : notFirst K C tb = true)
    (hne : findIn K (.ref C) "__ne__" = some (some (.builtin "object.__ne__"))) (hob : subIn K (.ref C) (.type "object") = some true)
    (hs : findIn K (.ref C) "__eq__" = some (some (.ref f))) (hf : isFn K (.ref f) = true)
    (h : wpAny (model prog w) A.in1 (call (.ref f) [.ref x, b]) (fun v s' => ∃ k, v = .bool k ∧ Q (.bool (!k)) s') E s) : wpAny (model prog w) A (richCompare .NotEq (.ref x) b) Q E s := by
  have X := X₀.keeps F.keep
  have S := PySem.F.cmp_object.ne
  have hcall : wpAny (model prog w) A (call (.builtin "object.__ne__") [.ref x, b]) (fun v s' => ∃ k, v = .bool k ∧ Q v s') E s := by
    refine wpAny_call (codeAny_call_builtin S.plain PySem.F.cmpEntry_ne ?_)
    simp only [checkBuiltinCall, PySem.F.cmpKind_ne, PySem.F.cmpSplit_ne]
    refine wpAny_bind ?_
    unfold isInstance
    refine wpAny_bind (I.type.here ((looks_subIn X hob).here ?_))
    have ha := PySem.F.cmpArgs_ne (.ref x) b
    have hbody : wpAny (model prog w) A.in1 (Builtin.«object.__ne__» ⟨[.ref x, b], []⟩) (fun fin s' => match fin with
        | .done f => wants (fun v s' => ∃ k, v = .bool k ∧ Q v s') E (.ok f) s'
        | .again c' => c'.quiet = true ∧ codeAny (model prog w) A c' (wants (fun v s' => ∃ k, v = .bool k ∧ Q v s') E) s') (fun e s' => wants (fun v s' => ∃ k, v = .bool k ∧ Q v s') E (.error e) s') s := by
      unfold Builtin.«object.__ne__»
      refine wpAny_bind (m := slotArgs "__ne__" 1 _) (wpAny_pure ?_)
      refine wpAny_bind (wpAny_cRoomFor hu1 ?_)
      refine wpAny_bind (ifBound_K X I hs hf (wpAny_mono h (fun v s' hv => ?_) fun _ _ e => e))
      obtain ⟨k, rfl, q⟩ := hv
      exact wpAny_bind (wpAny_pure (wpAny_pure ⟨_, rfl, q⟩))
    cases hsig : Manifest.signature? "object.__ne__" with
    | none => exact wpAny_pure hbody
    | some sig =>
      simp only [argsOk, hsig] at ha
      have h2 : Bind.checkArgs "object.__ne__" sig ⟨[.ref x, b], []⟩ = pure () := ha
      show wpAny _ _ (Bind.checkArgs "object.__ne__" sig ⟨[.ref x, b], []⟩) _ _ _
      rw [h2]
      exact wpAny_pure hbody
  have one : wpAny (model prog w) A (tryCompare (.ref x) (cmpInfo .NotEq).2.1 b) (fun r s' => ∃ v, r = some v ∧ Q v s') E s := by
    unfold tryCompare
    refine wpAny_bind ?_
    simp only [callSpecialIfBound?, bindSpecialIfBound?]
    refine wpAny_holding (wpAny_bind (wpAny_bind (wpAny_bind (I.type.here ((looks_findIn X hne).here ?_)))))
    simp only [S.bind]
    refine wpAny_bind (wpAny_askSetting (wpAny_ite ?_))
    have fin : wpAny (model prog w) A (call (.builtin "object.__ne__") ([.ref x] ++ [b]) >>= fun v => pure (some v)) (fun r s' => wpAny (model prog w) A (match r with
        | some .notImplemented | none => pure none
        | some v => pure (some v)) (fun r s' => ∃ v, r = some v ∧ Q v s') E s') E s :=
      wpAny_bind (wpAny_mono hcall (fun v s' ⟨k, e, q⟩ => by subst e; exact wpAny_pure (wpAny_pure ⟨_, rfl, q⟩)) fun _ _ h' => h')
    split
    · exact wpAny_bind (wpAny_pure (wpAny_pure fin))
    · exact wpAny_tryCatch (wpAny_bind (wpAny_pure (wpAny_pure fin)))
  unfold richCompare
  simp only [oneThing_ref]
  refine wpAny_holding (wpAny_bind (wpAny_cRoomFor hu ?_))
  refine wpAny_bind (I.type.here (wpAny_bind (hb.here ?_)))
  split
  · rename_i q
    have e : subIn K tb (.ref C) = some false := by
      rcases Bool.or_eq_true_iff.mp hn with e | e
      · rw [beq_iff_eq.mp e] at q; simp at q
      · exact beq_iff_eq.mp e
    refine wpAny_bind ((looks_subIn X e).here ?_)
    simp only [Bool.false_eq_true, if_false]
    refine wpAny_bind (wpAny_mono one (fun r s' z => ?_) fun _ _ e => e)
    obtain ⟨v, rfl, hq⟩ := z
    exact wpAny_pure hq
  · refine wpAny_bind (wpAny_pure ?_)
    simp only [Bool.false_eq_true, if_false]
    refine wpAny_bind (wpAny_mono one (fun r s' z => ?_) fun _ _ e => e)
    obtain ⟨v, rfl, hq⟩ := z
    exact wpAny_pure hq
end
/-- a special method of a class, by what it keeps -/
structure MetD (X : Cx) (k : Nat) (C : Addr) (m : Str) (sp : Sp) : Prop where
  at_ : ∃ f fd ps, Meth X.K C m f ∧ PySem.W.fnIn X.K f = true ∧ FnG X.prog X.w X.K X.mg X.base k f fd ps sp ∧ Binds X.K fd ps []
/-- what is asked of a class with an own == -/
structure DunK (W : Wd) (Cs : List Addr) (C : Nat) : Prop where
  ty : ∀ t : String, t ∈ ["NoneType", "str", "int", "bool", "tuple", "list", "dict"] → PySem.W.subIn W.K (.type t) (.ref (ca W C)) = some false
  ks : ∀ C' ∈ Cs, PySem.W.notFirst W.K (ca W C) (.ref (ca W C')) = true
  ne : PySem.W.findIn W.K (.ref (ca W C)) "__ne__" = some (some (.builtin "object.__ne__"))
  ob : PySem.W.subIn W.K (.ref (ca W C)) (.type "object") = some true
section
variable {W : Wd} {cl : Cal} {wx : WX} {X : Cx} {pos p : Pos} {k : Nat} {f C : Addr} {fd : FuncData} {ps : List Str} {sp : Sp} {x : Str}
theorem run_fnG1 {pins : List (Addr × Obj)} {σ : L2.St} {H : Hp} {s : Shared} {Q : VK} {us : List Value} {vs : List V} (F : FnG X.prog X.w X.K X.mg X.base k f fd ps sp) (hr : Room k X.A.in1) (hg : X.A.guards = some []) (hb : Binds X.K fd ps [])
    (I : Inv X pins σ H s) (r : Vals vs us) (h : sp vs H Q E0) : wpAny (model X.prog X.w) X.A.in1 (call (.ref f) us) (EP X pins σ Q) X.xe s := by
  have hl : (us ++ []).length = ps.length := by
    rw [List.append_nil, ← r.length]
    exact F.len _ _ _ _ h
  have hb2 := hb s us I.kIn hl
  rw [List.append_nil] at hb2
  have e0 : Env0 X.prog X.w X.K X.mg X.base X.A.in1 X.stack s H := by
    have e := I.env0
    exact ⟨e.frames, e.mod, e.bs, e.bsz, e.funs, e.frf, e.hok, e.bare⟩
  refine wpAny_call (codeAny_mono (F.run X.A.in1 X.stack s H ⟨us, []⟩ us vs Q E0 hr hg e0 hb2 r h) fun r s' hq => ?_)
  cases r with
  | error e => exact False.elim hq
  | ok fl =>
    cases fl with
    | ret u => exact I.after hq
    | next => exact False.elim hq
    | brk => exact False.elim hq
    | cont => exact False.elim hq
theorem Room.of1 {k : Nat} {A : Around} (r : Room k A.in1) : Room k A := ⟨r.hd, r.dp, by have := r.un; show A.units + 16 * k + 200 < cLine; have : A.units + 1 + 16 * k + 200 < cLine := this; omega⟩
/-! ### the rules -/
def rItm (X : Cx) (k : Nat) : R2 := fun x y H Q => ∃ a C dx fs sp, x = .ref a ∧ H a = some (.ins C dx fs) ∧ MetD X k C "__getitem__" sp ∧ sp [x, y] H Q E0
theorem pe_itm {a b : Expr} {ta tb : TE} (hr : Room k X.A.in1) (hg : X.A.guards = some []) (ha : PE X a ta) (hb : PE X b tb) (hs : ∀ o i, subscripted b true o i = runValue (.builtin "lifetime.subscript" ⟨[o, i], []⟩)) : PE X (.Subscript a b pos) (tOp (rItm X k) ta tb) := by
  refine ⟨fun pins s σ H Q I h => ?_⟩
  refine Subscript_ (binT ha hb I h fun v u s2 x y H2 I2 rx ry q => ?_)
  obtain ⟨a, C, dx, fs, sp, rfl, ea, ⟨f, fd, ps, hm, hfn, F, hbd⟩, q⟩ := q
  cases rx
  obtain ⟨mA, J, _⟩ := ins_get I2.hok ea
  obtain ⟨od, J, _⟩ := J.look
  obtain ⟨m, hF⟩ := I2.fr
  exact PySem.W.sub_K hF I2.ok.mod.kin J hm.at_ hfn hm.fn (run_fnG1 (us := [.ref a, u]) (vs := [.ref a, y]) F hr hg hbd I2 (.cons rfl (.cons ry .nil)) q) (hs _ _)
def rLen (X : Cx) (k : Nat) : List V → Hp → VK → Prop := fun xs H Q => ∃ a C dx fs sp, xs = [.ref a] ∧ H a = some (.ins C dx fs) ∧ MetD X k C "__len__" sp ∧ sp [.ref a] H (fun z H2 => ∃ n : Int, z = .int n ∧ (0 ≤ n ∧ n < 2 ^ 63) ∧ Q (.int n) H2) E0
theorem cr_dlen (hr : Room k X.A.in1) (hg : X.A.guards = some []) : CallR X (.builtin "len") (rLen X k) := by
  intro pins s σ H xs us Q I rx q
  obtain ⟨a, C, dx, fs, sp, rfl, ea, ⟨f, fd, ps, hm, hfn, F, hbd⟩, q⟩ := q
  obtain ⟨mA, J, _⟩ := ins_get I.hok ea
  obtain ⟨od, J, _⟩ := J.look
  obtain ⟨m, hF⟩ := I.fr
  cases rx with
  | cons r0 r1 =>
    cases r1
    cases r0
    refine PySem.W.len_K hF I.ok.mod.kin J hm.at_ hm.fn (wpAny_mono (run_fnG1 (us := [.ref a]) (vs := [.ref a]) F hr hg hbd I (.cons rfl .nil) q) (fun v s' z => ?_) fun _ _ z => z)
    obtain ⟨z, H2, I2, rz, n, rfl, hn, hq⟩ := z
    obtain ⟨t, rfl⟩ := rz
    exact ⟨hn, .int n, H2, I2.tok _, ⟨_, rfl⟩, hq⟩
def rDeq (X : Cx) (k : Nat) : R2 := fun x y H Q => ∃ a C dx fs sp t, x = .ref a ∧ H a = some (.ins C dx fs) ∧ MetD X k C "__eq__" sp ∧ TyX X.K H y t ∧ PySem.W.notFirst X.K C t = true ∧ sp [x, y] H (fun z H2 => ∃ b, z = .bl b ∧ Q (.bl b) H2) E0
def rDne (X : Cx) (k : Nat) : R2 := fun x y H Q => ∃ a C dx fs sp t, x = .ref a ∧ H a = some (.ins C dx fs) ∧ MetD X k C "__eq__" sp ∧ TyX X.K H y t ∧ PySem.W.notFirst X.K C t = true ∧ PySem.W.findIn X.K (.ref C) "__ne__" = some (some (.builtin "object.__ne__")) ∧
  PySem.W.subIn X.K (.ref C) (.type "object") = some true ∧ sp [x, y] H (fun z H2 => ∃ b, z = .bl b ∧ Q (.bl (!b)) H2) E0
theorem ty_look {pins : List (Addr × Obj)} {σ : L2.St} {H : Hp} {s : Shared} {y : V} {u t : Value} (I : Inv X pins σ H s) (ry : RelV y u) (ty : TyX X.K H y t) : PySem.W.Looks (model X.prog X.w) s.heap (typeOf u) t := by
  obtain ⟨P, K, hP, _⟩ := kit_of I ry ty
  exact K.ty _ _ I.kIn hP
theorem op_deq (hr : Room k X.A) (hg : X.A.guards = some []) : OpR X (compareOp .Eq) (rDeq X k) := by
  intro pins s σ H x y v u Q I rx ry q
  obtain ⟨a, C, dx, fs, sp, t, rfl, ea, ⟨f, fd, ps, hm, hfn, F, hbd⟩, ht, hn, q⟩ := q
  cases rx
  obtain ⟨mA, J, _⟩ := ins_get I.hok ea
  obtain ⟨od, J, _⟩ := J.look
  obtain ⟨m, hF⟩ := I.fr
  show wpAny (model X.prog X.w) X.A (richCompare .Eq (.ref a) u) (EP X pins σ Q) X.xe s
  refine PySem.W.cmp_K (op := .Eq) hr.units0 hF I.ok.mod.kin J (ty_look I ry ht) hn hm.at_ hm.fn (wpAny_mono (run_fnG (us := [.ref a, u]) (vs := [.ref a, y]) F hr hg hbd I (.cons rfl (.cons ry .nil)) q) (fun v s' z => ?_) fun _ _ z => z)
  obtain ⟨z, H2, I2, rz, b, rfl, hq⟩ := z
  cases rz
  exact ⟨.bl b, H2, I2, rfl, hq⟩
theorem op_dne (hr : Room k X.A.in1) (hg : X.A.guards = some []) : OpR X (compareOp .NotEq) (rDne X k) := by
  intro pins s σ H x y v u Q I rx ry q
  obtain ⟨a, C, dx, fs, sp, t, rfl, ea, ⟨f, fd, ps, hm, hfn, F, hbd⟩, ht, hn, hne, hob, q⟩ := q
  cases rx
  obtain ⟨mA, J, _⟩ := ins_get I.hok ea
  obtain ⟨od, J, _⟩ := J.look
  obtain ⟨m, hF⟩ := I.fr
  show wpAny (model X.prog X.w) X.A (richCompare .NotEq (.ref a) u) (EP X pins σ Q) X.xe s
  refine ne_K (Room.of1 hr).units0 hr.units0 hF I.ok.mod.kin J (ty_look I ry ht) hn hne hob hm.at_ hm.fn (wpAny_mono (run_fnG1 (us := [.ref a, u]) (vs := [.ref a, y]) F hr hg hbd I (.cons rfl (.cons ry .nil)) q) (fun v s' z => ?_) fun _ _ z => z)
  obtain ⟨z, H2, I2, rz, b, rfl, hq⟩ := z
  cases rz
  exact ⟨b, rfl, .bl (!b), H2, I2, rfl, hq⟩
/-! ### by code -/
theorem as_step {c t : CE} {σ : L2.St} {H : Hp} {Q : List V → Hp → Prop} (h : tAs W cl wx (.cons c t) σ H Q) : tA1 W cl wx c σ H fun v H1 => tAs W cl wx t σ H1 fun vs H2 => Q (v :: vs) H2 := by
  obtain ⟨O, r, E, h⟩ := h
  have h : Good _ _ (match c.late with
    | some i => (lift (peek r i) r).bind fun _ r => (evA cl t r).bind fun as r => .ok ((some i, .non) :: as) r
    | none => (ev cl c .val r).bind fun x r => (evA cl t r).bind fun as r => .ok ((none, x.2) :: as) r) := h
  unfold tA1
  cases hl : c.late with
  | some i =>
    rw [hl] at h
    obtain ⟨d0, e0, h⟩ := good_lift.mp (good_bind.mp h)
    obtain ⟨v, ev, _⟩ := E.peek e0
    refine ⟨v, ev, tAs.at E (good_bind.mp h) fun as r1 vs H1 O1 hp a1 q1 => ?_⟩
    exact hp (v :: vs) H1 O1 a1 ⟨ev, q1⟩
  | none =>
    rw [hl] at h
    refine tV.sh E (good_bind.mp h) fun x r1 v H1 O1 hp a1 q1 => ?_
    refine tAs.at a1.env ((good_bind.mp hp).on E a1) fun as r2 vs H2 O2 hp2 a2 q2 => ?_
    exact hp2 (v :: vs) H2 O2 (a1.trans E a2) ⟨q1.mono (a2.sub a1.env), q2⟩
theorem arg_rb {O : Own} {H : Hp} {v : V} {z : Bool × D} (h : ArgAt W O H v z) : Rb W O H v z.2 := by
  obtain ⟨b, d⟩ := z
  cases b with
  | false => exact .inl h
  | true => exact .inr h
/-- what the special method is asked, how it goes on -/
def dunQ (k : Dun) (Q : VK) : VK := fun z H => match k with
  | .item => Q z H
  | .len => ∃ n : Int, z = .int n ∧ (0 ≤ n ∧ n < 2 ^ 63) ∧ Q (.int n) H
  | .eq => ∃ b, z = .bl b ∧ Q (.bl b) H
  | .ne => ∃ b, z = .bl b ∧ Q (.bl (!b)) H
theorem dun_res {kd : Dun} {x y : Bool × D} {H H' : Hp} {O' : Own} {z : V} {Q : VK} (h : dunD kd x = some y) (q : ResAt W H O' H' x.1 x.2 z) (k : ∀ u, ResAt W H O' H' y.1 y.2 u → Q u H') : dunQ kd Q z H' := by
  obtain ⟨fr, d⟩ := x
  cases kd with
  | item =>
    cases h
    exact k z q
  | len =>
    cases fr with
    | true => cases h
    | false =>
      cases d with
      | int n =>
        have h : (if 0 ≤ n ∧ n < 2 ^ 63 then some (false, D.int n) else none) = some y := h
        by_cases hn : 0 ≤ n ∧ n < 2 ^ 63
        · rw [if_pos hn] at h
          cases h
          have q : Rp W _ z (.int n) := q
          cases q
          exact ⟨n, rfl, hn, k _ (.int n)⟩
        · rw [if_neg hn] at h
          cases h
      | _ => cases h
  | eq =>
    cases fr with
    | true => cases h
    | false =>
      cases d with
      | bl b =>
        cases h
        have q : Rp W _ z (.bl b) := q
        cases q
        exact ⟨b, rfl, k _ (.bl b)⟩
      | _ => cases h
  | ne =>
    cases fr with
    | true => cases h
    | false =>
      cases d with
      | bl b =>
        cases h
        have q : Rp W _ z (.bl b) := q
        cases q
        exact ⟨b, rfl, k _ (.bl !b)⟩
      | _ => cases h
/-- the arguments, the def, the call -/
theorem dun_core {kd : Dun} {Cs : List Addr} {ms : List (Addr × Nat)} {c : CE} {σ : L2.St} {H : Hp} {Q : VK} (h : tV W cl wx (.dun kd Cs ms c) σ H Q) :
    tAs W cl wx c σ H fun vs H1 => ∃ O1 ds f, ArgsOk W O1 H1 vs ds ∧ dunF Cs ms kd (some ds) = some f ∧ spF W cl f vs H1 (dunQ kd Q) E0 := by
  obtain ⟨O, r, E, q⟩ := h
  refine tAs.at E (good_bind.mp q) fun as r1 vs H1 O1 hp a1 qa => ?_
  obtain ⟨f, e1, hp⟩ := good_lift.mp (good_bind.mp hp)
  have hp := good_bind.mp hp
  cases ha : argD r1 as with
  | none =>
    rw [ha] at e1
    cases kd <;> cases e1
  | some ds =>
    rw [ha] at e1
    have hd : djA r1 as = true := by
      by_cases hd : djA r1 as = true
      · exact hd
      · exfalso
        have hp : Good _ _ (callB cl f as r1) := good_bind.mp hp
        unfold callB at hp
        rw [ha] at hp
        simp only [hd] at hp
        exact hp.elim
    refine ⟨O1, ds, f, args_ok a1.env qa ha hd, e1, ?_⟩
    refine callA_ok a1.env qa hp fun y r2 z H2 O2 hq a2 q2 => ?_
    obtain ⟨y', e2, hq⟩ := good_lift.mp hq
    exact dun_res e2 (q2.back a1.stp) fun u qu => hq u H2 O2 (a1.trans E a2) qu
theorem a1_mono {c : CE} {σ : L2.St} {H : Hp} {P P' : V → Hp → Prop} (h : tA1 W cl wx c σ H P) (k : ∀ v H1, P v H1 → P' v H1) : tA1 W cl wx c σ H P' := by
  unfold tA1 at h ⊢
  cases hl : c.late with
  | some i =>
    rw [hl] at h
    obtain ⟨v, e, q⟩ := h
    exact ⟨v, e, k _ _ q⟩
  | none =>
    rw [hl] at h
    obtain ⟨O, r, E, q⟩ := h
    exact ⟨O, r, E, q.mono (fun x r' hp v H' O' a z => k _ _ (hp v H' O' a z)) fun _ _ z => z⟩
theorem dun_two {kd : Dun} {Cs : List Addr} {ms : List (Addr × Nat)} {c1 c2 : CE} {σ : L2.St} {H : Hp} {Q : VK} {rd : R2} (h : tV W cl wx (.dun kd Cs ms (.cons c1 (.cons c2 .nil))) σ H Q)
    (k : ∀ v u H1 O1 ds f, ArgsOk W O1 H1 [v, u] ds → dunF Cs ms kd (some ds) = some f → spF W cl f [v, u] H1 (dunQ kd Q) E0 → rd v u H1 Q) : tOp rd (tA1 W cl wx c1) (tA1 W cl wx c2) σ H Q := by
  refine a1_mono (as_step (dun_core h)) fun v H1 q => ?_
  refine a1_mono (as_step q) fun u H2 q => ?_
  obtain ⟨O1, ds, f, A, e, q⟩ := as_none q
  exact k v u H2 O1 ds f A e q
theorem args2 {O : Own} {H : Hp} {v u : V} {ds : List (Bool × D)} (A : ArgsOk W O H [v, u] ds) : ∃ x y, ds = [x, y] ∧ Rb W O H v x.2 ∧ Rb W O H u y.2 := by
  have hl := A.len
  match ds, hl with
  | [x, y], _ => exact ⟨x, y, rfl, arg_rb (A.at_ 0 v x rfl rfl), arg_rb (A.at_ 1 u y rfl rfl)⟩
theorem se_ditm {Cs : List Addr} {ms : List (Addr × Nat)} {c1 c2 : CE} {e1 e2 : Expr} (hW : W = ⟨X.prog, X.w, X.K⟩) (h1 : SE W cl wx X c1 e1) (h2 : SE W cl wx X c2 e2) (hr : Room k X.A.in1) (hgd : X.A.guards = some [])
    (hm : ∀ C f, ms.lookup C = some f → MetD X k (ca W C) "__getitem__" (spF W cl f)) (hs : ∀ o i, subscripted e2 true o i = runValue (.builtin "lifetime.subscript" ⟨[o, i], []⟩)) :
    SE W cl wx X (.dun .item Cs ms (.cons c1 (.cons c2 .nil))) (.Subscript e1 e2 pos) := by
  refine SE.leaf ((pe_itm hr hgd h1.a1 h2.a1 hs).wk fun σ H Q q => dun_two q fun v u H1 O1 ds f A e q => ?_) hW rfl (fun _ => rfl) (fun _ => rfl)
  obtain ⟨x, y, rfl, q1, q2⟩ := args2 A
  obtain ⟨C, fs, ex, e3, e4⟩ := methOf_ok (show methOf ms "__getitem__" x.2 = some f from e)
  rw [ex] at q1
  obtain ⟨a, dx, vs, rfl, _, ea, l⟩ := q1.ins
  exact ⟨a, ca W C, dx, vs, spF W cl f, rfl, ea, hm C f e4, q⟩
theorem se_dlen {Cs : List Addr} {ms : List (Addr × Nat)} {c : CE} {e : Expr} (hW : W = ⟨X.prog, X.w, X.K⟩) (h : SE W cl wx X c e) (hr : Room k X.A.in1) (hgd : X.A.guards = some [])
    (hm : ∀ C f, ms.lookup C = some f → MetD X k (ca W C) "__len__" (spF W cl f)) (hg : Gl X "len") (hmg : X.mg "len" = none) (he : starEach [e] X.env = (false, eval e X.env) :: starEach [] X.env) :
    SE W cl wx X (.dun .len Cs ms (.cons c .nil)) (.Call (.Name "len" p) [e] [] pos) := by
  refine SE.leaf ((pe_callB (cr_dlen hr hgd) hg hmg (by decide +kernel) (pa_cons h.a1 pa_nil he) (by decide) (by decide) he (by rfl)).wk fun σ H Q q => ?_) hW rfl (fun _ => rfl) (fun _ => rfl)
  refine a1_mono (as_step (dun_core q)) fun v H1 q => ?_
  obtain ⟨O1, ds, f, A, e, q⟩ := as_none q
  have hl := A.len
  match ds, hl, A, e with
  | [x], _, A, e =>
    have q1 := arg_rb (A.at_ 0 v x rfl rfl)
    obtain ⟨C, fs, ex, e3, e4⟩ := methOf_ok (show methOf ms "__len__" x.2 = some f from e)
    rw [ex] at q1
    obtain ⟨a, dx, vs, rfl, _, ea, l⟩ := q1.ins
    exact ⟨a, ca W C, dx, vs, spF W cl f, rfl, ea, hm C f e4, q⟩
/-- the right side of an own == -/
theorem eqOk_ty {Cs : List Addr} {C : Nat} {O : Own} {H : Hp} {u : V} {d : D} (q : Rb W O H u d) (h : eqOk Cs d = true) (D' : DunK W Cs C) : ∃ t, TyX W.K H u t ∧ PySem.W.notFirst W.K (ca W C) t = true := by
  have hd : d.isDn = false := by
    cases d <;> first | rfl | cases h
  refine ⟨d.tyV W, tyx q.rp hd, ?_⟩
  have nf : ∀ t : String, t ∈ ["NoneType", "str", "int", "bool", "tuple", "list", "dict"] → PySem.W.notFirst W.K (ca W C) (.type t) = true := fun t ht => by
    unfold PySem.W.notFirst
    rw [D'.ty t ht]
    simp
  cases d with
  | non => exact nf _ (by decide)
  | bl b => exact nf _ (by decide)
  | int b => exact nf _ (by decide)
  | str b => exact nf _ (by decide)
  | tup b => exact nf _ (by decide)
  | lst b => exact nf _ (by decide)
  | dk b => exact nf _ (by decide)
  | dw b => exact nf _ (by decide)
  | ins C' fs => exact D'.ks C' (List.contains_iff_mem.mp h)
  | _ => cases hd
theorem dunD_bl {kd : Dun} {x y : Bool × D} (hk : kd = .eq ∨ kd = .ne) (h : dunD kd x = some y) : ∃ k, y = (false, .bl k) := by
  obtain ⟨fr, d⟩ := x
  rcases hk with rfl | rfl
  · cases fr with
    | true => cases h
    | false =>
      cases d with
      | bl b =>
        cases h
        exact ⟨_, rfl⟩
      | _ => cases h
  · cases fr with
    | true => cases h
    | false =>
      cases d with
      | bl b =>
        cases h
        exact ⟨_, rfl⟩
      | _ => cases h
theorem dun_cmp {kd : Dun} {Cs : List Addr} {ms : List (Addr × Nat)} {c : CE} {e : Expr} {t : TE} (hk : kd = .eq ∨ kd = .ne) (hv : PE X e t) (ht : PT X e (tTest t)) (hc : ∀ σ H Q, tV W cl wx (.dun kd Cs ms c) σ H Q → t σ H Q) : SE W cl wx X (.dun kd Cs ms c) e := by
  have hv2 := hv.wk hc
  refine ⟨hv2, hv2.wk fun σ H Q ⟨O, r, E, q⟩ => tV.sh E q fun x r' v H' O' hp a q => hp v H' O' a (.inl q), ht.wk fun σ H Q ⟨O, r, E, h⟩ => ?_, fun i hi => by cases hi⟩
  refine hc σ H _ ⟨O, r, E, ?_⟩
  have h : Good _ _ (tru ((evA cl c r).bind fun as r => (lift (dunF Cs ms kd (argD r as)) r).bind fun f r => (callA cl f as r).bind fun x r => lift (dunD kd x) r)) := h
  have h1 := good_bind.mp h
  show Good _ _ ((evA cl c r).bind fun as r => (lift (dunF Cs ms kd (argD r as)) r).bind fun f r => (callA cl f as r).bind fun x r => lift (dunD kd x) r)
  refine good_bind.mpr ((good_bind.mp h1).mono (fun as r1 h2 => ?_) fun _ _ z => z)
  obtain ⟨f, e1, h2⟩ := good_lift.mp (good_bind.mp h2)
  refine good_bind.mpr (good_lift.mpr ⟨f, e1, ?_⟩)
  refine good_bind.mpr ((good_bind.mp h2).mono (fun x r2 h3 => ?_) fun _ _ z => z)
  obtain ⟨y, e2, h3⟩ := good_lift.mp h3
  refine good_lift.mpr ⟨y, e2, fun v H' O' a q => ?_⟩
  obtain ⟨b, eb, b', e', hq⟩ := good_lift.mp (good_bind.mp h3)
  obtain ⟨k, rfl⟩ := dunD_bl hk e2
  cases eb
  cases e'
  have q : Rp W _ v (.bl b) := q
  cases q
  exact ⟨b, rfl, hq H' O' a⟩
theorem se_deq {Cs : List Addr} {ms : List (Addr × Nat)} {c1 c2 : CE} {e1 e2 : Expr} (hW : W = ⟨X.prog, X.w, X.K⟩) (h1 : SE W cl wx X c1 e1) (h2 : SE W cl wx X c2 e2) (hr : Room k X.A) (hgd : X.A.guards = some [])
    (hm : ∀ C f, ms.lookup C = some f → MetD X k (ca W C) "__eq__" (spF W cl f) ∧ DunK W Cs C) (hb : behindInMarks .Eq e2 = false) :
    SE W cl wx X (.dun .eq Cs ms (.cons c1 (.cons c2 .nil))) (.Compare e1 [.Eq] [e2] pos) := by
  refine dun_cmp (.inl rfl) (pe_cmpR (op_deq hr hgd) h1.a1 h2.a1 hb) (pt_cmpR (op_deq hr hgd) h1.a1 h2.a1 hb) fun σ H Q q => dun_two q fun v u H1 O1 ds f A e q => ?_
  obtain ⟨x, y, rfl, q1, q2⟩ := args2 A
  have e : (if eqOk Cs y.2 = true then methOf ms "__eq__" x.2 else none) = some f := e
  by_cases hy : eqOk Cs y.2 = true
  · rw [if_pos hy] at e
    obtain ⟨C, fs, ex, e3, e4⟩ := methOf_ok e
    rw [ex] at q1
    obtain ⟨a, dx, vs, rfl, _, ea, l⟩ := q1.ins
    obtain ⟨m1, m2⟩ := hm C f e4
    obtain ⟨t, t1, t2⟩ := eqOk_ty q2 hy m2
    have eK : X.K = W.K := by rw [hW]
    rw [← eK] at t1 t2
    exact ⟨a, ca W C, dx, vs, spF W cl f, t, rfl, ea, m1, t1, t2, q⟩
  · rw [if_neg hy] at e
    cases e
theorem se_dne {Cs : List Addr} {ms : List (Addr × Nat)} {c1 c2 : CE} {e1 e2 : Expr} (hW : W = ⟨X.prog, X.w, X.K⟩) (h1 : SE W cl wx X c1 e1) (h2 : SE W cl wx X c2 e2) (hr : Room k X.A.in1) (hgd : X.A.guards = some [])
    (hm : ∀ C f, ms.lookup C = some f → MetD X k (ca W C) "__eq__" (spF W cl f) ∧ DunK W Cs C) (hb : behindInMarks .NotEq e2 = false) :
    SE W cl wx X (.dun .ne Cs ms (.cons c1 (.cons c2 .nil))) (.Compare e1 [.NotEq] [e2] pos) := by
  refine dun_cmp (.inr rfl) (pe_cmpR (op_dne hr hgd) h1.a1 h2.a1 hb) (pt_cmpR (op_dne hr hgd) h1.a1 h2.a1 hb) fun σ H Q q => dun_two q fun v u H1 O1 ds f A e q => ?_
  obtain ⟨x, y, rfl, q1, q2⟩ := args2 A
  have e : (if eqOk Cs y.2 = true then methOf ms "__eq__" x.2 else none) = some f := e
  by_cases hy : eqOk Cs y.2 = true
  · rw [if_pos hy] at e
    obtain ⟨C, fs, ex, e3, e4⟩ := methOf_ok e
    rw [ex] at q1
    obtain ⟨a, dx, vs, rfl, _, ea, l⟩ := q1.ins
    obtain ⟨m1, m2⟩ := hm C f e4
    obtain ⟨t, t1, t2⟩ := eqOk_ty q2 hy m2
    have m3 := m2.ne
    have m4 := m2.ob
    have eK : X.K = W.K := by rw [hW]
    rw [← eK] at t1 t2 m3 m4
    exact ⟨a, ca W C, dx, vs, spF W cl f, t, rfl, ea, m1, t1, t2, m3, m4, q⟩
  · rw [if_neg hy] at e
    cases e
end
end Eg
/-! EgE: enumerate over a tuple. -/
namespace Eg
open PySem PySem.Spec PyProof.Rows L2
section
open AutoSeq1 (wpAny_loadPart')
theorem meets_enumT (l : Addr) (its : Array Value) (n : Nat) (dct : Option Addr) (sl : Array (Option Value)) :
    Meets (Builtin.«enumerate.__new__» ⟨[.type "enumerate", .ref l], []⟩) (fun _ R s => s.heap.get? l = some { cls := .type "tuple", dict := dct, data := .seq its n, slots := sl } ∧
      R (.ok (.ret (.ref (s.heap.push { cls := .type "tuple_iterator", data := .fields #[.ref l, .int 0 0] }).objs.size)))
        { s with heap := (s.heap.push { cls := .type "tuple_iterator", data := .fields #[.ref l, .int 0 0] }).push { cls := .type "enumerate", data := .fields #[.none, .bool false, .ref s.heap.objs.size, rawInt 0, .none, .none] } }) :=
  .of_wp fun prog w A R s h => by
    obtain ⟨hp, g, d, tk, os⟩ := s; obtain ⟨hl, h⟩ := h
    have hsub := sub_enumerate
    have hT : Heap.IsTuple (Shared.heap ⟨hp, g, d, tk, os⟩) l its := ⟨_, hl, rfl, n, rfl⟩
    wp_walk using wpAny_loadPart' hl
    refine wpAny_stack_any fun st => wpAny_pure ?_
    split
    · rename_i c _ _ _ _ _
      cases (c == Value.type "enumerate")
      · wp_walk using wpAny_loadPart' hl, wpAny_pyIter_tuple hT
        exact ⟨_, rfl, h⟩
      · wp_walk using wpAny_loadPart' hl, wpAny_pyIter_tuple hT
        exact ⟨_, rfl, h⟩
    · wp_walk using wpAny_loadPart' hl, wpAny_pyIter_tuple hT
      exact ⟨_, rfl, h⟩
section
variable {prog : Program} {w : World} {A : Around} {E : Value → Shared → Prop} {s : Shared}
theorem call_enumT {l : Addr} {its : Array Value} {Q : Value → Shared → Prop} (hT : s.heap.IsTuple l its)
    (h : ∀ h', IsEnum h' (s.heap.objs.size + 1) s.heap.objs.size 0 .none → h'.IsTupleIter s.heap.objs.size l 0 → h'.objs.size = s.heap.objs.size + 2 →
      (∀ b o, s.heap.get? b = some o → h'.get? b = some o) → Q (.ref (s.heap.objs.size + 1)) { s with heap := h' }) : wpAny (model prog w) A (call (.type "enumerate") [.ref l]) Q E s := by
  obtain ⟨⟨c, dct, dt, sl⟩, hl, hc, n, hd⟩ := hT
  cases (show c = .type "tuple" from hc)
  cases (show dt = .seq its n from hd)
  refine callType_new F.called_enumerate (by decide) (F.typeCall_enumerate_1 _) (F.newCall_enumerate_1 _) (fun obj => F.args_object_init_2 obj _) F.entry_enumerate_new (meets_enumT l its n dct sl) ⟨hl, ?_⟩
  have hz : (s.heap.push { cls := .type "tuple_iterator", data := .fields #[.ref l, .int 0 0] }).objs.size = s.heap.objs.size + 1 := Heap.size_push ..
  show _ ∧ _
  rw [hz]
  have he := Heap.get?_push_size (s.heap.push { cls := .type "tuple_iterator", data := .fields #[.ref l, .int 0 0] })
    (o := { cls := .type "enumerate", data := .fields #[.none, .bool false, .ref s.heap.objs.size, rawInt 0, .none, .none] }) rfl
  rw [hz] at he
  have he2 : IsEnum ((s.heap.push { cls := .type "tuple_iterator", data := .fields #[.ref l, .int 0 0] }).push
      { cls := .type "enumerate", data := .fields #[.none, .bool false, .ref s.heap.objs.size, rawInt 0, .none, .none] }) (s.heap.objs.size + 1) s.heap.objs.size 0 .none := he
  exact ⟨⟨_, he2, rfl⟩, h _ he2 ⟨_, Heap.get?_push_of_some _ (Heap.get?_push_size _ rfl), rfl, rfl⟩ (by rw [Heap.size_push, hz]) fun b o x => Heap.get?_push_of_some _ (Heap.get?_push_of_some _ x)⟩
end
end
/-- the tuple at a, in new pairs with numbers -/
def IteT (K : PySem.W.Frag) (a : Addr) : It :=
  ⟨fun i H => ∃ (xs : List V) (x : V), SqT K H a xs ∧ xs[i]? = some x, fun i H v H' => ∃ T x, v = .ref T ∧ H T = none ∧ H' = upd H T (.tup [.int (i : Nat), x]) ∧ ∀ xs, SqT K H a xs → xs[i]? = some x, fun i H => ∃ xs : List V, SqT K H a xs ∧ xs.length = i⟩
theorem tuple_inj {X : Cx} {pins : List (Addr × Obj)} {σ : L2.St} {H : Hp} {s : Shared} {a : Addr} {xs ys : List V} (I : Inv X pins σ H s) (h1 : SqT X.K H a xs) (h2 : SqT X.K H a ys) : xs = ys := I.tuple_inj h1 h2
theorem turn_enumT {P : Program} {w : World} {K : PySem.W.Frag} {elts : List Expr} {kk : Nat} {tpos : Pos} (a e it : Addr) (hai : a ≠ it) (hea : e ≠ a) :
    Turn P w K (.Tuple elts kk tpos) (IteT K a) [e, it] e (fun i h => (∃ old, IsEnum h e it ((i : Nat) : Int) old) ∧ h.IsTupleIter it a i ∧ e ≠ it) where
  mem := by simp
  obj := fun i h st b hb => by
    obtain ⟨⟨old, he⟩, ⟨o, ho, hc, hd⟩, _⟩ := st
    rcases (show b = e ∨ b = it by simpa using hb) with z | z
    · rw [z]
      exact ⟨_, he, fun v q => nomatch q⟩
    · rw [z]
      exact ⟨o, ho, fun v q => by rw [hd] at q; cases q⟩
  keep := fun i h h' st k => by
    obtain ⟨⟨old, he⟩, hi, hne⟩ := st
    exact ⟨⟨old, k e (by simp) _ he⟩, hi.at fun o q => k it (by simp) o q, hne⟩
  item := by
    intro X hP hw hK hc i pins s σ H E I hf st hg
    subst hP hw hK
    obtain ⟨⟨old, he⟩, hit, hne⟩ := st
    obtain ⟨xs, x, hq, hx⟩ := hg
    obtain ⟨its, rv, p, hz⟩ := I.tuple hq
    obtain ⟨u, hu, ru⟩ := rv.get hx
    have hel : e < s.heap.objs.size := Heap.lt_size he
    have hil : it < s.heap.objs.size := by
      obtain ⟨_, q, _⟩ := hit
      exact Heap.lt_size q
    have hh : X.A.in1.handled = none := I.ok.hd hc
    have hlt : i < its.toArray.size := by
      rw [List.size_toArray]
      exact (List.getElem?_eq_some_iff.mp hu).1
    refine wpAny_pyNext_enum_itemD (Draws.tuple hh it a hai its.toArray) he ⟨hit, p⟩ hlt hne (by simp [hne, hea]) fun y h' tk hy ho hit' hT hsz hk => ?_
    have ey : y = u := by
      have hy : its.toArray[i]? = some y := hy
      rw [show its.toArray[i]? = its[i]? by simp, hu] at hy
      exact (Option.some.inj hy).symm
    subst ey
    refine ⟨_, rfl, wpAny_letOwnedTupleGo_enum (s := { s with heap := h', toks := tk + 1 }) ho fun h'' he' sb => ?_⟩
    have hT2 : h''.get? s.heap.objs.size = some { cls := .type "tuple", data := .seq #[.int i tk, y] } := (sb.2 _ (Nat.ne_of_gt hel)).trans hT
    have new : ObjOk X.prog X.w (upd H s.heap.objs.size (.tup [.int (i : Nat), x])) h'' s.heap.objs.size (.tup [.int (i : Nat), x]) :=
      ⟨by show 2 ≤ sizeLine; decide, [.int i tk, y], .cons ⟨_, rfl⟩ (.cons ru .nil), ⟨_, hT2, rfl, _, rfl⟩⟩
    have I1 : Inv X pins σ (upd H s.heap.objs.size (.tup [.int (i : Nat), x])) { s with heap := h'', toks := tk + 1 } :=
      I.turnedNew (ch := [e, it]) (fun b ob hb q => (sb.2 b (fun z => hb (by simp [z]))).trans (hk b ob (fun z => hb (by simp [z])) (fun z => hb (by simp [z])) q)) hf (Nat.le_refl _) new
    refine ⟨.ref s.heap.objs.size, _, I1, rfl, ⟨_, x, rfl, I.hok.fresh (Nat.le_refl _), rfl, fun ys hy => by rw [tuple_inj I hy hq]; exact hx⟩, ⟨⟨y, ?_⟩, hit'.1.at fun o q => (sb.2 it (Ne.symm hne)).trans q, hne⟩, fun b hb => ?_⟩
    · have e1 : ((i + 1 : Nat) : Int) = (i : Int) + 1 := by omega
      rw [e1]
      exact he'
    · have hb' : b < s.heap.objs.size := by
        rcases (show b = e ∨ b = it by simpa using hb) with z | z
        · rw [z]
          exact hel
        · rw [z]
          exact hil
      rw [upd_ne (Nat.ne_of_lt hb')]
      exact (hf b hb).1
  done := by
    intro X hP hw hK hc i pins s σ H E I hf st hg
    subst hP hw hK
    obtain ⟨⟨old, he⟩, hit, hne⟩ := st
    obtain ⟨xs, hq, hx⟩ := hg
    obtain ⟨its, rv, p, hz⟩ := I.tuple hq
    obtain ⟨f0, f1, f2, f3, f4, f5⟩ := hf it (by simp)
    have hl := rv.length
    have hh : X.A.in1.handled = none := I.ok.hd hc
    have hi : its.toArray.size = i := by
      rw [List.size_toArray]
      omega
    refine wpAny_pyNext_enum_endD (Draws.tuple hh it a hai its.toArray) he ?_ fun h' eb => ⟨rfl, I.turned (t' := s.toks) (fun b o hb q => eb b o hb q) f0 f1 f3 f4 f5⟩
    rw [hi]
    exact ⟨hit, p⟩
  self := fun A i s Q E st h => let ⟨⟨_, he⟩, _⟩ := st; wpAny_pyIter_enum he h
def iEnumT (K : PySem.W.Frag) (ta : TA) : TI := fun σ H R => ta σ H fun vs H1 => ∃ a xs, vs = [.ref a] ∧ SqT K H1 a xs ∧ R (IteT K a) H1
theorem pi_enumT {X : Cx} {e : Expr} {ta : TA} {p pos tpos : Pos} {elts : List Expr} {kk : Nat} (hg : Gl X "enumerate") (hm : X.mg "enumerate" = none) (ha : PA X [e] ta) (hs : starEach [e] X.env = [(false, eval e X.env)]) :
    PI X (.Tuple elts kk tpos) (.Call (.Name "enumerate" p) [e] [] pos) (iEnumT X.K ta) := by
  refine ⟨fun pins s σ H R I h => Call_ (ld_blt I hg hm boot_enumerate (PyProof.Rows.callWith_type1 (thn (ha.run pos pins s σ H _ I h) fun us s1 ⟨vs, H1, I1, r1, q1⟩ => ?_) hs rfl))⟩
  obtain ⟨a, xs, ex, hq, q⟩ := q1
  subst ex
  obtain ⟨u, rfl, r⟩ := vals1 r1
  cases r
  obtain ⟨its, rv, p', hz⟩ := I1.tuple hq
  have hal : a < s1.heap.objs.size := p'.lt
  refine call_enumT p' fun h' he hit hsz hk => wpAny_pyIter_enum he ?_
  have I2 : Inv X pins σ H1 { s1 with heap := h' } := I1.kept (t' := s1.toks) hk
  refine ⟨s1.heap.objs.size + 1, [s1.heap.objs.size + 1, s1.heap.objs.size], _, _, H1, rfl, I2, turn_enumT a (s1.heap.objs.size + 1) s1.heap.objs.size (Nat.ne_of_lt hal) (Nat.ne_of_gt (Nat.lt_succ_of_lt hal)), ⟨⟨.none, he⟩, hit, Nat.succ_ne_self _⟩, fun b hb => ?_, q⟩
  have hle : s1.heap.objs.size ≤ b := by
    rcases (show b = s1.heap.objs.size + 1 ∨ b = s1.heap.objs.size by simpa using hb) with z | z
    · rw [z]
      exact Nat.le_add_right _ _
    · rw [z]
      exact Nat.le_refl _
  exact I1.fpOk hle (I1.hok.fresh hle)
end Eg
/-! EgD: the keys of a dict whose keys are tuples, walked. -/
namespace Eg
open PySem PySem.Spec PyProof.Rows L2
def Itn (d : Addr) (o : Obj) (xs : List NEnt) : It :=
  ⟨fun i H => H d = some (dnO d o) ∧ i < xs.length, fun i H x H' => H' = H ∧ ∃ e, xs[i]? = some e ∧ x = .ref e.2.1, fun i H => H d = some (dnO d o) ∧ xs.length ≤ i⟩
theorem paired_get {α β : Type} {R : α → β → Prop} : ∀ {a : List α} {b : List β} {i : Nat} {x : α}, Paired R a b → a[i]? = some x → ∃ y, b[i]? = some y ∧ R x y
  | _, _, i, x, .nil, e => by simp at e
  | _, _, 0, x, .cons h t, e => by
    simp at e
    subst e
    exact ⟨_, rfl, h⟩
  | _, _, i + 1, x, .cons h t, e => by
    obtain ⟨y, h1, h2⟩ := paired_get (i := i) t (by simpa using e)
    exact ⟨y, by simpa using h1, h2⟩
/-- its entries -/
theorem dn_ent {P : Program} {w : World} {d : Addr} {o : Obj} {xs : List NEnt} (k : DnObj P w d o xs) : ∃ es ep, o.data = .dict es ep ∧ es.size = xs.length ∧ ∀ i (hi : i < es.size) e, xs[i]? = some e → es[i].key = .ref e.2.1 := by
  obtain ⟨_, _, _, _, es, ep, vs, h1, h2, h3⟩ := k
  have hl : es.size = vs.length := size_of_entries h2
  refine ⟨es, ep, h1, hl.trans (paired_len h3).symm, fun i hi e he => ?_⟩
  obtain ⟨y, hy, r⟩ := paired_get h3 he
  have q := entry_at h2 i
  rw [hy, Array.getElem?_eq_getElem hi] at q
  rw [Option.some.inj q, r.2.1]
  rfl
theorem turn_dn {P : Program} {w : World} {K : PySem.W.Frag} {tg : Expr} {d : Addr} {o : Obj} {xs : List NEnt} {es : Array DictEntry} {ep : Nat} (it : Addr) (hx : o.ExactDict) (hod : o.data = .dict es ep) (hsz : es.size = xs.length)
    (ent : ∀ i (hi : i < es.size) e, xs[i]? = some e → es[i].key = .ref e.2.1) : Turn P w K tg (Itn d o xs) [it] it (fun i h => h.IsKeyIter it d i es.size ep) where
  mem := by simp
  obj := fun i h st b hb => by
    have e : b = it := by simpa using hb
    subst e
    obtain ⟨oi, e, c, dd⟩ := st
    exact ⟨oi, e, fun v z => by rw [dd] at z; cases z⟩
  keep := fun i h h' st k => st.at fun oi e => k it (by simp) oi e
  item := by
    intro X hP hw hK hc i pins s σ H E I hf st hg
    subst hP hw hK
    obtain ⟨hd, hi⟩ := hg
    obtain ⟨f0, f1, f2, f3, f4, f5⟩ := hf it (by simp)
    have hgd : s.heap.get? d = some o := (I.hok d _ hd).1
    have hi2 : i < es.size := by omega
    refine wpAny_pyNext_keys_item_raw st ⟨o, hgd, hx, hod⟩ hi2 fun h' st' sb => ?_
    have I1 : Inv X pins σ H { s with heap := h' } := I.turned (t' := s.toks) (fun b ob hb e => (sb.2 b hb).trans e) f0 f1 f3 f4 f5
    obtain ⟨oi, e, c, dd⟩ := id st'
    have hxi := List.getElem?_eq_getElem hi
    exact ⟨es[i].key, rfl, go_of (s := { s with heap := h' }) e c dd (by decide) ⟨.ref xs[i].2.1, H, I1, ent i hi2 _ hxi, ⟨rfl, _, hxi, rfl⟩, st', fun b hb => (hf b hb).1⟩⟩
  done := by
    intro X hP hw hK hc i pins s σ H E I hf st hg
    subst hP hw hK
    obtain ⟨hd, hi⟩ := hg
    obtain ⟨f0, f1, f2, f3, f4, f5⟩ := hf it (by simp)
    have hgd : s.heap.get? d = some o := (I.hok d _ hd).1
    exact wpAny_pyNext_keys_end_raw (I.ok.hd hc) st ⟨o, hgd, hx, hod⟩ (by omega) fun h' eb => ⟨rfl, I.turned (t' := s.toks) (fun b ob hb e => eb b ob hb e) f0 f1 f3 f4 f5⟩
  self := fun A i s Q E st h => by
    refine wpAny_pyIter_slot st.typeIs F.slot_dict_keyiterator_iter (wpAny_call_entry F.slot_dict_keyiterator_iter st.typeIs F.entry_dict_keyiterator_iter ?_ (F.args_dict_keyiterator_iter_1 _))
    exact (show wpAny _ _ (ret (.ref it)) _ _ s from wpAny_pure ⟨_, rfl, "dict_keyiterator", _, st.typeIs, F.slot_dict_keyiterator_next.lookup, h⟩)
def iDn (P : Program) (w : World) (td : TE) : TI := fun σ H R => td σ H fun x H1 => ∃ d o xs, x = .ref d ∧ H1 d = some (dnO d o) ∧ DnObj P w d o xs ∧ R (Itn d o xs) H1
theorem pi_dn {X : Cx} {tg e : Expr} {td : TE} (he : PE X e td) : PI X tg e (iDn X.prog X.w td) := by
  refine ⟨fun pins s σ H R I h => thn (he.run pins s σ H _ I h) fun u s1 ⟨x, H1, I1, rx, d, o, xs, ex, hd, k, q⟩ => ?_⟩
  subst ex
  cases (show u = Value.ref d from rx)
  obtain ⟨es, ep, h1, h2, h3⟩ := dn_ent k
  have hgd : s1.heap.get? d = some o := (I1.hok d _ hd).1
  exact wpAny_pyIter_dict_raw k.1 ⟨o, hgd, k.2.2.1, h1⟩ (pi_one (tk := s1.toks) I1 _ (turn_dn _ k.2.2.1 h1 h2 h3) ⟨_, Heap.get?_push_size _ rfl, rfl, rfl⟩ q)
theorem _root_.L2.PI.either {X : Cx} {tg e : Expr} {t t' : TI} (h : PI X tg e t) (h' : PI X tg e t') : PI X tg e (fun σ H R => t σ H R ∨ t' σ H R) := ⟨fun pins s σ H Q I q => q.elim (h.run pins s σ H Q I) (h'.run pins s σ H Q I)⟩
end Eg
/-! EgT: sep.join, text.split, xs[lo::2]. -/
namespace Eg
open PySem PySem.Spec PyProof.Rows L2
section
variable {W : Wd} {cl : Cal} {wx : WX} {X : Cx} {pos : Pos}
theorem rpl_strs {H : Hp} : ∀ ys : List Str, RpL W H (ys.map V.str) (ys.map D.str)
  | [] => .nil
  | y :: ys => .cons (.str y) (rpl_strs ys)
theorem joinD_ok {a : Str} {ds : List D} {x : Bool × D} (h : joinD a ds = some x) : ∃ ys, strsD ds = some ys ∧ (ys.map (·.length)).sum + ys.length * a.length ≤ 16777216 ∧ x = (false, .str (Txt.join a ys)) := by
  unfold joinD at h
  cases e : strsD ds with
  | none =>
    rw [e] at h
    cases h
  | some ys =>
    rw [e] at h
    have h : (if Nat.ble ((ys.map (·.length)).sum + ys.length * a.length) 16777216 = true then some (false, D.str (Txt.join a ys)) else none) = some x := h
    by_cases hz : Nat.ble ((ys.map (·.length)).sum + ys.length * a.length) 16777216 = true
    · rw [if_pos hz] at h
      cases h
      exact ⟨ys, rfl, Nat.le_of_ble_eq_true hz, rfl⟩
    · rw [if_neg hz] at h
      cases h
theorem se_join {c c2 : CE} {e e2 : Expr} {apos : Pos} (hW : W = ⟨X.prog, X.w, X.K⟩) (h : SE W cl wx X c e) (h2 : SE W cl wx X c2 e2) (hb : plainBase e = true) (hl : (apos.endLine == pos.line) = true) (hs : starEach [e2] X.env = [(false, eval e2 X.env)]) :
    SE W cl wx X (.txt .join c c2) (.Call (.Attribute e "join" apos) [e2] [] pos) := by
  have eK : W.K = X.K := by rw [hW]
  refine SE.leaf ((pe_join h.v h2.r hs (base_ok hb) hl).wk fun σ H Q ⟨O, r, E, q⟩ => ?_) hW rfl (fun _ => rfl) (fun _ => rfl)
  refine tV.sh E (good_bind.mp q) fun x r1 v H1 O1 hp a1 q1 => ?_
  cases hx : x.2 with
  | str s =>
    rw [hx] at hp q1
    cases q1
    refine ⟨⟨s, rfl⟩, tR.at a1.env ((good_bind.mp hp).on E a1) fun y r2 u H2 O2 hp2 a2 q2 => ?_⟩
    obtain ⟨z, ez, hq⟩ := good_lift.mp hp2
    have a12 := a1.trans E a2
    cases hy : y.2 with
    | lst ds =>
      rw [hy] at ez q2
      obtain ⟨ys, e1, e2, rfl⟩ := joinD_ok (show joinD s ds = some z from ez)
      obtain ⟨p, vs, rfl, sq, l⟩ := q2.lst
      have ev := strs_vals l e1
      subst ev
      rw [eK] at *
      exact ⟨s, p, ys, rfl, rfl, .inl (.inl sq), e2, hq _ H2 O2 a12 (.str _)⟩
    | tup ds =>
      rw [hy] at ez q2
      obtain ⟨ys, e1, e2, rfl⟩ := joinD_ok (show joinD s ds = some z from ez)
      obtain ⟨p, vs, rfl, sq, l⟩ := q2.tup
      have ev := strs_vals l e1
      subst ev
      rw [eK] at *
      exact ⟨s, p, ys, rfl, rfl, .inr sq, e2, hq _ H2 O2 a12 (.str _)⟩
    | _ =>
      rw [hy] at ez
      cases ez
  | _ =>
    rw [hx] at hp
    exact hp.elim
theorem se_split {c c2 : CE} {e e2 : Expr} {apos : Pos} (hW : W = ⟨X.prog, X.w, X.K⟩) (h : SE W cl wx X c e) (h2 : SE W cl wx X c2 e2) (hb : plainBase e = true) (hl : (apos.endLine == pos.line) = true) (hs : starEach [e2] X.env = [(false, eval e2 X.env)]) :
    SE W cl wx X (.txt .split c c2) (.Call (.Attribute e "split" apos) [e2] [] pos) := by
  refine SE.leaf ((pe_split h.v h2.r hs (base_ok hb) hl).wk fun σ H Q ⟨O, r, E, q⟩ => ?_) hW rfl (fun _ => rfl) (fun _ => rfl)
  refine tV.sh E (good_bind.mp q) fun x r1 v H1 O1 hp a1 q1 => ?_
  cases hx : x.2 with
  | str s =>
    rw [hx] at hp q1
    cases q1
    refine ⟨⟨s, rfl⟩, tR.at a1.env ((good_bind.mp hp).on E a1) fun y r2 u H2 O2 hp2 a2 q2 => ?_⟩
    obtain ⟨z, ez, hq⟩ := good_lift.mp hp2
    have a12 := a1.trans E a2
    cases hy : y.2 with
    | str b =>
      rw [hy] at ez q2
      have ez : (if (!(b.length == 0) && Nat.ble (s.length + 2) sizeLine) = true then some (true, D.lst ((Txt.split s b).map D.str)) else none) = some z := ez
      by_cases hc : (!(b.length == 0) && Nat.ble (s.length + 2) sizeLine) = true
      · rw [if_pos hc] at ez
        cases ez
        obtain ⟨c1, c3⟩ := Bool.and_eq_true_iff.mp hc
        have hb0 : (b.length == 0) = false := by
          cases hz : b.length == 0 with
          | false => rfl
          | true => rw [hz] at c1; cases c1
        obtain rfl := q2.str
        refine ⟨s, b, rfl, rfl, hb0, Nat.le_of_ble_eq_true c3, fun p n => ?_⟩
        exact hq (.ref p) _ _ (a12.trans E (aft_own a12.env n)) ((new_lst a12.env n (rpl_strs _)).back a12.stp)
      · rw [if_neg hc] at ez
        cases ez
    | _ =>
      rw [hy] at ez
      cases ez
  | _ =>
    rw [hx] at hp
    exact hp.elim
/-! ### xs[lo::2] -/
theorem pick_vals : ∀ (ix : List Nat) {xs : List V} {us : List Value}, Vals xs us → Vals (ix.filterMap (xs[·]?)) (ix.filterMap (us[·]?))
  | [], xs, us, h => .nil
  | i :: ix, xs, us, h => by
    have ih := pick_vals ix h
    cases e : xs[i]? with
    | none =>
      have e2 : us[i]? = none := by
        rw [List.getElem?_eq_none_iff] at e ⊢
        rw [← h.length]
        exact e
      rw [List.filterMap_cons_none e, List.filterMap_cons_none e2]
      exact ih
    | some x =>
      obtain ⟨u, eu, ru⟩ := h.get e
      rw [List.filterMap_cons_some e, List.filterMap_cons_some eu]
      exact .cons ru ih
theorem pick_rpl {H : Hp} : ∀ (ix : List Nat) {vs : List V} {ds : List D}, RpL W H vs ds → RpL W H (ix.filterMap (vs[·]?)) (ix.filterMap (ds[·]?))
  | [], vs, ds, h => .nil
  | i :: ix, vs, ds, h => by
    have ih := pick_rpl ix h
    cases e : ds[i]? with
    | none =>
      have e2 : vs[i]? = none := by
        rw [List.getElem?_eq_none_iff] at e ⊢
        rw [h.length]
        exact e
      rw [List.filterMap_cons_none e, List.filterMap_cons_none e2]
      exact ih
    | some x =>
      obtain ⟨u, eu, ru⟩ := h.get e
      rw [List.filterMap_cons_some e, List.filterMap_cons_some eu]
      exact .cons ru ih
def tStep (K : PySem.W.Frag) (te : TE) (tl : L2.TO) : TE := fun σ H Q => te σ H fun x H1 => tl σ H1 fun o H2 => ∃ a xs lo, x = .ref a ∧ o = some lo ∧ SqL K H2 a xs ∧ (pick2 xs lo).length ≤ sizeLine ∧ ∀ p, H2 p = none → Q (.ref p) (upd H2 p (.lst (pick2 xs lo)))
theorem pick_eq {xs : List V} {us : List Value} (lo : Int) (h : Vals xs us) : ∃ ws, (PySem.slicePick us.toArray (some lo) none (some 2)) = ws.toArray ∧ Vals (pick2 xs lo) ws := by
  refine ⟨_, ?_, pick_vals _ h⟩
  unfold PySem.slicePick
  simp only [List.size_toArray, h.length]
  congr 1
  simp only [List.getElem?_toArray]
theorem pe_step {e l : Expr} {te : TE} {tl : L2.TO} {k : Nat} {p1 p3 : Pos} (he : PE X e te) (hl : PO X (some l) tl) : PE X (.Subscript e (.Slice (some l) none (some (.Constant (.int 2) k p1)) p3) pos) (tStep X.K te tl) := by
  refine ⟨fun pins s σ H Q I h => ?_⟩
  refine Subscript_ (thn (he.run pins s σ H _ I h) fun v s1 ⟨x, H1, I1, r1, q1⟩ => ?_)
  have hst : PO X (some (.Constant (.int 2) k p1)) (tPart (tC (.int 2))) := po_some pe_int
  refine wpAny_Slice (thn (hl.run pins s1 σ H1 _ I1 q1) fun vl s2 ⟨o, H2, I2, pl, a, xs, lo, ex, eo, hx, hn, q⟩ => ?_)
  subst ex eo
  cases r1
  refine thn (po_none.run pins s2 σ H2 (fun o H3 => o = none ∧ H3 = H2) I2 ⟨rfl, rfl⟩) fun vu s3 ⟨u, H3, I3, pu, eu, e3⟩ => ?_
  subst eu e3
  refine thn (hst.run pins s3 σ H3 (fun o H4 => o = some 2 ∧ H4 = H3) I3 ⟨2, rfl, rfl, rfl⟩) fun vs s4 ⟨o, H4, I4, ps, eo, e4⟩ => ?_
  subst eo e4
  have J : Inv X pins σ H4 { s4 with heap := s4.heap.push { cls := .type "slice", data := .fields #[vl, vu, vs] } } := I4.kept (t' := s4.toks) fun b ob z => Heap.get?_push_of_some _ z
  obtain ⟨its, r, ht, hz⟩ := J.list hx
  have hlen := r.length
  obtain ⟨ws, ew, rw'⟩ := pick_eq lo r
  show wpAny (model X.prog X.w) X.A (subscriptTail e (.Slice (some l) none (some (.Constant (.int 2) k p1)) p3) (.ref a) (.ref s4.heap.objs.size)) (EP X pins σ Q) X.xe { s4 with heap := s4.heap.push { cls := .type "slice", data := .fields #[vl, vu, vs] } }
  refine tail_any (ops := [.ref a, .ref s4.heap.objs.size]) ht.isList.typeIs (PySem.slot_list_getitem.lookup) ?_ (by with_unfolding_all rfl)
  refine wpAny_getItem_list_slice ht.isList (Heap.IsSliceOf.new _ vl vu vs) pl pu ps (by decide) ?_ (by rw [List.size_toArray]; omega)
  rw [ew]
  refine ⟨.ref _, _, J.laid (t' := s4.toks) (o := .lst (pick2 xs lo)) (fun b ob z => Heap.get?_push_of_some _ z) (Nat.le_refl _) ?_, rfl, q _ (J.hok.fresh (Nat.le_refl _))⟩
  exact ⟨hn, _, 0, rw', Heap.get?_push_size _ rfl⟩
theorem se_slc2 {c lo : CE} {e l : Expr} {k : Nat} {p1 p3 : Pos} (hW : W = ⟨X.prog, X.w, X.K⟩) (h : SE W cl wx X c e) (hl : PO X (some l) (tOe W cl wx lo)) : SE W cl wx X (.slc2 c lo) (.Subscript e (.Slice (some l) none (some (.Constant (.int 2) k p1)) p3) pos) := by
  have eK : X.K = W.K := by rw [hW]
  refine SE.leaf ((pe_step h.v hl).wk fun σ H Q ⟨O, r, E, q⟩ => ?_) hW rfl (fun _ => rfl) (fun _ => rfl)
  refine tV.sh E (good_bind.mp q) fun x r1 v H1 O1 hp a1 q1 => ?_
  refine tOe.at a1.env ((good_bind.mp hp).on E a1) fun o r2 H2 O2 hp2 a2 => ?_
  obtain ⟨z, ez, hq⟩ := good_lift.mp hp2
  have a12 := a1.trans E a2
  have q1 := q1.mono (a2.sub a1.env)
  cases hx : x.2 with
  | lst xs =>
    rw [hx] at ez q1
    cases o with
    | none => cases ez
    | some i =>
      have ez : (if small (pick2 xs i).length = true then some (true, D.lst (pick2 xs i)) else none) = some z := ez
      by_cases hz : small (pick2 xs i).length = true
      · rw [if_pos hz] at ez
        cases ez
        cases q1 with
        | @lst a vs _ s l =>
          have rl : RpL W (mns H2 O2) (pick2 vs i) (pick2 xs i) := by
            unfold pick2
            rw [l.length]
            exact pick_rpl _ l
          refine ⟨a, vs, i, rfl, rfl, .inl (sub_rd mns_sub s), ?_, fun p n => ?_⟩
          · rw [rl.length]
            exact Nat.le_of_ble_eq_true hz
          · exact hq (.ref p) _ _ (a12.trans E (aft_own a12.env n)) ((new_lst a12.env n rl).back a12.stp)
      · rw [if_neg hz] at ez
        cases ez
  | _ =>
    rw [hx] at ez
    cases ez
end
end Eg
/-! EgZ: zip of a list and a tuple, either way round. -/
namespace Eg
open PySem PySem.Spec PyProof.Rows L2
/-- an iterator of a list (true) or of a tuple (false) -/
def ItAt : Bool → Heap → Addr → Addr → Nat → Prop
  | true, h, it, l, k => h.IsListIter it l k
  | false, h, it, l, k => h.IsTupleIter it l k
def SqAt : Bool → Heap → Addr → Array Value → Prop
  | true, h, l, xs => h.IsList l xs
  | false, h, l, xs => h.IsTuple l xs
theorem ItAt.eb {K : Bool} {h h' : Heap} {it l c : Addr} {k : Nat} (x : ItAt K h it l k) (e : Heap.ExtBut c h h') (n : it ≠ c) : ItAt K h' it l k := by
  cases K
  · exact Heap.IsTupleIter.extBut x e n
  · exact Heap.IsListIter.extBut x e n
theorem SqAt.eb {K : Bool} {h h' : Heap} {l c : Addr} {xs : Array Value} (x : SqAt K h l xs) (e : Heap.ExtBut c h h') (n : l ≠ c) : SqAt K h' l xs := by
  cases K
  · exact Heap.IsTuple.extBut x e n
  · exact Heap.IsList.extBut x e n
theorem ItAt.mv {K : Bool} {h h' : Heap} {it l : Addr} {k : Nat} (x : ItAt K h it l k) (e : ∀ o, h.get? it = some o → h'.get? it = some o) : ItAt K h' it l k := by
  cases K
  · exact Heap.IsTupleIter.at x e
  · exact Heap.IsListIter.at x e
theorem ItAt.lt {K : Bool} {h : Heap} {it l : Addr} {k : Nat} (x : ItAt K h it l k) : ∃ o, h.get? it = some o ∧ ∀ v, o.data ≠ .cell v := by
  cases K
  · obtain ⟨o, e, _, d⟩ := x
    exact ⟨o, e, fun v q => by rw [d] at q; cases q⟩
  · obtain ⟨o, e, _, d⟩ := x
    exact ⟨o, e, fun v q => by rw [d] at q; cases q⟩
section
variable {prog : Program} {w : World} {A : Around} {E : Value → Shared → Prop} {s : Shared} {K1 K2 : Bool} {z ti to i1 i2 l1 l2 : Addr} {k1 k2 : Nat} {xs ys : Array Value} {x y a b : Value}
theorem nx_item {K : Bool} {it l : Addr} {i : Nat} {its : Array Value} {v : Value} {Q : Value → Shared → Prop} (hit : ItAt K s.heap it l i) (hl : SqAt K s.heap l its) (hv : its[i]? = some v)
    (k : ∀ h', ItAt K h' it l (i + 1) → Heap.SameBut it s.heap h' → Q v { s with heap := h' }) : wpAny (model prog w) A (Builtin.SmallTypes.nextOf (.ref it)) Q E s := by
  cases K
  · exact RZ.nextOf_tuple_item hit hl hv k
  · exact wpAny_nextOf_list_item hit hl hv k
theorem nx_end {K : Bool} {it l : Addr} {i : Nat} {its : Array Value} {Q : Value → Shared → Prop} (hh : A.handled = none) (hit : ItAt K s.heap it l i) (hl : SqAt K s.heap l its) (hv : its[i]? = none)
    (k : ∀ h' e, Heap.ExtBut it s.heap h' → (∃ o, h'.get? e = some o ∧ o.cls = .type "StopIteration") → E (.ref e) { s with heap := h' }) : wpAny (model prog w) A (Builtin.SmallTypes.nextOf (.ref it)) Q E s := by
  cases K
  · exact RZ.nextOf_tuple_end hh hit hl hv k
  · exact wpAny_nextOf_list_end hh hit hl hv k
/-- what a zip stands on -/
structure ZAt (h : Heap) (K1 K2 : Bool) (z ti to i1 i2 l1 l2 : Addr) (k : Nat) : Prop where
  zp : IsZip h z ti to .none
  pi : IsPair h ti (.ref i1) (.ref i2)
  po : ∃ a b, IsPair h to a b
  u1 : ItAt K1 h i1 l1 k
  u2 : ItAt K2 h i2 l2 k
/-- the first field steps of a zip's next, up to the walk over its two iterators -/
theorem z_next {Q : Option Value → Shared → Prop} (hh : A.handled = none) (D : ZipApart z ti to i1 i2 l1 l2) (Z : ZAt s.heap K1 K2 z ti to i1 i2 l1 l2 k1) (s1 : SqAt K1 s.heap l1 xs) (s2 : SqAt K2 s.heap l2 ys)
    (hit : ∀ x y, xs[k1]? = some x → ys[k1]? = some y → ∀ h', IsZip h' z ti to (rawInt s.heap.objs.size) → IsPair h' to x y → ItAt K1 h' i1 l1 (k1 + 1) → ItAt K2 h' i2 l2 (k1 + 1) → IsPair h' s.heap.objs.size x y →
      (∀ c o, c ≠ z → c ≠ to → c ≠ i1 → c ≠ i2 → s.heap.get? c = some o → h'.get? c = some o) → Q (some (.ref s.heap.objs.size)) { s with heap := h' })
    (hend : (xs[k1]? = none ∨ ys[k1]? = none) → ∀ h', (∀ c o, c ≠ z → c ≠ to → c ≠ i1 → c ≠ i2 → s.heap.get? c = some o → h'.get? c = some o) → Q none { s with heap := h' }) :
    wpAny (model prog w) A (pyNext (.ref z)) Q E s := by
  obtain ⟨zp, pi, ⟨a, b, po⟩, u1, u2⟩ := Z
  have ty : s.TypeIs (.ref z) "zip" := ⟨_, zp, rfl⟩
  let R : Fin → Shared → Prop := fun fin s' => ∃ v, fin = .done (.ret v) ∧ Q (some v) s'
  let X : Value → Shared → Prop := fun e s' => ∃ r, e = .ref r ∧ (∃ o, s'.heap.get? r = some o ∧ o.cls = .type "StopIteration") ∧ Q none s'
  have core : wpAny (model prog w) A.in1 (Builtin.«zip.__next__» ⟨[.ref z], []⟩) R X s := by
    show wpAny _ _ (field (.ref z) 2 >>= _) _ _ _
    refine wpAny_bind (wpAny_field zp rfl (x := .bool false) rfl ?_); show wpAny _ _ (field (.ref z) 3 >>= _) _ _ _
    refine wpAny_bind (wpAny_field zp rfl (x := .ref ti) rfl ?_); refine wpAny_bind (wpAny_seqItems pi rfl ?_)
    show wpAny _ _ (Builtin.SmallTypes.ownedTupleIsFree (.ref z) >>= _) _ _ _; refine wpAny_bind ?_
    unfold Builtin.SmallTypes.ownedTupleIsFree; refine wpAny_bind (wpAny_field zp rfl (x := .none) rfl (wpAny_pure ?_))
    simp only [if_true]; refine wpAny_bind (wpAny_rule ?_); refine wpAny_bind (wpAny_field zp rfl (x := .ref to) rfl ?_)
    refine wpAny_bind (wpAny_setField_rec zp (by simp) fun ha za sa => ?_); replace za : IsZip ha z ti to .ellipsis := za
    refine wpAny_bind ?_; simp only [List.zipIdx_cons, List.zipIdx_nil, List.forIn_cons, List.forIn_nil]
    refine wpAny_bind (wpAny_bind (wpAny_onRaise ?_)); show wpAny _ _ (Builtin.SmallTypes.nextOf (.ref i1) >>= _) _ _ _
    have off : ∀ {hq : Heap} {e : Addr} {o : Obj}, IsZip hq z ti to .ellipsis → hq.get? e = some o → o.cls = .type "StopIteration" → e ≠ z := fun {hq e o} q1 q2 q3 q => by
      subst q
      rw [q1] at q2
      cases q2
      simp at q3
    cases ex : xs[k1]? with
    | none =>
      refine wpAny_bind (nx_end hh (u1.eb sa.extBut D.i1z) (s1.eb sa.extBut D.l1z) ex fun hb e sb st => ?_)
      obtain ⟨o, eo, co⟩ := st
      have zb : IsZip hb z ti to .ellipsis := sb _ _ D.i1z.symm za
      exact wpAny_setField_rec zb (by simp) fun hc _ sc => ⟨e, rfl, ⟨o, sc.extBut _ _ (off zb eo co) eo, co⟩, hend (.inl ex) hc fun c u c1 _ c3 _ q => sc.extBut _ _ c1 (sb _ _ c3 (sa.extBut _ _ c1 q))⟩
    | some x =>
      refine wpAny_bind (nx_item (u1.eb sa.extBut D.i1z) (s1.eb sa.extBut D.l1z) ex fun hb ub sb => wpAny_pure ?_)
      have pb : IsPair hb to a b := sb.extBut _ _ D.TOi1 (sa.extBut _ _ D.TOz po)
      refine wpAny_bind (wpAny_seqItems pb rfl ?_); refine wpAny_bind (wpAny_updateSeq_pair pb fun hc pc sc => ?_)
      replace pc : IsPair hc to x b := pc; refine wpAny_bind (wpAny_letGo (wpAny_pure ?_))
      refine wpAny_bind (wpAny_bind (wpAny_onRaise ?_)); show wpAny _ _ (Builtin.SmallTypes.nextOf (.ref i2) >>= _) _ _ _
      have uc := ((u2.eb sa.extBut D.i2z).eb sb.extBut D.i12.symm).eb sc.extBut D.TOi2.symm
      have qc := ((s2.eb sa.extBut D.l2z).eb sb.extBut D.l2i1).eb sc.extBut D.l2TO
      have zc : IsZip hc z ti to .ellipsis := sc.extBut _ _ D.TOz.symm (sb.extBut _ _ D.i1z.symm za)
      cases ey : ys[k1]? with
      | none =>
        refine wpAny_bind (nx_end hh uc qc ey fun hd e sd st => ?_)
        obtain ⟨o, eo, co⟩ := st
        have zd : IsZip hd z ti to .ellipsis := sd _ _ D.i2z.symm zc
        exact wpAny_setField_rec zd (by simp) fun hf _ sf => ⟨e, rfl, ⟨o, sf.extBut _ _ (off zd eo co) eo, co⟩, hend (.inr ey) hf fun c u c1 c2 c3 c4 q => sf.extBut _ _ c1 (sd _ _ c4 (sc.extBut _ _ c2 (sb.extBut _ _ c3 (sa.extBut _ _ c1 q))))⟩
      | some y =>
        refine wpAny_bind (nx_item uc qc ey fun hd ud sd => wpAny_pure ?_)
        have pd : IsPair hd to x b := sd.extBut _ _ D.TOi2 pc
        refine wpAny_bind (wpAny_seqItems pd rfl ?_); refine wpAny_bind (wpAny_updateSeq_pair pd fun hf pf sf => ?_)
        replace pf : IsPair hf to x y := pf; refine wpAny_bind (wpAny_letGo (wpAny_pure (wpAny_pure ?_)))
        refine wpAny_bind (wpAny_seqItems pf rfl ?_); refine wpAny_bind (wpAny_newTuple ?_)
        have sz : hf.objs.size = s.heap.objs.size := by rw [sf.1, sd.1, sc.1, sb.1, sa.1]
        have zf : IsZip hf z ti to .ellipsis := sf.extBut _ _ D.TOz.symm (sd.extBut _ _ D.i2z.symm zc)
        have kf : ∀ c o, c ≠ z → c ≠ to → c ≠ i1 → c ≠ i2 → s.heap.get? c = some o → hf.get? c = some o := fun c o c1 c2 c3 c4 q =>
          sf.extBut _ _ c2 (sd.extBut _ _ c4 (sc.extBut _ _ c2 (sb.extBut _ _ c3 (sa.extBut _ _ c1 q))))
        have v1 : ItAt K1 hf i1 l1 (k1 + 1) := ((ub.eb sc.extBut D.TOi1.symm).eb sd.extBut D.i12).eb sf.extBut D.TOi1.symm
        have v2 : ItAt K2 hf i2 l2 (k1 + 1) := ud.eb sf.extBut D.TOi2.symm
        have zl : z < hf.objs.size := Heap.lt_size zf
        show wpAny _ _ (Builtin.SmallTypes.ownedTupleHandOut (.ref z) (.ref hf.objs.size) >>= _) _ _ _; refine wpAny_bind ?_
        unfold Builtin.SmallTypes.ownedTupleHandOut
        have zg : IsZip (hf.push { cls := .type "tuple", data := .seq #[x, y] }) z ti to .ellipsis := Heap.get?_push_of_some _ zf
        refine wpAny_bind (wpAny_setField_rec zg (by simp) fun hg zg' sg => ?_); replace zg' : IsZip hg z ti to (rawInt hf.objs.size) := zg'
        refine wpAny_setField_rec zg' (by simp) fun hi zi si => ?_; replace zi : IsZip hi z ti to (rawInt hf.objs.size) := zi
        have up : ∀ c o, c ≠ z → hf.get? c = some o → hi.get? c = some o := fun c o c1 q => si.extBut _ _ c1 (sg.extBut _ _ c1 (Heap.get?_push_of_some _ q))
        have pt : IsPair hi hf.objs.size x y := si.extBut _ _ (Nat.ne_of_gt zl) (sg.extBut _ _ (Nat.ne_of_gt zl) (Heap.get?_push_size _ rfl))
        rw [sz] at zi pt
        refine wpAny_pure ⟨_, rfl, ?_⟩; show Q (some (.ref hf.objs.size)) _; rw [sz]
        exact hit x y ex ey hi zi (up _ _ D.TOz pf) (v1.mv fun o q => up _ o D.i1z q) (v2.mv fun o q => up _ o D.i2z q) pt fun c o c1 c2 c3 c4 q => up c o c1 (kf c o c1 c2 c3 c4 q)
  unfold pyNext
  refine wpAny_bind (wpAny_attempt (wpAny_callSpecial?_slot (name := Str.ofString "__next__") ty F.slot_zip_next (wpAny_call_entry F.slot_zip_next ty F.entry_zip_next ?_ (F.args_zip_next_1 _))))
  refine wpAny_mono core (fun fin s' q => ?_) fun e s' q => ?_
  · obtain ⟨v, e, q⟩ := q
    exact ⟨v, e, wpAny_pure q⟩
  · obtain ⟨r, rfl, ⟨o, eo, co⟩, q⟩ := q
    exact wpAny_bind (wpAny_isInstance (T := "StopIteration") (b := true) ⟨o, eo, co⟩ isSubtype_stop (wpAny_pure q))
/-! ### a new zip of a list and a tuple -/
abbrev zLT1 (h : Heap) (l : Addr) : Heap := h.push { cls := .type "list_iterator", data := .fields #[.ref l, .int 0 0] }
abbrev zLT2 (h : Heap) (l t : Addr) : Heap := (zLT1 h l).push { cls := .type "tuple_iterator", data := .fields #[.ref t, .int 0 0] }
abbrev zLT3 (h : Heap) (l t : Addr) : Heap := (zLT2 h l t).push { cls := .type "tuple", data := .seq #[.ref h.objs.size, .ref (zLT1 h l).objs.size] }
abbrev zLT4 (h : Heap) (l t : Addr) : Heap := (zLT3 h l t).push { cls := .type "tuple", data := .seq #[.none, .none] }
abbrev zLT5 (h : Heap) (l t : Addr) : Heap := (zLT4 h l t).push { cls := .type "zip", data := .fields #[.none, .bool false, .bool false, .ref (zLT2 h l t).objs.size, .ref (zLT3 h l t).objs.size] }
theorem new_zLT (l t : Addr) (xs ys : Array Value) : Meets (Builtin.«zip.__new__» ⟨[.type "zip", .ref l, .ref t], []⟩) (fun _ R s => s.heap.IsList l xs ∧ s.heap.IsTuple t ys ∧ R (.ok (.ret (.ref (zLT4 s.heap l t).objs.size))) { s with heap := zLT5 s.heap l t }) :=
  .of_wp fun prog w A R s h => by
    obtain ⟨hp, g, d, tk, os⟩ := s
    obtain ⟨q1, q2, h⟩ := h
    have e0 := sub_zip
    have e1 : Heap.IsList (Shared.heap ⟨hp, g, d, tk, os⟩) l xs := q1
    have e2 : Heap.IsTuple (Shared.heap ⟨hp.push { cls := .type "list_iterator", data := .fields #[.ref l, .int 0 0] }, g, d, tk, os⟩) t ys := Heap.IsTuple.push q2 _
    wp_walk using wpAny_pyIter_list e1, wpAny_pyIter_tuple e2
    exact ⟨_, rfl, h⟩
theorem call_zLT {l t : Addr} {Q : Value → Shared → Prop} (q1 : s.heap.IsList l xs) (q2 : s.heap.IsTuple t ys)
    (k : ∀ h', ZAt h' true false (s.heap.objs.size + 4) (s.heap.objs.size + 2) (s.heap.objs.size + 3) s.heap.objs.size (s.heap.objs.size + 1) l t 0 → (∀ c o, s.heap.get? c = some o → h'.get? c = some o) → Q (.ref (s.heap.objs.size + 4)) { s with heap := h' }) :
    wpAny (model prog w) A (call (.type "zip") [.ref l, .ref t]) Q E s := by
  refine callType_new F.called_zip (by decide) (F.typeCall_zip_2 _ _) (F.newCall_zip_2 _ _) (fun o => F.args_object_init_3 o _ _) F.entry_zip_new (new_zLT l t xs ys) ⟨q1, q2, ?_⟩
  have n1 : (zLT1 s.heap l).objs.size = s.heap.objs.size + 1 := Heap.size_push ..
  have n2 : (zLT2 s.heap l t).objs.size = s.heap.objs.size + 2 := by rw [Heap.size_push, n1]
  have n3 : (zLT3 s.heap l t).objs.size = s.heap.objs.size + 3 := by rw [Heap.size_push, n2]
  have n4 : (zLT4 s.heap l t).objs.size = s.heap.objs.size + 4 := by rw [Heap.size_push, n3]
  have up : ∀ {h : Heap} {c : Addr} {o u : Obj}, h.get? c = some o → (h.push u).get? c = some o := fun {h c o u} q => Heap.get?_push_of_some _ q
  have g5 : (zLT5 s.heap l t).get? (zLT4 s.heap l t).objs.size = some _ := Heap.get?_push_size _ rfl
  have g4 : (zLT5 s.heap l t).get? (zLT3 s.heap l t).objs.size = some _ := up (Heap.get?_push_size _ rfl)
  have g3 : (zLT5 s.heap l t).get? (zLT2 s.heap l t).objs.size = some _ := up (up (Heap.get?_push_size _ rfl))
  have g2 : (zLT5 s.heap l t).get? (zLT1 s.heap l).objs.size = some _ := up (up (up (Heap.get?_push_size _ rfl)))
  have g1 : (zLT5 s.heap l t).get? s.heap.objs.size = some _ := up (up (up (up (Heap.get?_push_size _ rfl))))
  show _ ∧ _
  rw [n2, n3, n4] at g5
  rw [n1, n2] at g3
  rw [n3] at g4
  rw [n1] at g2
  rw [n4]
  exact ⟨⟨_, g5, rfl⟩, k _ ⟨g5, g3, ⟨_, _, g4⟩, ⟨_, g1, rfl, rfl⟩, ⟨_, g2, rfl, rfl⟩⟩ fun c o q => up (up (up (up (up q))))⟩
end
/-- the walk over a list and a tuple -/
def ItLT (K : PySem.W.Frag) (a b : Addr) : It :=
  ⟨fun i H => ∃ (us vs : List V) (u v : V), SqL K H a us ∧ SqT K H b vs ∧ us[i]? = some u ∧ vs[i]? = some v,
    fun i H r H' => ∃ t u v, r = .ref t ∧ H t = none ∧ H' = upd H t (.tup [u, v]) ∧ (∀ us, SqL K H a us → us[i]? = some u) ∧ ∀ vs, SqT K H b vs → vs[i]? = some v,
    fun i H => ∃ us vs : List V, SqL K H a us ∧ SqT K H b vs ∧ (us.length ≤ i ∨ vs.length ≤ i)⟩
theorem turn_LT {P : Program} {w : World} {K : PySem.W.Frag} {es : List Expr} {n : Nat} {tp : Pos} {a b z ti to i1 i2 : Addr} (D : ZipApart z ti to i1 i2 a b) :
    Turn P w K (.Tuple es n tp) (ItLT K a b) [z, ti, to, i1, i2] z (fun i h => ZAt h true false z ti to i1 i2 a b i) where
  mem := by simp
  obj := fun i h st c hc => by
    obtain ⟨zp, pi, ⟨x, y, po⟩, u1, u2⟩ := st
    simp only [List.mem_cons, List.not_mem_nil, or_false] at hc
    rcases hc with rfl | rfl | rfl | rfl | rfl
    · exact ⟨_, zp, fun v q => nomatch q⟩
    · exact ⟨_, pi, fun v q => nomatch q⟩
    · exact ⟨_, po, fun v q => nomatch q⟩
    · exact u1.lt
    · exact u2.lt
  keep := fun i h h' st k => by
    obtain ⟨zp, pi, ⟨x, y, po⟩, u1, u2⟩ := st
    exact ⟨k z (by simp) _ zp, k ti (by simp) _ pi, ⟨x, y, k to (by simp) _ po⟩, u1.mv fun o q => k i1 (by simp) o q, u2.mv fun o q => k i2 (by simp) o q⟩
  item := by
    intro X hP hw hK hc i pins s σ H E I hf st hg
    subst hP hw hK
    obtain ⟨us, vs, u, v, qx, qy, hx, hy⟩ := hg
    obtain ⟨its, rv, p, _⟩ := I.list qx
    obtain ⟨its2, rv2, p2, _⟩ := I.tuple qy
    obtain ⟨ux, eux, ru⟩ := rv.get hx
    obtain ⟨uy, euy, rv'⟩ := rv2.get hy
    have zp := st.zp
    have zl : z < s.heap.objs.size := Heap.lt_size zp
    refine z_next (xs := its.toArray) (ys := its2.toArray) (I.ok.hd hc) D st p.isList p2 (fun x y ex ey h' zp' po' v1 v2 nt hk => ?_) fun q h' hk => ?_
    · have e1 : x = ux := by
        rw [show its.toArray[i]? = some ux by simpa using eux] at ex
        exact (Option.some.inj ex).symm
      have e2 : y = uy := by
        rw [show its2.toArray[i]? = some uy by simpa using euy] at ey
        exact (Option.some.inj ey).symm
      subst e1 e2
      refine ⟨_, rfl, wpAny_letOwnedTupleGo_zip (s := { s with heap := h' }) zp' fun h2 zp2 sb => ?_⟩
      have t2 : h2.get? s.heap.objs.size = some { cls := .type "tuple", data := .seq #[x, y] } := (sb.2 _ (Nat.ne_of_gt zl)).trans nt
      have nw : ObjOk X.prog X.w (upd H s.heap.objs.size (.tup [u, v])) h2 s.heap.objs.size (.tup [u, v]) := ⟨by show 2 ≤ sizeLine; decide, [x, y], .cons ru (.cons rv' .nil), ⟨_, t2, rfl, _, rfl⟩⟩
      have J : Inv X pins σ (upd H s.heap.objs.size (.tup [u, v])) { s with heap := h2 } := I.turnedNew (t' := s.toks) (ch := [z, ti, to, i1, i2]) (fun c o hb q =>
        (sb.2 c (fun r => hb (by simp [r]))).trans (hk c o (fun r => hb (by simp [r])) (fun r => hb (by simp [r])) (fun r => hb (by simp [r])) (fun r => hb (by simp [r])) q)) hf (Nat.le_refl _) nw
      refine ⟨.ref s.heap.objs.size, _, J, rfl, ⟨_, u, v, rfl, I.hok.fresh (Nat.le_refl _), rfl, fun l hl => by rw [I.list_inj hl qx]; exact hx, fun l hl => by rw [I.tuple_inj hl qy]; exact hy⟩,
        ⟨zp2, (sb.2 _ D.TIz).trans (hk _ _ D.TIz D.TITO D.TIi1 D.TIi2 st.pi), ⟨x, y, (sb.2 _ D.TOz).trans po'⟩, v1.mv fun o q => (sb.2 _ D.i1z).trans q, v2.mv fun o q => (sb.2 _ D.i2z).trans q⟩, fun c hm => ?_⟩
      have lt : c < s.heap.objs.size := by
        obtain ⟨po1, po2, po⟩ := st.po
        obtain ⟨_, w1, _⟩ := st.u1.lt
        obtain ⟨_, w2, _⟩ := st.u2.lt
        have pi := st.pi
        simp only [List.mem_cons, List.not_mem_nil, or_false] at hm
        rcases hm with rfl | rfl | rfl | rfl | rfl
        · exact zl
        · exact Heap.lt_size pi
        · exact Heap.lt_size po
        · exact Heap.lt_size w1
        · exact Heap.lt_size w2
      rw [upd_ne (Nat.ne_of_lt lt)]
      exact (hf c hm).1
    · rcases q with q | q
      · rw [show its.toArray[i]? = some ux by simpa using eux] at q
        cases q
      · rw [show its2.toArray[i]? = some uy by simpa using euy] at q
        cases q
  done := by
    intro X hP hw hK hc i pins s σ H E I hf st hg
    subst hP hw hK
    obtain ⟨us, vs, qx, qy, he⟩ := hg
    obtain ⟨its, rv, p, _⟩ := I.list qx
    obtain ⟨its2, rv2, p2, _⟩ := I.tuple qy
    have l1 := rv.length
    have l2 := rv2.length
    refine z_next (xs := its.toArray) (ys := its2.toArray) (I.ok.hd hc) D st p.isList p2 (fun x y ex ey h' _ _ _ _ _ _ => ?_) fun _ h' hk => ?_
    · exfalso
      have w1 := (Array.getElem?_eq_some_iff.mp ex).1
      have w2 := (Array.getElem?_eq_some_iff.mp ey).1
      simp at w1 w2
      omega
    · exact ⟨rfl, I.turnedL (t' := s.toks) (ch := [z, ti, to, i1, i2]) (fun c o hb q => hk c o (fun r => hb (by simp [r])) (fun r => hb (by simp [r])) (fun r => hb (by simp [r])) (fun r => hb (by simp [r])) q) hf⟩
  self := fun A i s Q E st h => wpAny_pyIter_zip st.zp h
def iZipLT (K : PySem.W.Frag) (ta : TA) : TI := fun σ H R => ta σ H fun vs H1 => ∃ a b xs ys, vs = [.ref a, .ref b] ∧ SqL K H1 a xs ∧ SqT K H1 b ys ∧ R (ItLT K a b) H1
theorem pi_zipLT {X : Cx} {e e2 : Expr} {ta : TA} {p pos tp : Pos} {es : List Expr} {n : Nat} (hg : Gl X "zip") (hm : X.mg "zip" = none) (ha : PA X [e, e2] ta) (hs : starEach [e, e2] X.env = (false, eval e X.env) :: starEach [e2] X.env)
    (hpl : (backTo pos (starEach [e2] X.env)).any (·.1) = false) : PI X (.Tuple es n tp) (.Call (.Name "zip" p) [e, e2] [] pos) (iZipLT X.K ta) := by
  refine ⟨fun pins s σ H R I h => ?_⟩
  refine Call_ (ld_blt I hg hm PyProof.Rows.boot_zip (PyProof.Rows.callWith_type1 (thn (ha.run pos pins s σ H _ I h) fun us s1 ⟨vs, H1, J, r1, q1⟩ => ?_) hs hpl))
  obtain ⟨a, b, xs, ys, ev, qx, qy, q⟩ := q1
  subst ev
  cases r1 with
  | cons ra rt =>
    cases rt with
    | cons rb rn =>
      cases rn
      cases ra
      cases rb
      have five : ∀ c, c ∈ [s1.heap.objs.size + 4, s1.heap.objs.size + 2, s1.heap.objs.size + 3, s1.heap.objs.size, s1.heap.objs.size + 1] → FpOk X pins H1 c := fun c hm => by
        have le : s1.heap.objs.size ≤ c := by
          generalize s1.heap.objs.size = n0 at hm
          simp only [List.mem_cons, List.not_mem_nil, or_false] at hm
          omega
        exact J.fpOk le (J.hok.fresh le)
      obtain ⟨its, rv, p1, _⟩ := J.list qx
      obtain ⟨its2, rv2, p2, _⟩ := J.tuple qy
      obtain ⟨o2, e2, _⟩ := id p2
      refine call_zLT (xs := its.toArray) (ys := its2.toArray) p1.isList p2 fun h' z k => wpAny_pyIter_zip z.zp ?_
      have J2 : Inv X pins σ H1 { s1 with heap := h' } := J.kept (t' := s1.toks) k
      exact ⟨s1.heap.objs.size + 4, [s1.heap.objs.size + 4, s1.heap.objs.size + 2, s1.heap.objs.size + 3, s1.heap.objs.size, s1.heap.objs.size + 1], _, _, H1, rfl, J2, turn_LT (PySem.W.ktu_apart s1.heap.objs.size a b p1.lt (Heap.lt_size e2)), z, five, q⟩
end Eg
/-! Eg14: what is walked; targets. -/
namespace Eg
open PySem PySem.Spec PyProof.Rows L2
/-- the heap is the same, or a new thing stands in it -/
def Grow (H H' : Hp) : Prop := H' = H ∨ ∃ T o, H T = none ∧ H' = upd H T o
theorem Grow.aft {W : Wd} {σ : L2.St} {O : Own} {H H' : Hp} {r : Rho} (g : Grow H H') (E : EnvOk W O H σ r) : Aft W σ O H r O H' r := by
  rcases g with rfl | ⟨T, o, n, rfl⟩
  · exact .refl E
  · exact aft_new E n
/-- J walks the items xs, whatever becomes of the rest -/
structure Walks (W : Wd) (O : Own) (H : Hp) (J : It) (xs : List D) : Prop where
  stop : ∀ (O1 : Own) (H1 : Hp), Sub (mns H O) (mns H1 O1) → J.stop xs.length H1
  go : ∀ (O1 : Own) (H1 : Hp) (i : Nat), Sub (mns H O) (mns H1 O1) → i < xs.length → J.go i H1
  yld : ∀ (O1 : Own) (H1 : Hp) (i : Nat) (d : D) (v : V) (H2 : Hp), Sub (mns H O) (mns H1 O1) → (∀ a, O1 a → ∃ o, H1 a = some o) → xs[i]? = some d → J.yld i H1 v H2 → Grow H1 H2 ∧ Rp W (mns H2 O1) v d
def tI (W : Wd) (cl : Cal) (wx : WX) (c : CE) : TI := fun σ H R => ∃ O r, EnvOk W O H σ r ∧ Good (fun xs r' => ∀ J H' O', Aft W σ O H r O' H' r' → Walks W O' H' J xs → R J H') (wishOf W wx σ O H r) (evI cl c r)
theorem _root_.L2.PI.wk {X : Cx} {tg e : Expr} {t t' : TI} (h : PI X tg e t) (k : ∀ σ H Q, t' σ H Q → t σ H Q) : PI X tg e t' := ⟨fun pins s σ H Q I q => h.run pins s σ H Q I (k σ H Q q)⟩
section
variable {W : Wd} {cl : Cal} {wx : WX} {X : Cx} {pos : Pos} {O : Own} {H : Hp}
theorem walks_list {a : Addr} {vs : List V} {ds : List D} (s : Rd (mns H O) a (.lst vs)) (l : RpL W (mns H O) vs ds) : Walks W O H (Itl W.K a) ds where
  stop := fun O1 H1 sb => ⟨vs, .inl (sub_rd mns_sub (sub_rd sb s)), by rw [l.length]; exact Nat.le_refl _⟩
  go := fun O1 H1 i sb hi => by
    obtain ⟨v, e, _⟩ := l.get (List.getElem?_eq_getElem hi)
    exact ⟨vs, v, .inl (sub_rd mns_sub (sub_rd sb s)), e⟩
  yld := fun O1 H1 i d v H2 sb al hd y => by
    obtain ⟨e, h⟩ := y
    subst e
    obtain ⟨u, eu, q⟩ := l.get hd
    have := h vs (.inl (sub_rd mns_sub (sub_rd sb s)))
    rw [eu] at this
    cases this
    exact ⟨.inl rfl, q.mono sb⟩
theorem walks_tup {a : Addr} {vs : List V} {ds : List D} (s : SqT W.K (mns H O) a vs) (l : RpL W (mns H O) vs ds) : Walks W O H (Itt W.K a) ds where
  stop := fun O1 H1 sb => ⟨vs, sub_t mns_sub (sub_t sb s), by rw [l.length]; exact Nat.le_refl _⟩
  go := fun O1 H1 i sb hi => by
    obtain ⟨v, e, _⟩ := l.get (List.getElem?_eq_getElem hi)
    exact ⟨vs, v, sub_t mns_sub (sub_t sb s), e⟩
  yld := fun O1 H1 i d v H2 sb al hd y => by
    obtain ⟨e, h⟩ := y
    subst e
    obtain ⟨u, eu, q⟩ := l.get hd
    have := h vs (sub_t mns_sub (sub_t sb s))
    rw [eu] at this
    cases this
    exact ⟨.inl rfl, q.mono sb⟩
theorem walks_range {lo : Int} {n : Nat} : Walks W O H (Itr lo n) ((List.range n).map fun (k : Nat) => D.int (lo + k)) where
  stop := fun O1 H1 sb => by
    show n ≤ _
    simp
  go := fun O1 H1 i sb hi => by
    show i < n
    simpa using hi
  yld := fun O1 H1 i d v H2 sb al hd y => by
    obtain ⟨e, h⟩ := y
    subst e h
    have hd : ((List.range n).map fun (k : Nat) => D.int (lo + k))[i]? = some d := hd
    rw [List.getElem?_map] at hd
    obtain ⟨k, hk, rfl⟩ := Option.map_eq_some_iff.mp hd
    have : k = i := by
      have := List.getElem?_eq_some_iff.mp hk
      obtain ⟨h1, h2⟩ := this
      simpa using h2.symm
    subst this
    exact ⟨.inl rfl, .int _⟩
theorem pair_new {O1 : Own} {H1 : Hp} {T : Addr} {x y : V} {d e : D} (al : ∀ a, O1 a → ∃ o, H1 a = some o) (n : H1 T = none) (q1 : Rp W (mns H1 O1) x d) (q2 : Rp W (mns H1 O1) y e) : Rp W (mns (upd H1 T (.tup [x, y])) O1) (.ref T) (.tup [d, e]) := by
  have nO : ¬ O1 T := fun h => by
    obtain ⟨o, z⟩ := al T h
    rw [n] at z
    cases z
  exact .tup (SqT.of (mns_some.mpr ⟨nO, upd_same⟩)) (.cons (q1.mono (subm_new n)) (.cons (q2.mono (subm_new n)) .nil))
theorem enumD_get : ∀ {xs : List D} {k i : Nat} {d : D}, (enumD k xs)[i]? = some d → ∃ x, xs[i]? = some x ∧ d = .tup [.int ((k + i : Nat) : Int), x]
  | [], k, i, d, h => by simp [enumD] at h
  | x :: xs, k, 0, d, h => by
    simp [enumD] at h
    exact ⟨x, rfl, by rw [← h]; rfl⟩
  | x :: xs, k, i + 1, d, h => by
    have h : (enumD (k + 1) xs)[i]? = some d := by simpa [enumD] using h
    obtain ⟨y, h1, h2⟩ := enumD_get h
    exact ⟨y, by simpa using h1, by rw [h2, show k + 1 + i = k + (i + 1) by omega]⟩
theorem enumD_len : ∀ {xs : List D} {k : Nat}, (enumD k xs).length = xs.length
  | [], k => rfl
  | x :: xs, k => by simp [enumD, enumD_len]
theorem walks_enum {a : Addr} {vs : List V} {ds : List D} (s : Rd (mns H O) a (.lst vs)) (l : RpL W (mns H O) vs ds) : Walks W O H (Ite W.K a) (enumD 0 ds) where
  stop := fun O1 H1 sb => ⟨vs, .inl (sub_rd mns_sub (sub_rd sb s)), by rw [l.length, enumD_len]; exact Nat.le_refl _⟩
  go := fun O1 H1 i sb hi => by
    rw [enumD_len] at hi
    obtain ⟨v, e, _⟩ := l.get (List.getElem?_eq_getElem hi)
    exact ⟨vs, v, .inl (sub_rd mns_sub (sub_rd sb s)), e⟩
  yld := fun O1 H1 i d v H2 sb al hd y => by
    obtain ⟨T, x, e, n, e2, h⟩ := y
    subst e e2
    obtain ⟨z, hz, rfl⟩ := enumD_get hd
    obtain ⟨u, eu, q⟩ := l.get hz
    have := h vs (.inl (sub_rd mns_sub (sub_rd sb s)))
    rw [eu] at this
    cases this
    refine ⟨.inr ⟨T, _, n, rfl⟩, ?_⟩
    rw [show 0 + i = i by omega]
    exact pair_new al n (.int _) (q.mono sb)
theorem zipD_get : ∀ {xs ys : List D} {i : Nat} {d : D}, (zipD xs ys)[i]? = some d → ∃ x y, xs[i]? = some x ∧ ys[i]? = some y ∧ d = .tup [x, y]
  | [], ys, i, d, h => by simp [zipD] at h
  | _ :: _, [], i, d, h => by simp [zipD] at h
  | x :: xs, y :: ys, 0, d, h => by
    simp [zipD] at h
    exact ⟨x, y, rfl, rfl, h.symm⟩
  | x :: xs, y :: ys, i + 1, d, h => by
    have h : (zipD xs ys)[i]? = some d := by simpa [zipD] using h
    obtain ⟨a, b, h1, h2, h3⟩ := zipD_get h
    exact ⟨a, b, by simpa using h1, by simpa using h2, h3⟩
theorem zipD_len : ∀ {xs ys : List D}, (zipD xs ys).length = min xs.length ys.length
  | [], ys => by simp [zipD]
  | _ :: _, [] => by simp [zipD]
  | x :: xs, y :: ys => by
    simp only [zipD, List.length_cons, zipD_len]
    omega
theorem walks_zip {a b : Addr} {vs us : List V} {ds es : List D} (s : Rd (mns H O) a (.lst vs)) (l : RpL W (mns H O) vs ds) (s2 : Rd (mns H O) b (.lst us)) (l2 : RpL W (mns H O) us es) : Walks W O H (Itz W.K a b) (zipD ds es) where
  stop := fun O1 H1 sb => ⟨vs, us, .inl (sub_rd mns_sub (sub_rd sb s)), .inl (sub_rd mns_sub (sub_rd sb s2)), by rw [l.length, l2.length, zipD_len]; omega⟩
  go := fun O1 H1 i sb hi => by
    rw [zipD_len] at hi
    obtain ⟨v, e, _⟩ := l.get (List.getElem?_eq_getElem (show i < ds.length by omega))
    obtain ⟨v2, e2, _⟩ := l2.get (List.getElem?_eq_getElem (show i < es.length by omega))
    exact ⟨vs, us, v, v2, .inl (sub_rd mns_sub (sub_rd sb s)), .inl (sub_rd mns_sub (sub_rd sb s2)), e, e2⟩
  yld := fun O1 H1 i d v H2 sb al hd y => by
    obtain ⟨T, x, y, e, n, e2, h, h2⟩ := y
    subst e e2
    obtain ⟨z, z2, hz, hz2, rfl⟩ := zipD_get hd
    obtain ⟨u, eu, q⟩ := l.get hz
    obtain ⟨u2, eu2, q2⟩ := l2.get hz2
    have t1 := h vs (.inl (sub_rd mns_sub (sub_rd sb s)))
    rw [eu] at t1
    cases t1
    have t2 := h2 us (.inl (sub_rd mns_sub (sub_rd sb s2)))
    rw [eu2] at t2
    cases t2
    exact ⟨.inr ⟨T, _, n, rfl⟩, pair_new al n (q.mono sb) (q2.mono sb)⟩
theorem good_and2 {α : Type} {p : α → Rho → Prop} {w : Exn → Rho → Prop} {x : Out α} {P : α → Rho → Prop} (h : Good p w x) (k : ∀ a r, x = .ok a r → P a r) : Good (fun a r => P a r ∧ p a r) w x := by
  cases x with
  | ok a r => exact ⟨k a r rfl, h⟩
  | ex e r => exact h
  | no => exact h
theorem walks_zipLT {a b : Addr} {vs us : List V} {ds es : List D} (s : Rd (mns H O) a (.lst vs)) (l : RpL W (mns H O) vs ds) (s2 : SqT W.K (mns H O) b us) (l2 : RpL W (mns H O) us es) : Walks W O H (ItLT W.K a b) (zipD ds es) where
  stop := fun O1 H1 sb => ⟨vs, us, .inl (sub_rd mns_sub (sub_rd sb s)), sub_t mns_sub (sub_t sb s2), by rw [l.length, l2.length, zipD_len]; omega⟩
  go := fun O1 H1 i sb hi => by
    rw [zipD_len] at hi
    obtain ⟨v, e, _⟩ := l.get (List.getElem?_eq_getElem (show i < ds.length by omega))
    obtain ⟨v2, e2, _⟩ := l2.get (List.getElem?_eq_getElem (show i < es.length by omega))
    exact ⟨vs, us, v, v2, .inl (sub_rd mns_sub (sub_rd sb s)), sub_t mns_sub (sub_t sb s2), e, e2⟩
  yld := fun O1 H1 i d v H2 sb al hd y => by
    obtain ⟨T, x, y, e, n, e2, h, h2⟩ := y
    subst e e2
    obtain ⟨z, z2, hz, hz2, rfl⟩ := zipD_get hd
    obtain ⟨u, eu, q⟩ := l.get hz
    obtain ⟨u2, eu2, q2⟩ := l2.get hz2
    have t1 := h vs (.inl (sub_rd mns_sub (sub_rd sb s)))
    rw [eu] at t1
    cases t1
    have t2 := h2 us (sub_t mns_sub (sub_t sb s2))
    rw [eu2] at t2
    cases t2
    exact ⟨.inr ⟨T, _, n, rfl⟩, pair_new al n (q.mono sb) (q2.mono sb)⟩
theorem walks_zipT {a b : Addr} {vs us : List V} {ds es : List D} (s : SqT W.K (mns H O) a vs) (l : RpL W (mns H O) vs ds) (s2 : SqT W.K (mns H O) b us) (l2 : RpL W (mns H O) us es) : Walks W O H (RZ.ItzT W.K a b) (zipD ds es) where
  stop := fun O1 H1 sb => ⟨vs, us, sub_t mns_sub (sub_t sb s), sub_t mns_sub (sub_t sb s2), by rw [l.length, l2.length, zipD_len]; omega⟩
  go := fun O1 H1 i sb hi => by
    rw [zipD_len] at hi
    obtain ⟨v, e, _⟩ := l.get (List.getElem?_eq_getElem (show i < ds.length by omega))
    obtain ⟨v2, e2, _⟩ := l2.get (List.getElem?_eq_getElem (show i < es.length by omega))
    exact ⟨vs, us, v, v2, sub_t mns_sub (sub_t sb s), sub_t mns_sub (sub_t sb s2), e, e2⟩
  yld := fun O1 H1 i d v H2 sb al hd y => by
    obtain ⟨T, x, y, e, n, e2, h, h2⟩ := y
    subst e e2
    obtain ⟨z, z2, hz, hz2, rfl⟩ := zipD_get hd
    obtain ⟨u, eu, q⟩ := l.get hz
    obtain ⟨u2, eu2, q2⟩ := l2.get hz2
    have t1 := h vs (sub_t mns_sub (sub_t sb s))
    rw [eu] at t1
    cases t1
    have t2 := h2 us (sub_t mns_sub (sub_t sb s2))
    rw [eu2] at t2
    cases t2
    exact ⟨.inr ⟨T, _, n, rfl⟩, pair_new al n (q.mono sb) (q2.mono sb)⟩
theorem walks_enumT {a : Addr} {vs : List V} {ds : List D} (s : SqT W.K (mns H O) a vs) (l : RpL W (mns H O) vs ds) : Walks W O H (IteT W.K a) (enumD 0 ds) where
  stop := fun O1 H1 sb => ⟨vs, sub_t mns_sub (sub_t sb s), by rw [enumD_len, l.length]⟩
  go := fun O1 H1 i sb hi => by
    rw [enumD_len] at hi
    obtain ⟨v, e, _⟩ := l.get (List.getElem?_eq_getElem hi)
    exact ⟨vs, v, sub_t mns_sub (sub_t sb s), e⟩
  yld := fun O1 H1 i d v H2 sb al hd y => by
    obtain ⟨T, x, e, n, e2, h⟩ := y
    subst e e2
    obtain ⟨z, hz, rfl⟩ := enumD_get hd
    obtain ⟨u, eu, q⟩ := l.get hz
    have t1 := h vs (sub_t mns_sub (sub_t sb s))
    rw [eu] at t1
    cases t1
    refine ⟨.inr ⟨T, _, n, rfl⟩, ?_⟩
    have e0 : (0 + i : Nat) = i := by omega
    rw [e0]
    exact pair_new al n (.int _) (q.mono sb)
theorem RpN.key {H : Hp} : ∀ {xs : List NEnt} {ds : List (D × D)} {i : Nat} {d : D}, RpN W H xs ds → (ds.map (·.1))[i]? = some d → ∃ e, xs[i]? = some e ∧ Rp W H (.ref e.2.1) d
  | _, _, i, d, .nil, h => by simp at h
  | _, _, 0, d, .cons hk hb hv r, h => by
    simp at h
    subst h
    exact ⟨_, rfl, hb⟩
  | _, _, i + 1, d, .cons hk hb hv r, h => by
    obtain ⟨e, h1, h2⟩ := RpN.key (i := i) r (by simpa using h)
    exact ⟨e, by simpa using h1, h2⟩
theorem walks_dn {a : Addr} {o : Obj} {xs : List NEnt} {ds : List (D × D)} (s : (mns H O) a = some (dnO a o)) (l : RpN W (mns H O) xs ds) : Walks W O H (Itn a o xs) (ds.map (·.1)) where
  stop := fun O1 H1 sb => ⟨mns_sub _ _ (sb _ _ s), by rw [List.length_map, l.length]; exact Nat.le_refl _⟩
  go := fun O1 H1 i sb hi => ⟨mns_sub _ _ (sb _ _ s), by rw [l.length]; simpa using hi⟩
  yld := fun O1 H1 i d v H2 sb al hd y => by
    obtain ⟨e1, e, e2, e3⟩ := y
    subst e1 e3
    obtain ⟨e', h1, h2⟩ := l.key hd
    rw [e2] at h1
    cases h1
    exact ⟨.inl rfl, h2.mono sb⟩
/-! ### the walked things of the text -/
def iSeq (K : PySem.W.Frag) (tl : TE) : TI := fun σ H R => tl σ H fun x H1 => (∃ a, x = .ref a ∧ (∃ xs, SqL K H1 a xs) ∧ R (Itl K a) H1) ∨ ∃ a, x = .ref a ∧ (∃ xs, SqT K H1 a xs) ∧ R (Itt K a) H1
theorem pi_seq {tg l : Expr} {tl : TE} (hl : PE X l tl) : PI X tg l (iSeq X.K tl) := by
  refine ⟨fun pins s σ H R I h => ?_⟩
  refine thn (hl.run pins s σ H _ I h) fun v s1 ⟨x, H1, I1, r1, q1⟩ => ?_
  rcases q1 with ⟨a, e, ⟨xs, hq⟩, q⟩ | ⟨a, e, ⟨xs, hq⟩, q⟩
  · subst e
    cases r1
    obtain ⟨its, rv, p, hz⟩ := I1.list hq
    refine wpAny_pyIter_list p.isList ?_
    refine ⟨s1.heap.objs.size, [s1.heap.objs.size], _, _, H1, rfl, I1.kept (t' := s1.toks) fun b o e => Heap.get?_push_of_some _ e, turn_list a _, ⟨_, Heap.get?_push_size _ rfl, rfl, rfl⟩, fun b hb => ?_, q⟩
    have e : b = s1.heap.objs.size := by simpa using hb
    subst e
    exact I1.fpOk (Nat.le_refl _) (I1.hok.fresh (Nat.le_refl _))
  · subst e
    cases r1
    obtain ⟨its, rv, p, hz⟩ := I1.tuple hq
    refine wpAny_pyIter_tuple (show s1.heap.IsTuple a its.toArray from p) ?_
    refine ⟨s1.heap.objs.size, [s1.heap.objs.size], _, _, H1, rfl, I1.kept (t' := s1.toks) fun b o e => Heap.get?_push_of_some _ e, turn_tuple a _, ⟨_, Heap.get?_push_size _ rfl, rfl, rfl⟩, fun b hb => ?_, q⟩
    have e : b = s1.heap.objs.size := by simpa using hb
    subst e
    exact I1.fpOk (Nat.le_refl _) (I1.hok.fresh (Nat.le_refl _))
theorem si_seq {tg e : Expr} {c : CE} (hW : W = ⟨X.prog, X.w, X.K⟩) (h : SE W cl wx X c e) : PI X tg e (tI W cl wx (.seq c)) := by
  have eK : X.K = W.K := by rw [hW]
  refine (PI.either (pi_seq h.v) (pi_dn h.v)).wk fun σ H R ⟨O, r, E, q⟩ => ?_
  by_cases hdn : ∃ x r0 ds, ev cl c .val r = .ok x r0 ∧ x.2 = .dn ds
  · obtain ⟨x0, r0, ds, e0, ex0⟩ := hdn
    right
    refine tV.sh (p := fun x r1 => x = x0 ∧ _) E (good_and (good_bind.mp q) fun x r1 hx => ?_) fun x r1 v H1 O1 hp a1 q1 => ?_
    · rw [e0] at hx
      cases hx
      rfl
    obtain ⟨rfl, hp⟩ := hp
    obtain ⟨xs, ex, hq⟩ := good_lift.mp hp
    rw [ex0] at ex q1
    cases ex
    cases q1 with
    | dn s k l =>
      have k' := k
      rw [hW] at k'
      exact ⟨_, _, _, rfl, mns_sub _ _ s, k', hq _ H1 O1 a1 (walks_dn s l)⟩
  left
  have ndn : ∀ x r0 ds, ev cl c .val r = .ok x r0 → x.2 ≠ .dn ds := fun x r0 ds e1 e2 => hdn ⟨x, r0, ds, e1, e2⟩
  rw [eK]
  refine tV.sh (p := fun x r1 => (∀ ds, x.2 ≠ .dn ds) ∧ _) E (good_and (good_bind.mp q) fun x r1 hx ds => ndn x r1 ds hx) fun x r1 v H1 O1 hp a1 q1 => ?_
  obtain ⟨nd, hp⟩ := hp
  obtain ⟨xs, ex, hq⟩ := good_lift.mp hp
  cases hx : x.2 with
  | dn ds => exact (nd ds hx).elim
  | lst ds =>
    rw [hx] at ex q1
    cases ex
    cases q1 with
    | lst s l => exact .inl ⟨_, rfl, ⟨_, .inl (sub_rd mns_sub s)⟩, hq _ H1 O1 a1 (walks_list s l)⟩
  | tup ds =>
    rw [hx] at ex q1
    cases ex
    cases q1 with
    | tup s l => exact .inr ⟨_, rfl, ⟨_, sub_t mns_sub s⟩, hq _ H1 O1 a1 (walks_tup s l)⟩
  | _ =>
    rw [hx] at ex
    cases ex
theorem rangeD_ok {a b : Int} {xs : List D} (h : rangeD a b = some xs) : (-(2 ^ 62) ≤ a ∧ a < 2 ^ 62 ∧ -(2 ^ 62) ≤ b ∧ b < 2 ^ 62) ∧ xs = (List.range (b - a).toNat).map fun (k : Nat) => D.int (a + k) := by
  unfold rangeD at h
  by_cases hc : -(2 ^ 62) ≤ a ∧ a < 2 ^ 62 ∧ -(2 ^ 62) ≤ b ∧ b < 2 ^ 62
  · rw [if_pos hc] at h
    cases h
    exact ⟨hc, rfl⟩
  · rw [if_neg hc] at h
    cases h
theorem si_range1 {tg e : Expr} {c : CE} {p : Pos} (h : SE W cl wx X c e) (hg : Gl X "range") (hm : X.mg "range" = none) (hs : starEach [e] X.env = [(false, eval e X.env)]) : PI X tg (.Call (.Name "range" p) [e] [] pos) (tI W cl wx (.rng1 c)) := by
  refine (pi_range1 hg hm (pa_cons h.r pa_nil hs) hs).wk fun σ H R ⟨O, r, E, q⟩ => ?_
  refine tR.at E (good_bind.mp q) fun x r1 v H1 O1 hp a1 q1 => ?_
  cases hx : x.2 with
  | int j =>
    rw [hx] at hp q1
    obtain rfl := q1.int
    obtain ⟨xs, ex, hq⟩ := good_lift.mp hp
    obtain ⟨hc, rfl⟩ := rangeD_ok ex
    refine ⟨j, rfl, hc.2.2.1, hc.2.2.2, hq _ H1 O1 a1 ?_⟩
    have e : (j - 0).toNat = j.toNat := by simp
    rw [e]
    exact walks_range
  | _ =>
    rw [hx] at hp
    exact hp.elim
theorem si_enum {e : Expr} {c : CE} {p tpos : Pos} {elts : List Expr} {kk : Nat} (hW : W = ⟨X.prog, X.w, X.K⟩) (h : SE W cl wx X c e) (hg : Gl X "enumerate") (hm : X.mg "enumerate" = none) (hs : starEach [e] X.env = [(false, eval e X.env)]) : PI X (.Tuple elts kk tpos) (.Call (.Name "enumerate" p) [e] [] pos) (tI W cl wx (.enum c)) := by
  have eK : X.K = W.K := by rw [hW]
  refine (PI.either (pi_enum hg hm (pa_cons h.v pa_nil hs) hs) (pi_enumT hg hm (pa_cons h.v pa_nil hs) hs)).wk fun σ H R ⟨O, r, E, q⟩ => ?_
  rw [eK]
  by_cases htp : ∃ x r0 ds, ev cl c .val r = .ok x r0 ∧ x.2 = .tup ds
  · obtain ⟨x0, r0, ds, e0, ex0⟩ := htp
    right
    refine tV.sh (p := fun x r1 => x = x0 ∧ _) E (good_and (good_bind.mp q) fun x r1 hx => ?_) fun x r1 v H1 O1 hp a1 q1 => ?_
    · rw [e0] at hx
      cases hx
      rfl
    obtain ⟨rfl, hp⟩ := hp
    rw [ex0] at hp q1
    cases q1 with
    | tup s l => exact ⟨_, _, rfl, sub_t mns_sub s, hp _ H1 O1 a1 (walks_enumT s l)⟩
  left
  have ntp : ∀ x r0 ds, ev cl c .val r = .ok x r0 → x.2 ≠ .tup ds := fun x r0 ds e1 e2 => htp ⟨x, r0, ds, e1, e2⟩
  refine tV.sh (p := fun x r1 => (∀ ds, x.2 ≠ .tup ds) ∧ _) E (good_and (good_bind.mp q) fun x r1 hx ds => ntp x r1 ds hx) fun x r1 v H1 O1 hp a1 q1 => ?_
  obtain ⟨nt, hp⟩ := hp
  cases hx : x.2 with
  | tup ds => exact (nt ds hx).elim
  | lst ds =>
    rw [hx] at hp q1
    cases q1 with
    | lst s l => exact ⟨_, _, rfl, .inl (sub_rd mns_sub s), hp _ H1 O1 a1 (walks_enum s l)⟩
  | _ =>
    rw [hx] at hp
    exact hp.elim
theorem si_zip {e e2 : Expr} {c c2 : CE} {p tpos : Pos} {elts : List Expr} {kk : Nat} (hW : W = ⟨X.prog, X.w, X.K⟩) (h : SE W cl wx X c e) (h2 : SE W cl wx X c2 e2) (hg : Gl X "zip") (hm : X.mg "zip" = none) (hs : starEach [e, e2] X.env = (false, eval e X.env) :: starEach [e2] X.env)
    (hs2 : starEach [e2] X.env = [(false, eval e2 X.env)]) : PI X (.Tuple elts kk tpos) (.Call (.Name "zip" p) [e, e2] [] pos) (tI W cl wx (.zip c c2)) := by
  have eK : X.K = W.K := by rw [hW]
  refine (PI.either (RZ.pi_zipA hg hm (pa_cons h.v (pa_cons h2.v pa_nil hs2) hs) hs (by rw [hs2]; rfl)) (pi_zipLT hg hm (pa_cons h.v (pa_cons h2.v pa_nil hs2) hs) hs (by rw [hs2]; rfl))).wk fun σ H R ⟨O, r, E, q⟩ => ?_
  rw [eK]
  have q := good_bind.mp q
  by_cases hct : ∃ x r0 y r1 ds es, ev cl c .val r = .ok x r0 ∧ ev cl c2 .val r0 = .ok y r1 ∧ x.2 = .lst ds ∧ y.2 = .tup es
  · right
    obtain ⟨x0, r0, y0, r1, ds, es, e0, e1, ex, ey⟩ := hct
    refine tV.sh (p := fun x r' => (x = x0 ∧ r' = r0) ∧ _) E (good_and2 q fun x r' hx => by rw [e0] at hx; cases hx; exact ⟨rfl, rfl⟩) fun x r' v H1 O1 hp a1 q1 => ?_
    obtain ⟨⟨rfl, rfl⟩, hp⟩ := hp
    have hp := good_bind.mp hp
    refine tV.sh (p := fun y r' => y = y0 ∧ _) a1.env (good_and (hp.on E a1) fun y r' hy => by rw [e1] at hy; cases hy; rfl) fun y r2 u H2 O2 hp2 a2 q2 => ?_
    obtain ⟨rfl, hp2⟩ := hp2
    have a12 := a1.trans E a2
    have q1 := q1.mono (a2.sub a1.env)
    rw [ex] at hp2 q1
    rw [ey] at hp2 q2
    cases q1 with
    | lst s l =>
      cases q2 with
      | tup s2 l2 => exact ⟨_, _, _, _, rfl, .inl (sub_rd mns_sub s), sub_t mns_sub s2, hp2 _ H2 O2 a12 (walks_zipLT s l s2 l2)⟩
  left
  refine tV.sh (p := fun x r' => ev cl c .val r = .ok x r' ∧ _) E (good_and2 q fun x r' hx => hx) fun x r1 v H1 O1 hp a1 q1 => ?_
  obtain ⟨e0, hp⟩ := hp
  have hp := good_bind.mp hp
  refine tV.sh (p := fun y r' => ev cl c2 .val r1 = .ok y r' ∧ _) a1.env (good_and2 (hp.on E a1) fun y r' hy => hy) fun y r2 u H2 O2 hp2 a2 q2 => ?_
  obtain ⟨e1, hp2⟩ := hp2
  have a12 := a1.trans E a2
  have q1 := q1.mono (a2.sub a1.env)
  cases hx : x.2 with
  | lst ds =>
    cases hy : y.2 with
    | lst es =>
      rw [hx] at hp2 q1
      rw [hy] at hp2 q2
      cases q1 with
      | lst s l =>
        cases q2 with
        | lst s2 l2 => exact ⟨_, _, _, _, rfl, .inl ⟨.inl (sub_rd mns_sub s), .inl (sub_rd mns_sub s2), hp2 _ H2 O2 a12 (walks_zip s l s2 l2)⟩⟩
    | tup es => exact absurd ⟨x, r1, y, r2, ds, es, e0, e1, hx, hy⟩ hct
    | _ =>
      rw [hx, hy] at hp2
      exact hp2.elim
  | tup ds =>
    cases hy : y.2 with
    | tup es =>
      rw [hx] at hp2 q1
      rw [hy] at hp2 q2
      cases q1 with
      | tup s l =>
        cases q2 with
        | tup s2 l2 => exact ⟨_, _, _, _, rfl, .inr ⟨sub_t mns_sub s, sub_t mns_sub s2, hp2 _ H2 O2 a12 (walks_zipT s l s2 l2)⟩⟩
    | _ =>
      rw [hx, hy] at hp2
      exact hp2.elim
  | _ =>
    rw [hx] at hp2
    exact hp2.elim
end
end Eg
/-! Eg15: stores to names. -/
namespace Eg
open PySem PySem.Spec PyProof.Rows L2
/-- behind a statement -/
structure SAft (W : Wd) (σ : L2.St) (O : Own) (H : Hp) (r : Rho) (σ' : L2.St) (O' : Own) (H' : Hp) (r' : Rho) : Prop where
  env : EnvOk W O' H' σ' r'
  stp : Stp (owned σ r) O H O' H'
  less : ∀ a, owned σ' r' a → owned σ r a ∨ H a = none
  lk : ∀ (i : Nat) (f : Fl) (d : D), r[i]? = some (some (f, d)) → f.lent = true → ∃ f' d', r'[i]? = some (some (f', d')) ∧ f'.lent = true ∧ σ'[i]? = σ[i]?
  ows : ∀ a, owsA σ' r' a → owsA σ r a ∨ H a = none
section
variable {W : Wd} {σ σ1 σ2 : L2.St} {O O1 O2 : Own} {H H1 H2 : Hp} {r r1 r2 : Rho}
theorem Aft.s (a : Aft W σ O H r O1 H1 r1) : SAft W σ O H r σ O1 H1 r1 := ⟨a.env, a.stp, fun x h => .inl (a.less x h), fun i f d h l => let ⟨f', d', h1, h2⟩ := a.lk i f d h l; ⟨f', d', h1, h2, rfl⟩, fun x h => .inl (a.ows x h)⟩
theorem SAft.refl (E : EnvOk W O H σ r) : SAft W σ O H r σ O H r := (Aft.refl E).s
theorem SAft.trans (E : EnvOk W O H σ r) (a : SAft W σ O H r σ1 O1 H1 r1) (b : SAft W σ1 O1 H1 r1 σ2 O2 H2 r2) : SAft W σ O H r σ2 O2 H2 r2 :=
  ⟨b.env, a.stp.trans E.al b.stp a.less, fun x h => by
    rcases b.less x h with z | z
    · exact a.less x z
    · exact .inr (a.stp.fresh z), fun i f d h l => by
    obtain ⟨f1, d1, h1, l1, e1⟩ := a.lk i f d h l
    obtain ⟨f2, d2, h2, l2, e2⟩ := b.lk i f1 d1 h1 l1
    exact ⟨f2, d2, h2, l2, e2.trans e1⟩, fun x h => by
    rcases b.ows x h with z | z
    · exact a.ows x z
    · exact .inr (a.stp.fresh z)⟩
theorem SAft.sub (E : EnvOk W O H σ r) (a : SAft W σ O H r σ1 O1 H1 r1) : Sub (mns H O) (mns H1 O1) := a.stp.sub E.owns
theorem store_inv {i : Nat} {fr : Bool} {d : D} (h : store r i fr d = some r2) : i < r.length ∧ r2 = r.set i (some (if fr then .ow else .sh, d)) ∧ ∀ f x, r[i]? = some (some (f, x)) → f.lent = false := by
  unfold store at h
  split at h
  · cases h
  · cases h
  · rename_i x n1 n2 e
    cases h
    refine ⟨(List.getElem?_eq_some_iff.mp e).1, rfl, fun f y hy => ?_⟩
    cases f with
    | sh => rfl
    | ow => rfl
    | bo =>
      rw [e] at hy
      exact absurd (Option.some.inj hy) (n1 y)
    | bs =>
      rw [e] at hy
      exact absurd (Option.some.inj hy) (n2 y)
  · cases h
/-- a name is stored behind an expression -/
theorem saft_set {i : Nat} {fr : Bool} {d : D} {v : V} (E : EnvOk W O H σ r) (a : Aft W σ O H r O1 H1 r1) (q : ResAt W H O1 H1 fr d v) (h : store r1 i fr d = some r2) : SAft W σ O H r (σ.set i (some v)) O1 H1 r2 := by
  obtain ⟨hi, rfl, nl⟩ := store_inv h
  have hσ : i < σ.length := by
    rw [a.env.len]
    exact hi
  have old : ∀ (j : Nat) (g : Fl) (x : D), (r1.set i (some (if fr then .ow else .sh, d)))[j]? = some (some (g, x)) → g.own = true → (i = j ∧ fr = true) ∨ (i ≠ j ∧ r1[j]? = some (some (g, x))) := fun j g x hj hg => by
    by_cases hij : i = j
    · subst hij
      rw [List.getElem?_set_self hi] at hj
      cases hj
      cases fr with
      | true => exact .inl ⟨rfl, rfl⟩
      | false => cases hg
    · rw [List.getElem?_set_ne hij] at hj
      exact .inr ⟨hij, hj⟩
  have newp : fr = true → ∃ p, v = .ref p ∧ H p = none ∧ O1 p ∧ OwnAt W O1 H1 p d := fun e => by
    subst e
    obtain ⟨p, e1, o, n, q⟩ := q
    exact ⟨p, e1, n, o, q⟩
  have noold : ∀ (j : Nat) (g : Fl) (x : D) (b p : Addr), r1[j]? = some (some (g, x)) → g.own = true → σ[j]? = some (some (.ref b)) → H p = none → b ≠ p := fun j g x b p h1 h2 h3 hp e => by
    obtain ⟨o, z⟩ := E.al b (E.owns b (a.less b ⟨j, g, x, h1, h2, h3⟩))
    rw [e, hp] at z
    cases z
  refine ⟨⟨by rw [List.length_set, List.length_set]; exact a.env.len, fun j g x hj => ?_, fun j k g g' x y b h1 h2 h3 h4 h5 h6 => ?_, a.env.al⟩, a.stp, fun b ⟨j, g, x, h1, h2, h3⟩ => ?_, fun j g x hj hl => ?_, fun b ⟨j, x, h1, h3⟩ => ?_⟩
  · by_cases hij : i = j
    · subst hij
      rw [List.getElem?_set_self hi] at hj
      cases hj
      refine ⟨v, List.getElem?_set_self hσ, ?_⟩
      unfold SlotAt
      cases fr with
      | true =>
        obtain ⟨p, e1, n, o, q⟩ := newp rfl
        exact ⟨p, e1, o, q⟩
      | false => exact q
    · rw [List.getElem?_set_ne hij] at hj
      rw [List.getElem?_set_ne hij]
      exact a.env.sl j g x hj
  · rcases old j g x h1 h2 with ⟨rfl, e1⟩ | ⟨n1, e1⟩
    · rcases old k g' y h4 h5 with ⟨rfl, e2⟩ | ⟨n2, e2⟩
      · rfl
      · rw [List.getElem?_set_self hσ] at h3
        rw [List.getElem?_set_ne n2] at h6
        obtain ⟨p, ep, n, _⟩ := newp e1
        rw [ep] at h3
        cases h3
        exact absurd rfl (noold k g' y b b e2 h5 h6 n)
    · rcases old k g' y h4 h5 with ⟨rfl, e2⟩ | ⟨n2, e2⟩
      · rw [List.getElem?_set_self hσ] at h6
        rw [List.getElem?_set_ne n1] at h3
        obtain ⟨p, ep, n, _⟩ := newp e2
        rw [ep] at h6
        cases h6
        exact absurd rfl (noold j g x b b e1 h2 h3 n)
      · rw [List.getElem?_set_ne n1] at h3
        rw [List.getElem?_set_ne n2] at h6
        exact a.env.dj j k g g' x y b e1 h2 h3 e2 h5 h6
  · rcases old j g x h1 h2 with ⟨rfl, e1⟩ | ⟨n1, e1⟩
    · rw [List.getElem?_set_self hσ] at h3
      obtain ⟨p, ep, n, _⟩ := newp e1
      rw [ep] at h3
      cases h3
      exact .inr n
    · rw [List.getElem?_set_ne n1] at h3
      exact .inl (a.less b ⟨j, g, x, e1, h2, h3⟩)
  · obtain ⟨f', d', h1, l1⟩ := a.lk j g x hj hl
    have hij : i ≠ j := fun e => by
      subst e
      rw [nl f' d' h1] at l1
      cases l1
    exact ⟨f', d', by rw [List.getElem?_set_ne hij]; exact h1, l1, List.getElem?_set_ne hij⟩
  · rcases old j .ow x h1 rfl with ⟨rfl, e1⟩ | ⟨n1, e1⟩
    · rw [List.getElem?_set_self hσ] at h3
      obtain ⟨p, ep, n, _⟩ := newp e1
      rw [ep] at h3
      cases h3
      exact .inr n
    · rw [List.getElem?_set_ne n1] at h3
      exact .inl (a.ows b ⟨j, x, e1, h3⟩)
/-- a shared value is stored -/
theorem saft_put {i : Nat} {d : D} {v : V} (E : EnvOk W O H σ r) (q : Rp W (mns H O) v d) (h : store r i false d = some r2) : SAft W σ O H r (σ.set i (some v)) O H r2 := saft_set E (.refl E) (show ResAt W H O H false d v from q) h
/-- stored at some places alone -/
def Off (is : List Nat) (σ σ' : L2.St) : Prop := σ'.length = σ.length ∧ ∀ j, j ∉ is → σ'[j]? = σ[j]?
def gNames : List Nat → TGs
  | [] => gNil
  | i :: is => gCons (gName i) (gNames is)
theorem put_many : ∀ {is : List Nat} {ds : List D} {vs : List V} {σ : L2.St} {r r2 : Rho} {Q : L2.St → Hp → Prop}, EnvOk W O H σ r → RpL W (mns H O) vs ds → storeL r is ds = some r2 → (∀ σ', SAft W σ O H r σ' O H r2 → Off is σ σ' → Q σ' H) → gNames is vs σ H Q
  | [], [], vs, σ, r, r2, Q, E, q, h, k => by
    cases q
    cases h
    exact ⟨rfl, k σ (.refl E) ⟨rfl, fun _ _ => rfl⟩⟩
  | [], _ :: _, vs, σ, r, r2, Q, E, q, h, k => by cases h
  | _ :: _, [], vs, σ, r, r2, Q, E, q, h, k => by cases h
  | i :: is, d :: ds, vs, σ, r, r2, Q, E, q, h, k => by
    cases q with
    | cons a b =>
      have h : (match store r i false d with
        | some r' => storeL r' is ds
        | none => none) = some r2 := h
      cases e : store r i false d with
      | none =>
        rw [e] at h
        cases h
      | some r1 =>
        rw [e] at h
        have s1 := saft_put E a e
        refine ⟨_, _, rfl, put_many s1.env b h fun σ' s2 o2 => k σ' (s1.trans E s2) ⟨by rw [o2.1, List.length_set], fun j hj => ?_⟩⟩
        rw [o2.2 j fun z => hj (List.mem_cons_of_mem _ z)]
        exact List.getElem?_set_ne fun z => hj (by rw [z]; exact List.mem_cons_self)
def Tg.ixs : Tg → List Nat
  | .one i => [i]
  | .many is => is
def tgT (K : PySem.W.Frag) : Tg → TG
  | .one i => gName i
  | .many is => gTup K is.length (gNames is)
theorem storeL_len : ∀ {is : List Nat} {ds : List D} {r r2 : Rho}, storeL r is ds = some r2 → is.length = ds.length
  | [], [], r, r2, h => rfl
  | [], _ :: _, r, r2, h => by cases h
  | _ :: _, [], r, r2, h => by cases h
  | i :: is, d :: ds, r, r2, h => by
    have h : (match store r i false d with
      | some r' => storeL r' is ds
      | none => none) = some r2 := h
    split at h
    · simp [storeL_len h]
    · cases h
theorem put_ok {tg : Tg} {d : D} {v : V} {Q : L2.St → Hp → Prop} (E : EnvOk W O H σ r) (q : Rp W (mns H O) v d) (h : tg.put r d = some r2) (k : ∀ σ', SAft W σ O H r σ' O H r2 → Off tg.ixs σ σ' → Q σ' H) : tgT W.K tg v σ H Q := by
  cases tg with
  | one i => exact k _ (saft_put E q h) ⟨List.length_set .., fun j hj => List.getElem?_set_ne fun z => hj (by rw [z]; exact List.mem_cons_self)⟩
  | many is =>
    cases q with
    | tup s l =>
      have h : storeL r is _ = some r2 := h
      exact ⟨_, _, rfl, sub_t mns_sub s, by rw [l.length]; exact (storeL_len h).symm, put_many E l h k⟩
    | _ => cases h
end
end Eg
/-! Eg16: list comprehensions. -/
namespace Eg
open PySem PySem.Spec PyProof.Rows L2
def wipeR (r : Rho) (L : List Nat) : Rho := L.foldl (fun r i => r.set i none) r
theorem wipe_get (σ : L2.St) : ∀ (L : List Nat) (i : Nat), (wipe σ L)[i]? = if i ∈ L then (if i < σ.length then some none else none) else σ[i]?
  | [], i => by simp [wipe]
  | v :: L, i => by
    unfold wipe
    by_cases h : v = i
    · subst h
      rw [if_pos List.mem_cons_self]
      by_cases hl : v < σ.length
      · rw [if_pos hl, List.getElem?_set_self (by rw [wipe_length]; exact hl)]
      · rw [if_neg hl, List.getElem?_eq_none (by rw [List.length_set, wipe_length]; omega)]
    · rw [List.getElem?_set_ne h, wipe_get σ L i]
      by_cases hm : i ∈ L
      · rw [if_pos hm, if_pos (List.mem_cons_of_mem _ hm)]
      · rw [if_neg hm, if_neg]
        intro z
        rcases List.mem_cons.mp z with e | e
        · exact h e.symm
        · exact hm e
theorem wipeR_len : ∀ (L : List Nat) (r : Rho), (wipeR r L).length = r.length
  | [], r => rfl
  | v :: L, r => by
    show (wipeR (r.set v none) L).length = _
    rw [wipeR_len L, List.length_set]
theorem wipeR_get : ∀ (L : List Nat) (r : Rho) (i : Nat), (wipeR r L)[i]? = if i ∈ L then (if i < r.length then some none else none) else r[i]?
  | [], r, i => by simp [wipeR]
  | v :: L, r, i => by
    show (wipeR (r.set v none) L)[i]? = _
    rw [wipeR_get L (r.set v none) i, List.length_set]
    by_cases hm : i ∈ L
    · rw [if_pos hm, if_pos (List.mem_cons_of_mem _ hm)]
    · rw [if_neg hm]
      by_cases h : v = i
      · subst h
        rw [if_pos List.mem_cons_self]
        by_cases hl : v < r.length
        · rw [if_pos hl, List.getElem?_set_self hl]
        · rw [if_neg hl, List.getElem?_eq_none (by rw [List.length_set]; omega)]
      · rw [List.getElem?_set_ne h, if_neg]
        intro z
        rcases List.mem_cons.mp z with e | e
        · exact h e.symm
        · exact hm e
theorem restore_len : ∀ (L : List Nat) (old new : Rho), (restore old new L).length = new.length
  | [], old, new => rfl
  | i :: L, old, new => by
    unfold restore
    split
    · rw [List.length_set, restore_len L]
    · exact restore_len L old new
theorem restore_get : ∀ (L : List Nat) (old new : Rho) (i : Nat), old.length = new.length → (restore old new L)[i]? = if i ∈ L then old[i]? else new[i]?
  | [], old, new, i, h => by simp [restore]
  | v :: L, old, new, i, h => by
    have ih := restore_get L old new i h
    unfold restore
    by_cases hv : v < old.length
    · rw [List.getElem?_eq_getElem hv]
      show ((restore old new L).set v old[v])[i]? = _
      by_cases e : v = i
      · subst e
        rw [List.getElem?_set_self (by rw [restore_len]; omega), if_pos List.mem_cons_self, List.getElem?_eq_getElem hv]
      · rw [List.getElem?_set_ne e, ih]
        by_cases hm : i ∈ L
        · rw [if_pos hm, if_pos (List.mem_cons_of_mem _ hm)]
        · rw [if_neg hm, if_neg]
          intro z
          rcases List.mem_cons.mp z with e' | e'
          · exact e e'.symm
          · exact hm e'
    · rw [List.getElem?_eq_none (show old.length ≤ v by omega)]
      show (restore old new L)[i]? = _
      rw [ih]
      by_cases hm : i ∈ L
      · rw [if_pos hm, if_pos (List.mem_cons_of_mem _ hm)]
      · rw [if_neg hm]
        by_cases e : v = i
        · subst e
          rw [if_pos List.mem_cons_self, List.getElem?_eq_none (show old.length ≤ v by omega), List.getElem?_eq_none (by omega)]
        · rw [if_neg]
          intro z
          rcases List.mem_cons.mp z with e' | e'
          · exact e e'.symm
          · exact hm e'
section
variable {W : Wd} {cl : Cal} {wx : WX} {X : Cx} {pos : Pos} {σ : L2.St} {O : Own} {H : Hp} {r : Rho}
theorem wipeR_some {L : List Nat} {i : Nat} {x : Fl × D} (h : (wipeR r L)[i]? = some (some x)) : i ∉ L ∧ r[i]? = some (some x) := by
  rw [wipeR_get] at h
  by_cases hm : i ∈ L
  · rw [if_pos hm] at h
    split at h <;> cases h
  · rw [if_neg hm] at h
    exact ⟨hm, h⟩
theorem wipe_off {L : List Nat} {i : Nat} (h : i ∉ L) : (wipe σ L)[i]? = σ[i]? := by
  rw [wipe_get, if_neg h]
theorem EnvOk.wipe (E : EnvOk W O H σ r) (L : List Nat) : EnvOk W O H (wipe σ L) (wipeR r L) where
  len := by
    rw [wipe_length, wipeR_len]
    exact E.len
  sl := fun i f d h => by
    obtain ⟨hm, h⟩ := wipeR_some h
    rw [wipe_off hm]
    exact E.sl i f d h
  dj := fun i j f g d e a h1 h2 h3 h4 h5 h6 => by
    obtain ⟨m1, h1⟩ := wipeR_some h1
    obtain ⟨m2, h4⟩ := wipeR_some h4
    rw [wipe_off m1] at h3
    rw [wipe_off m2] at h6
    exact E.dj i j f g d e a h1 h2 h3 h4 h5 h6
  al := E.al
theorem wipe_owned {L : List Nat} : ∀ a, owned (L2.wipe σ L) (wipeR r L) a → owned σ r a := fun a ⟨i, f, d, h1, h2, h3⟩ => by
  obtain ⟨m1, h1⟩ := wipeR_some h1
  rw [wipe_off m1] at h3
  exact ⟨i, f, d, h1, h2, h3⟩
theorem wipe_wipe {L : List Nat} {σ' : L2.St} (h : Off L (L2.wipe σ L) σ') : L2.wipe σ' L = L2.wipe σ L := by
  apply List.ext_getElem?
  intro i
  rw [wipe_get, wipe_get]
  by_cases hm : i ∈ L
  · rw [if_pos hm, if_pos hm, h.1, wipe_length]
  · rw [if_neg hm, if_neg hm, h.2 i hm, wipe_off hm]
/-- a comprehension's test -/
def tCond (W : Wd) (cl : Cal) (wx : WX) (c : CE) : TT := if c.isNil then tYes else tQ W cl wx c
/-- within the block: from the start (O, H, r at σ) on; the new list stands at p -/
structure Blk (W : Wd) (σ : L2.St) (L : List Nat) (p : Addr) (O : Own) (H : Hp) (r : Rho) (O' : Own) (H' : Hp) (r' : Rho) (acc : List D) : Prop where
  env : EnvOk W O' H' (L2.wipe σ L) (wipeR r' L)
  stp : Stp (owned σ r) O H O' H'
  less : ∀ a, owned (L2.wipe σ L) (wipeR r' L) a → owned σ r a
  lk : ∀ (i : Nat) (f : Fl) (d : D), i ∉ L → r[i]? = some (some (f, d)) → f.lent = true → ∃ f' d', r'[i]? = some (some (f', d')) ∧ f'.lent = true
  len : r'.length = r.length
  ows : ∀ a, owsA (L2.wipe σ L) (wipeR r' L) a → owsA σ r a
  own : O' p
  at_ : ∃ vs, H' p = some (.lst vs) ∧ RpL W (mns H' O') vs acc
theorem mayWipe_at {L : List Nat} {i : Nat} {f : Fl} {d : D} (h : mayWipe r L = true) (hm : i ∈ L) (e : r[i]? = some (some (f, d))) : f.own = false := by
  have := List.all_eq_true.mp h i hm
  rw [e] at this
  simpa using this
/-- the end of the block -/
theorem Blk.fin {L : List Nat} {p : Addr} {O1 O2 : Own} {H1 H2 : Hp} {r1 r2 : Rho} {acc : List D} (E : EnvOk W O H σ r) (a1 : Aft W σ O H r O1 H1 r1) (n : H1 p = none) (mw : mayWipe r1 L = true) (b : Blk W σ L p O1 H1 r1 O2 H2 r2 acc) :
    Aft W σ O H r O2 H2 (restore r1 r2 L) ∧ ResAt W H O2 H2 true (.lst acc) (.ref p) := by
  have sb : Sub (mns H1 O1) (mns H2 O2) := b.stp.sub a1.env.owns
  have get : ∀ i, (restore r1 r2 L)[i]? = if i ∈ L then r1[i]? else r2[i]? := fun i => restore_get L r1 r2 i b.len.symm
  have ownat : ∀ (i : Nat) (f : Fl) (d : D), (restore r1 r2 L)[i]? = some (some (f, d)) → f.own = true → i ∉ L ∧ (wipeR r2 L)[i]? = some (some (f, d)) := fun i f d h hf => by
    rw [get] at h
    by_cases hm : i ∈ L
    · rw [if_pos hm] at h
      rw [mayWipe_at mw hm h] at hf
      cases hf
    · rw [if_neg hm] at h
      refine ⟨hm, ?_⟩
      rw [wipeR_get, if_neg hm]
      exact h
  have env : EnvOk W O2 H2 σ (restore r1 r2 L) := ⟨by rw [restore_len, b.len]; exact a1.env.len, fun i f d h => by
      rw [get] at h
      by_cases hm : i ∈ L
      · rw [if_pos hm] at h
        obtain ⟨v, ev, q⟩ := a1.env.sl i f d h
        refine ⟨v, ev, ?_⟩
        unfold SlotAt at q ⊢
        rw [mayWipe_at mw hm h] at q ⊢
        exact q.mono sb
      · rw [if_neg hm] at h
        obtain ⟨v, ev, q⟩ := b.env.sl i f d (by rw [wipeR_get, if_neg hm]; exact h)
        rw [wipe_off hm] at ev
        exact ⟨v, ev, q⟩, fun i j f g d e a h1 h2 h3 h4 h5 h6 => by
      obtain ⟨m1, e1⟩ := ownat i f d h1 h2
      obtain ⟨m2, e2⟩ := ownat j g e h4 h5
      exact b.env.dj i j f g d e a e1 h2 (by rw [wipe_off m1]; exact h3) e2 h5 (by rw [wipe_off m2]; exact h6), b.env.al⟩
  have a2 : Aft W σ O1 H1 r1 O2 H2 (restore r1 r2 L) := ⟨env, b.stp, fun a ⟨i, f, d, h1, h2, h3⟩ => by
      obtain ⟨m1, e1⟩ := ownat i f d h1 h2
      exact b.less a ⟨i, f, d, e1, h2, by rw [wipe_off m1]; exact h3⟩, fun i f d h hl => by
      by_cases hm : i ∈ L
      · exact ⟨f, d, by rw [get, if_pos hm]; exact h, hl⟩
      · obtain ⟨f', d', h1, h2⟩ := b.lk i f d hm h hl
        exact ⟨f', d', by rw [get, if_neg hm]; exact h1, h2⟩, fun a ⟨i, d, h1, h3⟩ => by
      obtain ⟨m1, e1⟩ := ownat i .ow d h1 rfl
      exact b.ows a ⟨i, d, e1, by rw [wipe_off m1]; exact h3⟩⟩
  obtain ⟨vs, e, q⟩ := b.at_
  exact ⟨a1.trans E a2, p, rfl, b.own, a1.stp.fresh n, vs, e, q⟩
/-- a turn of the block: from the slots behind the target on -/
theorem Blk.turn {L : List Nat} {p : Addr} {O1 O2 O3 : Own} {H1 H2 H2' H3 : Hp} {r1 r2 rt r3 : Rho} {acc : List D} {σ' : L2.St} (E1 : EnvOk W O1 H1 σ r1) (n : H1 p = none) (b : Blk W σ L p O1 H1 r1 O2 H2 r2 acc) (g : Grow H2 H2')
    (s : SAft W (L2.wipe σ L) O2 H2' (wipeR r2 L) σ' O2 H2' rt) (off : Off L (L2.wipe σ L) σ') (a : Aft W σ' O2 H2' rt O3 H3 r3) : Blk W σ L p O1 H1 r1 O3 H3 r3 acc := by
  have ag := g.aft b.env
  have np : ¬ owned (L2.wipe σ L) (wipeR r2 L) p := fun z => by
    obtain ⟨o, e⟩ := E1.al p (E1.owns p (b.less p z))
    rw [n] at e
    cases e
  have ls : ∀ c, owned σ' rt c → owned (L2.wipe σ L) (wipeR r2 L) c := fun c hc => by
    rcases s.less c hc with z | z
    · exact z
    · obtain ⟨o, e⟩ := s.env.al c (s.env.owns c hc)
      rw [z] at e
      cases e
  have np2 : ¬ owned σ' rt p := fun z => np (ls p z)
  have ew : L2.wipe σ' L = L2.wipe σ L := wipe_wipe off
  have e3 := a.env.wipe L
  rw [ew] at e3
  have st2 : Stp (owned σ r1) O1 H1 O2 H2' := b.stp.trans E1.al ag.stp fun c hc => .inl (b.less c hc)
  refine ⟨e3, st2.trans E1.al a.stp fun c hc => .inl (b.less c (ls c hc)), fun c hc => ?_, fun i f d hm h hl => ?_, ?_, fun c hc => ?_, a.stp.kown p b.own np2, ?_⟩
  · rw [← ew] at hc
    exact b.less c (ls c (a.less c (wipe_owned c hc)))
  · obtain ⟨f1, d1, h1, l1⟩ := b.lk i f d hm h hl
    obtain ⟨f2, d2, h2, l2, _⟩ := s.lk i f1 d1 (by rw [wipeR_get, if_neg hm]; exact h1) l1
    obtain ⟨f3, d3, h3, l3⟩ := a.lk i f2 d2 h2 l2
    exact ⟨f3, d3, h3, l3⟩
  · have h1 := a.env.len
    have h2 := off.1
    rw [wipe_length, E1.len] at h2
    omega
  · rw [← ew] at hc
    have hc2 : owsA σ' r3 c := by
      obtain ⟨i, d, h1, h3⟩ := hc
      obtain ⟨m1, h1⟩ := wipeR_some h1
      rw [wipe_off m1] at h3
      exact ⟨i, d, h1, h3⟩
    have hc3 := a.ows c hc2
    rcases s.ows c hc3 with z | z
    · exact b.ows c z
    · obtain ⟨i, d, h1, h3⟩ := hc3
      obtain ⟨o, e⟩ := s.env.al c (s.env.owns c ⟨i, .ow, d, h1, rfl, h3⟩)
      rw [z] at e
      cases e
  · obtain ⟨vs, e, q⟩ := b.at_
    have e2 : H2' p = some (.lst vs) := ag.stp.keep p _ e np
    exact ⟨vs, a.stp.keep p _ e2 np2, (q.mono (ag.sub b.env)).mono (a.stp.sub a_owns)⟩
where a_owns : ∀ c, owned σ' rt c → O2 c := fun c hc => s.env.owns c hc
/-- an item more -/
theorem Blk.push {L : List Nat} {p : Addr} {O1 O2 : Own} {H1 H2 : Hp} {r1 r2 : Rho} {acc : List D} {vs : List V} {y : V} {d : D} (E1 : EnvOk W O1 H1 σ r1) (n : H1 p = none) (b : Blk W σ L p O1 H1 r1 O2 H2 r2 acc) (e : H2 p = some (.lst vs)) (q : Rp W (mns H2 O2) y d) :
    Blk W σ L p O1 H1 r1 O2 (upd H2 p (.lst (vs ++ [y]))) r2 (acc ++ [d]) := by
  have sb : Sub (mns H2 O2) (mns (upd H2 p (.lst (vs ++ [y]))) O2) := subm_at b.own
  have there : ∀ a, (∃ u, H2 a = some u) → ∃ u, (upd H2 p (.lst (vs ++ [y]))) a = some u := fun a ⟨u, e⟩ => by
    by_cases hap : a = p
    · exact ⟨_, by rw [hap, upd_same]⟩
    · exact ⟨u, by rw [upd_ne hap]; exact e⟩
  refine ⟨b.env.move (fun c o ec hc => ?_) b.env.owns sb fun c hc => there c (b.env.al c hc), ⟨fun c o ec hc => ?_, b.stp.kown, b.stp.news, fun c hc => there c (b.stp.there c hc)⟩, b.less, b.lk, b.len, b.ows, b.own, vs ++ [y], upd_same, ?_⟩
  · rw [upd_ne]
    · exact ec
    · intro z
      subst z
      obtain ⟨o', e'⟩ := E1.al c (E1.owns c (b.less c hc))
      rw [n] at e'
      cases e'
  · rw [upd_ne (ne_of_none ec n)]
    exact b.stp.keep c o ec hc
  · obtain ⟨vs', e', l⟩ := b.at_
    rw [e] at e'
    cases e'
    exact (l.append (.cons q .nil)).mono sb
theorem tI.at {c : CE} {σ : L2.St} {H : Hp} {R : It → Hp → Prop} {O : Own} {r : Rho} {p : List D → Rho → Prop} (E : EnvOk W O H σ r) (h : Good p (wishOf W wx σ O H r) (evI cl c r))
    (k : ∀ xs r' J H' O', p xs r' → Aft W σ O H r O' H' r' → Walks W O' H' J xs → R J H') : tI W cl wx c σ H R := ⟨O, r, E, h.mono (fun x r' hp J H' O' a q => k x r' J H' O' hp a q) fun _ _ z => z⟩
theorem Off.mono {is js : List Nat} {σ σ' : L2.St} (h : Off is σ σ') (s : ∀ i ∈ is, i ∈ js) : Off js σ σ' := ⟨h.1, fun j hj => h.2 j fun z => hj (s j z)⟩
theorem oneOf_ixs (is : List Nat) : (oneOf is).ixs = is := by
  unfold oneOf
  split <;> rfl
theorem comp_core {vs : List (Str × Nat)} {tgs : List Nat} {it cond elt : CE} {Q : VK} (htg : ∀ i ∈ tgs, i ∈ vs.map (·.2)) (h : tV W cl wx (.comp vs tgs it cond elt) σ H Q) :
    tLc (tI W cl wx it) (tgT W.K (oneOf tgs)) (tCond W cl wx cond) (tV W cl wx elt) (vs.map (·.2)) σ H Q := by
  obtain ⟨O, r, E, q⟩ := h
  generalize hL : vs.map (·.2) = L at *
  have q : Good _ _ ((evI cl it r).bind fun xs r => if mayWipe r (vs.map (·.2)) = true then
      (calm (loopC (oneOf tgs) (vs.map (·.2)) (fun r => if cond.isNil then .ok true r else (ev cl cond .tst r).bind fun x r => lift (isT x.2) r)
        (fun r => (ev cl elt .val r).bind fun x r => .ok x.2 r) xs [] r)).bind fun ys r' => Out.ok (true, D.lst ys) (restore r r' (vs.map (·.2)))
    else .no) := q
  rw [hL] at q
  refine tI.at E (good_bind.mp q) fun xs r1 J H1 O1 hp a1 wk => ?_
  by_cases mw : mayWipe r1 L = true
  · rw [if_pos mw] at hp
    have hp := good_calm (good_bind.mp hp)
    generalize hfc : (fun r => if cond.isNil = true then Out.ok true r else (ev cl cond .tst r).bind fun x r => lift (isT x.2) r) = fc at hp
    generalize hfe : (fun r => (ev cl elt .val r).bind fun x r => Out.ok x.2 r) = fe at hp
    intro p n
    refine ⟨fun i m H' => ∃ O' r' acc, i ≤ xs.length ∧ m = xs.length - i ∧ Blk W σ L p O1 H1 r1 O' H' r' acc ∧
      Good (fun ys r' => Good (fun x r' => ∀ v H' O', Aft W σ O H r O' H' r' → ResAt W H O' H' x.1 x.2 v → Q v H') (wishOf W wx σ O H r) (.ok (true, .lst ys) (restore r1 r' L))) (fun _ _ => False) (loopC (oneOf tgs) L fc fe (xs.drop i) acc r'),
      ⟨xs.length, fun b => O1 b ∨ b = p, r1, [], Nat.zero_le _, rfl, ?_, by simpa using hp⟩, ?_⟩
    · have ao := aft_own (o := .lst []) a1.env n
      exact ⟨ao.env.wipe L, ao.stp, wipe_owned, fun i f d _ h hl => ⟨f, d, h, hl⟩, rfl, fun a ⟨i, d, h1, h3⟩ => by
        obtain ⟨m1, h1⟩ := wipeR_some h1
        rw [wipe_off m1] at h3
        exact ⟨i, d, h1, h3⟩, .inr rfl, [], upd_same, .nil⟩
    · rintro i m H' ⟨O', r', acc, hi, rfl, b, hg⟩
      have sb : Sub (mns H1 O1) (mns H' O') := b.stp.sub a1.env.owns
      by_cases hlt : i < xs.length
      · refine .inr ⟨wk.go O' H' i sb hlt, fun H'' => ∃ O'' r'' acc'', i + 1 ≤ xs.length ∧ xs.length - (i + 1) = xs.length - (i + 1) ∧ Blk W σ L p O1 H1 r1 O'' H'' r'' acc'' ∧
          Good (fun ys r' => Good (fun x r' => ∀ v H' O', Aft W σ O H r O' H' r' → ResAt W H O' H' x.1 x.2 v → Q v H') (wishOf W wx σ O H r) (.ok (true, .lst ys) (restore r1 r' L))) (fun _ _ => False) (loopC (oneOf tgs) L fc fe (xs.drop (i + 1)) acc'' r''),
          fun H'' h => ⟨xs.length - (i + 1), by omega, h⟩, fun x H'' y => ?_⟩
        have hd : xs[i]? = some xs[i] := List.getElem?_eq_getElem hlt
        obtain ⟨gr, qx⟩ := wk.yld O' H' i xs[i] x H'' sb b.env.al hd y
        rw [List.drop_eq_getElem_cons hlt] at hg
        have hg : Good _ _ ((lift ((oneOf tgs).put (wipeR r' L) xs[i]) r').bind fun r1 _ => (fc r1).bind fun b r2 => match b with
          | true => (fe r2).bind fun y r3 => if Nat.blt acc.length sizeLine then loopC (oneOf tgs) L fc fe (xs.drop (i + 1)) (acc ++ [y]) r3 else .no
          | false => loopC (oneOf tgs) L fc fe (xs.drop (i + 1)) acc r2) := hg
        obtain ⟨rt, ert, hg⟩ := good_lift.mp (good_bind.mp hg)
        have ag := gr.aft b.env
        refine put_ok ag.env qx ert fun σ' s off => ?_
        have off := off.mono (js := L) (by rw [oneOf_ixs]; exact htg)
        refine ⟨wipe_wipe off, ?_⟩
        /- the element, from the slots behind the test on -/
        have elem : ∀ (H3 : Hp) (O3 : Own) (r3 : Rho), Aft W σ' O' H'' rt O3 H3 r3 →
            Good (fun ys r' => Good (fun x r' => ∀ v H' O', Aft W σ O H r O' H' r' → ResAt W H O' H' x.1 x.2 v → Q v H') (wishOf W wx σ O H r) (.ok (true, .lst ys) (restore r1 r' L))) (fun _ _ => False) ((fe r3).bind fun y r3 => if Nat.blt acc.length sizeLine then loopC (oneOf tgs) L fc fe (xs.drop (i + 1)) (acc ++ [y]) r3 else .no) →
            tV W cl wx elt σ' H3 fun y H4 => ∃ acc, H4 p = some (.lst acc) ∧ acc.length < sizeLine ∧ (∃ O'' r'' acc'', i + 1 ≤ xs.length ∧ xs.length - (i + 1) = xs.length - (i + 1) ∧ Blk W σ L p O1 H1 r1 O'' (upd H4 p (.lst (acc ++ [y]))) r'' acc'' ∧
              Good (fun ys r' => Good (fun x r' => ∀ v H' O', Aft W σ O H r O' H' r' → ResAt W H O' H' x.1 x.2 v → Q v H') (wishOf W wx σ O H r) (.ok (true, .lst ys) (restore r1 r' L))) (fun _ _ => False) (loopC (oneOf tgs) L fc fe (xs.drop (i + 1)) acc'' r'')) := by
          intro H3 O3 r3 a3 hq
          rw [← hfe] at hq
          have hq := good_bind.mp (good_bind.mp hq)
          refine tV.sh a3.env hq fun z r4 v H4 O4 hz a4 qv => ?_
          have a34 := a3.trans s.env a4
          have b4 := b.turn a1.env n gr s off a34
          obtain ⟨us, eu, lu⟩ := b4.at_
          have hz : Good _ _ (if Nat.blt acc.length sizeLine = true then loopC (oneOf tgs) L fc (fun r => (ev cl elt .val r).bind fun x r => Out.ok x.2 r) (xs.drop (i + 1)) (acc ++ [z.2]) r4 else .no) := hz
          by_cases hc : Nat.blt acc.length sizeLine = true
          · rw [if_pos hc, hfe] at hz
            exact ⟨us, eu, by rw [lu.length]; exact Nat.le_of_ble_eq_true hc, O4, r4, acc ++ [z.2], hlt, rfl, b4.push a1.env n eu qv, hz⟩
          · rw [if_neg hc] at hz
            exact hz.elim
        have hg := good_bind.mp hg
        rw [← hfc] at hg
        unfold tCond
        by_cases hn : cond.isNil = true
        · rw [if_pos hn]
          have hg : Good _ _ (if cond.isNil = true then Out.ok true rt else (ev cl cond .tst rt).bind fun x r => lift (isT x.2) r) := hg
          rw [if_pos hn] at hg
          exact (elem H'' O' rt (.refl s.env) (by
            rw [← hfc]
            exact hg))
        · rw [if_neg hn]
          have hg : Good _ _ (if cond.isNil = true then Out.ok true rt else (ev cl cond .tst rt).bind fun x r => lift (isT x.2) r) := hg
          rw [if_neg hn] at hg
          refine tQ.at s.env (good_bind.mp hg) fun z r3 hz => ?_
          obtain ⟨k, ek, hz⟩ := good_lift.mp hz
          have ez : z.2 = .bl k := by
            cases hx : z.2 with
            | bl k' =>
              rw [hx] at ek
              cases ek
              rfl
            | _ =>
              rw [hx] at ek
              cases ek
          refine ⟨k, ez, fun H3 O3 a3 => ?_⟩
          cases k with
          | true =>
            rw [if_pos rfl]
            refine elem H3 O3 r3 a3 ?_
            rw [← hfc]
            exact hz
          | false =>
            rw [if_neg (by simp)]
            have b3 := b.turn a1.env n gr s off a3
            refine ⟨O3, r3, acc, hlt, rfl, b3, ?_⟩
            rw [← hfc]
            exact hz
      · have e : i = xs.length := by omega
        subst e
        rw [List.drop_length] at hg
        obtain ⟨af, rs⟩ := b.fin E a1 n mw
        exact .inl ⟨wk.stop O' H' sb, hg (.ref p) H' O' af rs⟩
  · rw [if_neg mw] at hp
    exact hp.elim
end
end Eg
/-! Eg17: statements. -/
namespace Eg
open PySem PySem.Spec PyProof.Rows L2
def GoodS (n : Rho → Prop) (t : Bool → D → Rho → Prop) (w : Exn → Rho → Prop) : SOut → Prop
  | .nx r => n r
  | .rt fr d r => t fr d r
  | .ex e r => w e r
  | .no => False
theorem GoodS.mono {n n' : Rho → Prop} {t t' : Bool → D → Rho → Prop} {w w' : Exn → Rho → Prop} {x : SOut} (h : GoodS n t w x) (hn : ∀ r, n r → n' r) (ht : ∀ f d r, t f d r → t' f d r) (hw : ∀ e r, w e r → w' e r) : GoodS n' t' w' x := by
  cases x with
  | nx r => exact hn r h
  | rt f d r => exact ht f d r h
  | ex e r => exact hw e r h
  | no => exact h
theorem goods_stm {α : Type} {n : Rho → Prop} {t : Bool → D → Rho → Prop} {w : Exn → Rho → Prop} {x : Out α} {f : α → Rho → SOut} : GoodS n t w (x.stm f) ↔ Good (fun a r => GoodS n t w (f a r)) w x := by
  cases x <;> exact Iff.rfl
theorem goods_then {n : Rho → Prop} {t : Bool → D → Rho → Prop} {w : Exn → Rho → Prop} {x : SOut} {f : Rho → SOut} : GoodS n t w (x.then f) ↔ GoodS (fun r => GoodS n t w (f r)) t w x := by
  cases x <;> exact Iff.rfl
theorem goods_nxO {n : Rho → Prop} {t : Bool → D → Rho → Prop} {w : Exn → Rho → Prop} {o : Option Rho} (h : GoodS n t w (nxO o)) : ∃ r, o = some r ∧ n r := by
  cases o with
  | none => exact h.elim
  | some r => exact ⟨r, rfl, h⟩
/-- what a def hands back, from a statement's start on -/
def RetAt (W : Wd) (σ : L2.St) (H : Hp) (r : Rho) (O' : Own) (H' : Hp) (fr : Bool) (d : D) (v : V) : Prop := match fr with
  | true => (match d with
    | .tp ps => TupAt W H O' H' ps v
    | d => ∃ a, v = .ref a ∧ O' a ∧ OwnAt W O' H' a d ∧ (H a = none ∨ owsA σ r a))
  | false => Rp W (mns H' O') v d
theorem RetAt.own {W : Wd} {σ : L2.St} {O' : Own} {H H' : Hp} {r : Rho} {d : D} {v : V} (q : ∃ a, v = .ref a ∧ O' a ∧ OwnAt W O' H' a d ∧ (H a = none ∨ owsA σ r a)) : RetAt W σ H r O' H' true d v := by
  cases d with
  | tp ps =>
    obtain ⟨_, _, _, q, _⟩ := q
    exact q.elim
  | _ => exact q
theorem RetAt.back {W : Wd} {σ σ1 : L2.St} {O O1 O' : Own} {H H1 H' : Hp} {r r1 : Rho} {fr : Bool} {d : D} {v : V} (a : SAft W σ O H r σ1 O1 H1 r1) (q : RetAt W σ1 H1 r1 O' H' fr d v) : RetAt W σ H r O' H' fr d v := by
  cases fr with
  | false => exact q
  | true =>
    have old : ∀ d', (∃ p, v = .ref p ∧ O' p ∧ OwnAt W O' H' p d' ∧ (H1 p = none ∨ owsA σ1 r1 p)) → ∃ p, v = .ref p ∧ O' p ∧ OwnAt W O' H' p d' ∧ (H p = none ∨ owsA σ r p) := fun d' q => by
      obtain ⟨p, e, o, q, z⟩ := q
      refine ⟨p, e, o, q, ?_⟩
      rcases z with z | z
      · exact .inl (a.stp.fresh z)
      · rcases a.ows p z with y | y
        · exact .inr y
        · exact .inl y
    cases d with
    | tp ps => exact TupAt.back (fun p n => a.stp.fresh n) q
    | _ => exact old _ q
theorem ResAt.ret {W : Wd} {σ : L2.St} {O' : Own} {H H' : Hp} {r : Rho} {fr : Bool} {d : D} {v : V} (q : ResAt W H O' H' fr d v) : RetAt W σ H r O' H' fr d v := by
  cases fr with
  | false => exact q
  | true =>
    obtain ⟨p, e, o, n, q⟩ := q
    exact RetAt.own ⟨p, e, o, q, .inl n⟩
def tS (W : Wd) (cl : Cal) (wx : WX) (c : CS) : TS := fun D σ H => ∃ O r, EnvOk W O H σ r ∧ GoodS (fun r' => ∀ σ' H' O', SAft W σ O H r σ' O' H' r' → D.nx σ' H')
  (fun fr d r' => ∀ v σ' H' O', SAft W σ O H r σ' O' H' r' → RetAt W σ H r O' H' fr d v → D.rt v H') (wishOf W wx σ O H r) (run cl c r)
section
variable {W : Wd} {cl : Cal} {wx : WX} {X : Cx} {pos : Pos}
theorem tS.at {c : CS} {D : Ends} {σ : L2.St} {H : Hp} {O : Own} {r : Rho} {n : Rho → Prop} {t : Bool → Eg.D → Rho → Prop} (E : EnvOk W O H σ r) (h : GoodS n t (wishOf W wx σ O H r) (run cl c r))
    (kn : ∀ r' σ' H' O', n r' → SAft W σ O H r σ' O' H' r' → D.nx σ' H') (kt : ∀ fr d r' v σ' H' O', t fr d r' → SAft W σ O H r σ' O' H' r' → RetAt W σ H r O' H' fr d v → D.rt v H') : tS W cl wx c D σ H :=
  ⟨O, r, E, h.mono (fun r' hp σ' H' O' a => kn r' σ' H' O' hp a) (fun fr d r' hp v σ' H' O' a q => kt fr d r' v σ' H' O' hp a q) fun _ _ z => z⟩
theorem wishOf.afterS {σ σ' : L2.St} {O O' : Own} {H H' : Hp} {r r' : Rho} (E : EnvOk W O H σ r) (a : SAft W σ O H r σ' O' H' r') : ∀ e q, wishOf W wx σ O H r e q → wishOf W wx σ' O' H' r' e q := fun _ _ h => h
theorem GoodS.on {n : Rho → Prop} {t : Bool → D → Rho → Prop} {σ σ' : L2.St} {O O' : Own} {H H' : Hp} {r r' : Rho} {x : SOut} (h : GoodS n t (wishOf W wx σ O H r) x) (E : EnvOk W O H σ r) (a : SAft W σ O H r σ' O' H' r') : GoodS n t (wishOf W wx σ' O' H' r') x :=
  h.mono (fun _ z => z) (fun _ _ _ z => z) (wishOf.afterS E a)
theorem Good.onS {α : Type} {p : α → Rho → Prop} {σ σ' : L2.St} {O O' : Own} {H H' : Hp} {r r' : Rho} {x : Out α} (h : Good p (wishOf W wx σ O H r) x) (E : EnvOk W O H σ r) (a : SAft W σ O H r σ' O' H' r') : Good p (wishOf W wx σ' O' H' r') x :=
  h.mono (fun _ _ z => z) (wishOf.afterS E a)
/-! ### blocks -/
theorem ss_nil : PSs X [] (tS W cl wx .nil) := pss_nil.wk fun D σ H ⟨O, r, E, h⟩ => h σ H O (.refl E)
theorem ss_cons {st : Stmt} {rest : List Stmt} {s t : CS} (h1 : PS X st (tS W cl wx s)) (h2 : PSs X rest (tS W cl wx t)) : PSs X (st :: rest) (tS W cl wx (.cons s t)) :=
  (pss_cons h1 h2).wk fun D σ H ⟨O, r, E, h⟩ => by
    refine tS.at E (goods_then.mp h) (fun r1 σ1 H1 O1 hp a1 => ?_) fun fr d r' v σ' H' O' hp a q => hp v σ' H' O' a q
    exact tS.at a1.env (hp.on E a1) (fun r2 σ2 H2 O2 hp2 a2 => hp2 σ2 H2 O2 (a1.trans E a2)) fun fr d r2 v σ2 H2 O2 hp2 a2 q => hp2 v σ2 H2 O2 (a1.trans E a2) (q.back a1)
/-! ### plain statements -/
theorem ss_pass : PS X (.Pass pos) (tS W cl wx .pass) := ps_pass.wk fun D σ H ⟨O, r, E, h⟩ => h σ H O (.refl E)
theorem ss_never {st : Stmt} : PS X st (tS W cl wx .never) := ps_never.wk fun D σ H ⟨O, r, E, h⟩ => h
theorem ss_expr {c : CE} {e : Expr} (h : SE W cl wx X c e) (hs : swapsWith e none pos.line X.env = pure false) : PS X (.Expr e pos) (tS W cl wx (.expr c)) := (ps_expr h.v hs).wk fun D σ H ⟨O, r, E, q⟩ =>
  tV.at E (goods_stm.mp q) fun x r1 v H1 O1 hp a1 q1 => hp σ H1 O1 a1.s
theorem ss_ret {c : CE} {e : Expr} (h : SE W cl wx X c e) : PS X (.Return (some e) pos) (tS W cl wx (.ret c)) := by
  cases hl : c.late with
  | none =>
    refine (ps_ret h.v).wk fun D σ H ⟨O, r, E, q⟩ => ?_
    have q : GoodS _ _ _ (match c.late with
      | some i => (match slotOf r i with
        | some (.ow, d) => SOut.rt true d r
        | some (_, _) => (ev cl c .val r).stm fun x r => .rt false x.2 r
        | none => .no)
      | none => (ev cl c .val r).stm fun x r => .rt x.1 x.2 r) := q
    rw [hl] at q
    exact tV.at E (goods_stm.mp q) fun x r1 v H1 O1 hp a1 q1 => hp v σ H1 O1 a1.s q1.ret
  | some i =>
    have hc : c = .var i := by
      cases c <;> cases hl
      rfl
    subst hc
    refine (ps_ret (h.n i hl)).wk fun D σ H ⟨O, r, E, q⟩ => ?_
    have q : GoodS _ _ _ (match slotOf r i with
        | some (.ow, d) => SOut.rt true d r
        | some (_, _) => (ev cl (.var i) .val r).stm fun x r => .rt false x.2 r
        | none => .no) := q
    cases hs : slotOf r i with
    | none =>
      rw [hs] at q
      exact q.elim
    | some fd =>
      obtain ⟨f, d⟩ := fd
      have es := slotOf_some hs
      rw [hs] at q
      have gen : GoodS (fun r' => ∀ σ' H' O', SAft W σ O H r σ' O' H' r' → D.nx σ' H') (fun fr d r' => ∀ v σ' H' O', SAft W σ O H r σ' O' H' r' → RetAt W σ H r O' H' fr d v → D.rt v H') (wishOf W wx σ O H r) ((ev cl (.var i) .val r).stm fun x r => .rt false x.2 r) → ∃ v, σ[i]? = some (some v) ∧ D.rt v H := fun q => by
        obtain ⟨⟨d', r'⟩, e, k⟩ := good_lift.mp (good_bind.mp (goods_stm.mp q))
        obtain ⟨v, O', ev, a, qv⟩ := unown_ok E e
        exact ⟨v, ev, k v σ H O' a.s qv⟩
      cases f with
      | ow =>
        obtain ⟨p, ev, op, qp⟩ := E.own_at es rfl
        exact ⟨.ref p, ev, q (.ref p) σ H O (.refl E) (RetAt.own ⟨p, rfl, op, qp, .inr ⟨i, d, es, ev⟩⟩)⟩
      | sh => exact gen q
      | bo => exact gen q
      | bs => exact gen q
theorem ss_retN : PS X (.Return none pos) (tS W cl wx .retN) := ps_retN.wk fun D σ H ⟨O, r, E, q⟩ => q .non σ H O (.refl E) .non
/-! ### stores -/
theorem asg_core {i : Nat} {c : CE} {D : Ends} {σ : L2.St} {H : Hp} (h : tS W cl wx (.set i c) D σ H) : tAsg (tV W cl wx c) (gName i) D σ H := by
  obtain ⟨O, r, E, q⟩ := h
  refine tV.at E (goods_stm.mp q) fun x r1 v H1 O1 hp a1 q1 => ?_
  obtain ⟨r2, e2, k⟩ := goods_nxO hp
  exact k _ H1 O1 (saft_set E a1 q1 e2)
theorem ss_set {i : Nat} {x : Str} {c : CE} {e : Expr} {p : Pos} (hN : X.N.Nodup) (hi : X.N[i]? = some x) (hx : Loc X.env.scope x) (hf : X.fn x = true ∨ X.env.scope.names.lookup x = some .local) (h : SE W cl wx X c e) (hs : swapsWith e (some (.Name x p)) pos.line X.env = pure false) :
    PS X (.Assign [.Name x p] e pos) (tS W cl wx (.set i c)) := (ps_set hN hi hx h.v hs hf).wk fun D σ H q => asg_core q
theorem unp_core {is : List Nat} {c : CE} {D : Ends} {σ : L2.St} {H : Hp} (h : tS W cl wx (.unp is c) D σ H) : tAsg (tV W cl wx c) (tgT W.K (.many is)) D σ H := by
  obtain ⟨O, r, E, q⟩ := h
  refine tV.sh E (goods_stm.mp q) fun x r1 v H1 O1 hp a1 q1 => ?_
  obtain ⟨r2, e2, k⟩ := goods_nxO hp
  exact put_ok a1.env q1 e2 fun σ' s _ => k σ' H1 O1 (a1.s.trans E s)
theorem ss_unp {is : List Nat} {c : CE} {e tg : Expr} (h : SE W cl wx X c e) (hg : PG X tg (tgT W.K (.many is))) (hs : swapsWithSole [tg] e pos.line X.env = pure false) (hw : swappedStores [tg] e X.env = pure none)
    (h1 : (assignEach [tg] X.env).map (·.2) = [assign tg X.env]) : PS X (.Assign [tg] e pos) (tS W cl wx (.unp is c)) := (ps_asg h.v hg hs hw h1).wk fun D σ H q => unp_core q
/-- two values, each new or shared -/
def tP2 (W : Wd) (cl : Cal) (wx : WX) (a b : CE) : TA := fun σ H Q => ∃ O r, EnvOk W O H σ r ∧ Good (fun x r' => ∀ v w H' O', Aft W σ O H r O' H' r' → ResAt W H O' H' x.1.1 x.1.2 v → ResAt W H O' H' x.2.1 x.2.2 w → (x.1.1 = true → x.2.1 = true → v ≠ w) → Q [v, w] H') (wishOf W wx σ O H r)
  ((ev cl a .val r).bind fun x r => (ev cl b .val r).bind fun y r => .ok (x, y) r)
theorem pa_two {ca cb : CE} {a b : Expr} (ha : SE W cl wx X ca a) (hb : SE W cl wx X cb b) (hs : starEach [a, b] X.env = (false, eval a X.env) :: starEach [b] X.env) (hs2 : starEach [b] X.env = [(false, eval b X.env)]) : PA X [a, b] (tP2 W cl wx ca cb) :=
  (pa_cons ha.v (pa_cons hb.v pa_nil hs2) hs).wk fun σ H Q ⟨O, r, E, q⟩ => by
    refine tV.at E (good_bind.mp q) fun x r1 v H1 O1 hp a1 q1 => ?_
    refine tV.at a1.env ((good_bind.mp hp).on E a1) fun y r2 w H2 O2 hp2 a2 q2 => ?_
    have q1' : ResAt W H O2 H2 x.1 x.2 v := by
      cases hx : x.1 with
      | false =>
        rw [hx] at q1
        exact Rp.mono (a2.sub a1.env) q1
      | true =>
        rw [hx] at q1
        obtain ⟨p, e, o, n, q⟩ := q1
        have np : ¬ owned σ r1 p := fun z => by
          obtain ⟨o', e'⟩ := E.al p (E.owns p (a1.less p z))
          rw [n] at e'
          cases e'
        exact ⟨p, e, a2.stp.kown p o np, n, q.mono (fun o z => a2.stp.keep p o z np) (a2.sub a1.env)⟩
    refine hp2 v w H2 O2 (a1.trans E a2) q1' (q2.back a1.stp) fun h1 h2 e => ?_
    rw [h1] at q1
    rw [h2] at q2
    obtain ⟨p, e1, _, _, qp⟩ := q1
    obtain ⟨p2, e2, _, n2, _⟩ := q2
    rw [e1, e2] at e
    cases e
    obtain ⟨o, eo⟩ := qp.isSome
    rw [n2] at eo
    cases eo
/-- a name is stored, behind other stores -/
theorem saft_setG {σ σ1 : L2.St} {O O1 : Own} {H H1 : Hp} {r r1 r2 : Rho} {i : Nat} {fr : Bool} {d : D} {v : V} (E : EnvOk W O H σ r) (a : SAft W σ O H r σ1 O1 H1 r1) (q : ResAt W H O1 H1 fr d v) (no : fr = true → ∀ p, v = .ref p → ¬ owned σ1 r1 p) (h : store r1 i fr d = some r2) : SAft W σ O H r (σ1.set i (some v)) O1 H1 r2 := by
  obtain ⟨hi, rfl, nl⟩ := store_inv h
  have hσ : i < σ1.length := by
    rw [a.env.len]
    exact hi
  have old : ∀ (j : Nat) (g : Fl) (x : D), (r1.set i (some (if fr then .ow else .sh, d)))[j]? = some (some (g, x)) → g.own = true → (i = j ∧ fr = true) ∨ (i ≠ j ∧ r1[j]? = some (some (g, x))) := fun j g x hj hg => by
    by_cases hij : i = j
    · subst hij
      rw [List.getElem?_set_self hi] at hj
      cases hj
      cases fr with
      | true => exact .inl ⟨rfl, rfl⟩
      | false => cases hg
    · rw [List.getElem?_set_ne hij] at hj
      exact .inr ⟨hij, hj⟩
  have newp : fr = true → ∃ p, v = .ref p ∧ H p = none ∧ O1 p ∧ OwnAt W O1 H1 p d := fun e => by
    subst e
    obtain ⟨p, e1, o, n, q⟩ := q
    exact ⟨p, e1, n, o, q⟩
  refine ⟨⟨by rw [List.length_set, List.length_set]; exact a.env.len, fun j g x hj => ?_, fun j k g g' x y b h1 h2 h3 h4 h5 h6 => ?_, a.env.al⟩, a.stp, fun b ⟨j, g, x, h1, h2, h3⟩ => ?_, fun j g x hj hl => ?_, fun b ⟨j, x, h1, h3⟩ => ?_⟩
  · by_cases hij : i = j
    · subst hij
      rw [List.getElem?_set_self hi] at hj
      cases hj
      refine ⟨v, List.getElem?_set_self hσ, ?_⟩
      unfold SlotAt
      cases fr with
      | true =>
        obtain ⟨p, e1, n, o, q⟩ := newp rfl
        exact ⟨p, e1, o, q⟩
      | false => exact q
    · rw [List.getElem?_set_ne hij] at hj
      rw [List.getElem?_set_ne hij]
      exact a.env.sl j g x hj
  · rcases old j g x h1 h2 with ⟨rfl, e1⟩ | ⟨n1, e1⟩
    · rcases old k g' y h4 h5 with ⟨rfl, e2⟩ | ⟨n2, e2⟩
      · rfl
      · rw [List.getElem?_set_self hσ] at h3
        rw [List.getElem?_set_ne n2] at h6
        obtain ⟨p, ep, n, _⟩ := newp e1
        rw [ep] at h3
        cases h3
        exact absurd ⟨k, g', y, e2, h5, h6⟩ (no e1 b ep)
    · rcases old k g' y h4 h5 with ⟨rfl, e2⟩ | ⟨n2, e2⟩
      · rw [List.getElem?_set_self hσ] at h6
        rw [List.getElem?_set_ne n1] at h3
        obtain ⟨p, ep, n, _⟩ := newp e2
        rw [ep] at h6
        cases h6
        exact absurd ⟨j, g, x, e1, h2, h3⟩ (no e2 b ep)
      · rw [List.getElem?_set_ne n1] at h3
        rw [List.getElem?_set_ne n2] at h6
        exact a.env.dj j k g g' x y b e1 h2 h3 e2 h5 h6
  · rcases old j g x h1 h2 with ⟨rfl, e1⟩ | ⟨n1, e1⟩
    · rw [List.getElem?_set_self hσ] at h3
      obtain ⟨p, ep, n, _⟩ := newp e1
      rw [ep] at h3
      cases h3
      exact .inr n
    · rw [List.getElem?_set_ne n1] at h3
      exact a.less b ⟨j, g, x, e1, h2, h3⟩
  · obtain ⟨f', d', h1, l1, s1⟩ := a.lk j g x hj hl
    have hij : i ≠ j := fun e => by
      subst e
      rw [nl f' d' h1] at l1
      cases l1
    exact ⟨f', d', by rw [List.getElem?_set_ne hij]; exact h1, l1, by rw [List.getElem?_set_ne hij]; exact s1⟩
  · rcases old j .ow x h1 rfl with ⟨rfl, e1⟩ | ⟨n1, e1⟩
    · rw [List.getElem?_set_self hσ] at h3
      obtain ⟨p, ep, n, _⟩ := newp e1
      rw [ep] at h3
      cases h3
      exact .inr n
    · rw [List.getElem?_set_ne n1] at h3
      exact a.ows b ⟨j, x, e1, h3⟩
theorem par_core {i j : Nat} {a b : CE} {D : Ends} {σ : L2.St} {H : Hp} (hij : i ≠ j) (h : tS W cl wx (.par i j a b) D σ H) : tPar i j (tP2 W cl wx a b) D σ H := by
  obtain ⟨O, r, E, q⟩ := h
  have q2 : Good (fun (x : (Bool × Eg.D) × (Bool × Eg.D)) ra => GoodS (fun r' => ∀ σ' H' O', SAft W σ O H r σ' O' H' r' → D.nx σ' H') (fun fr d r' => ∀ v σ' H' O', SAft W σ O H r σ' O' H' r' → RetAt W σ H r O' H' fr d v → D.rt v H') (wishOf W wx σ O H r)
      (match store ra i x.1.1 x.1.2 with
      | some rb => nxO (store rb j x.2.1 x.2.2)
      | none => .no)) (wishOf W wx σ O H r) ((ev cl a .val r).bind fun x r => (ev cl b .val r).bind fun y r => .ok (x, y) r) :=
    good_bind.mpr ((goods_stm.mp q).mono (fun x r1 hx => good_bind.mpr ((goods_stm.mp hx).mono (fun y r2 hy => hy) fun _ _ z => z)) fun _ _ z => z)
  refine ⟨O, r, E, q2.mono (fun x r1 hp v w H1 O1 a1 qv qw ne => ?_) fun _ _ z => z⟩
  refine ⟨v, w, rfl, ?_⟩
  cases e1 : store r1 i x.1.1 x.1.2 with
  | none =>
    rw [e1] at hp
    exact hp.elim
  | some rb =>
    rw [e1] at hp
    obtain ⟨r2, e2, k⟩ := goods_nxO hp
    have s1 := saft_set E a1 qv e1
    obtain ⟨hi, er, _⟩ := store_inv e1
    refine k _ H1 O1 (saft_setG E s1 qw (fun f2 p ep => ?_) e2)
    rw [f2] at qw
    obtain ⟨p2, ep2, op2, np2, _⟩ := qw
    rw [ep] at ep2
    cases ep2
    rintro ⟨k2, f, d, h1, h2, h3⟩
    subst er
    by_cases hk : i = k2
    · subst hk
      rw [List.getElem?_set_self hi] at h1
      have hσ : i < σ.length := by
        rw [a1.env.len]
        exact hi
      rw [List.getElem?_set_self hσ] at h3
      cases hf : x.1.1 with
      | false =>
        rw [hf] at h1
        cases h1
        cases h2
      | true =>
        cases h3
        exact ne hf f2 ep.symm
    · rw [List.getElem?_set_ne hk] at h1 h3
      obtain ⟨o, z⟩ := E.al p (E.owns p (a1.less p ⟨k2, f, d, h1, h2, h3⟩))
      rw [np2] at z
      cases z
theorem ss_par {i j : Nat} {x y : Str} {ca cb : CE} {a b : Expr} {px py pt : Pos} {kt k2 pt2} (hc : X.calm = true) (hN : X.N.Nodup) (hi : X.N[i]? = some x) (hj : X.N[j]? = some y) (hij : i ≠ j)
    (hx : X.env.scope.names.lookup x = some .local) (hy : X.env.scope.names.lookup y = some .local) (ha : SE W cl wx X ca a) (hb : SE W cl wx X cb b)
    (hs : starEach [a, b] X.env = (false, eval a X.env) :: starEach [b] X.env) (hs2 : starEach [b] X.env = [(false, eval b X.env)])
    (hw : swappedStores [.Tuple [.Name x px, .Name y py] kt pt] (.Tuple [a, b] k2 pt2) X.env = pure (some [x, y]))
    (hv : swapsWithSole [.Tuple [.Name x px, .Name y py] kt pt] (.Tuple [a, b] k2 pt2) pos.line X.env = pure false) :
    PS X (.Assign [.Tuple [.Name x px, .Name y py] kt pt] (.Tuple [a, b] k2 pt2) pos) (tS W cl wx (.par i j ca cb)) :=
  (ps_par hc hN hi hj hij hx hy (pa_two ha hb hs hs2) hw hv).wk fun D σ H q => par_core hij q
/-! ### a tuple handed back, some of its items new -/
def tFs (W : Wd) (cl : Cal) (wx : WX) (c : CE) : TA := fun σ H Q => ∃ O r, EnvOk W O H σ r ∧ Good (fun ps r' => ∀ vs H' O', Aft W σ O H r O' H' r' → PartsAt W H O' H' vs ps → Q vs H') (wishOf W wx σ O H r) (evF cl c r)
theorem tFs.at {c : CE} {σ : L2.St} {H : Hp} {Q : List V → Hp → Prop} {O : Own} {r : Rho} {p : List (Bool × D) → Rho → Prop} (E : EnvOk W O H σ r) (h : Good p (wishOf W wx σ O H r) (evF cl c r))
    (k : ∀ ps r' vs H' O', p ps r' → Aft W σ O H r O' H' r' → PartsAt W H O' H' vs ps → Q vs H') : tFs W cl wx c σ H Q := ⟨O, r, E, h.mono (fun x r' hp v H' O' a q => k x r' v H' O' hp a q) fun _ _ z => z⟩
theorem fs_nil : PA X [] (tFs W cl wx .nil) := pa_nil.wk fun σ H Q ⟨O, r, E, h⟩ => h [] H O (.refl E) trivial
theorem res_later {σ : L2.St} {O O1 O2 : Own} {H H1 H2 : Hp} {r r1 r2 : Rho} {fr : Bool} {d : D} {v : V} (E : EnvOk W O H σ r) (a1 : Aft W σ O H r O1 H1 r1) (a2 : Aft W σ O1 H1 r1 O2 H2 r2) (q : ResAt W H O1 H1 fr d v) : ResAt W H O2 H2 fr d v := by
  cases fr with
  | false => exact Rp.mono (a2.sub a1.env) q
  | true =>
    obtain ⟨p, e, o, n, q⟩ := q
    have np : ¬ owned σ r1 p := fun z => by
      obtain ⟨o', e'⟩ := E.al p (E.owns p (a1.less p z))
      rw [n] at e'
      cases e'
    exact ⟨p, e, a2.stp.kown p o np, n, q.mono (fun o z => a2.stp.keep p o z np) (a2.sub a1.env)⟩
theorem fs_cons {c t : CE} {e : Expr} {es : List Expr} (h1 : SE W cl wx X c e) (h2 : PA X es (tFs W cl wx t)) (hs : starEach (e :: es) X.env = (false, eval e X.env) :: starEach es X.env) : PA X (e :: es) (tFs W cl wx (.cons c t)) :=
  (pa_cons h1.v h2 hs).wk fun σ H Q ⟨O, r, E, q⟩ => by
    refine tV.at E (good_bind.mp q) fun x r1 v H1 O1 hp a1 q1 => ?_
    refine tFs.at a1.env ((good_bind.mp hp).on E a1) fun ps r2 vs H2 O2 hp2 a2 q2 => ?_
    refine hp2 (v :: vs) H2 O2 (a1.trans E a2) ⟨res_later E a1 a2 q1, fun hx p ev f => ?_, q2.back fun p n => a1.stp.fresh n⟩
    rw [hx] at q1
    obtain ⟨b, eb, _, _, qb⟩ := q1
    rw [ev] at eb
    cases eb
    obtain ⟨o, eo⟩ := qb.isSome
    rw [(q2.fresh f).2] at eo
    cases eo
theorem ss_retT {c : CE} {es : List Expr} {k : Nat} {p2 : Pos} (h : PA X es (tFs W cl wx c)) : PS X (.Return (some (.Tuple es k p2)) pos) (tS W cl wx (.retT c)) := by
  refine (ps_ret (pe_tup h)).wk fun D σ H ⟨O, r, E, q⟩ => ?_
  refine tFs.at E (goods_stm.mp q) fun ps r1 vs H1 O1 hp a1 q1 => ?_
  by_cases hz : small ps.length = true
  · rw [if_pos hz] at hp
    refine ⟨by rw [q1.len]; exact Nat.le_of_ble_eq_true hz, fun p n => ?_⟩
    have a2 := aft_new (o := .tup vs) a1.env n
    have later : ∀ {vs' : List V} {ps' : List (Bool × Eg.D)}, PartsAt W H O1 H1 vs' ps' → PartsAt W H O1 (upd H1 p (.tup vs)) vs' ps' := fun {vs' ps'} h => by
      induction vs' generalizing ps' with
      | nil => cases ps' <;> exact h
      | cons v vs' ih =>
        cases ps' with
        | nil => exact h
        | cons x ps' => exact ⟨res_later E a1 a2 h.1, h.2.1, ih h.2.2⟩
    exact hp (.ref p) σ _ O1 (a1.trans E a2).s ⟨p, vs, rfl, SqT.of (mns_some.mpr ⟨notO a1.env n, upd_same⟩), later q1⟩
  · rw [if_neg hz] at hp
    exact hp.elim
/-- the items stored, one behind the other -/
theorem put_parts {σ0 : L2.St} {O0 O1 : Own} {H0 H1 : Hp} {r0 : Rho} (E0 : EnvOk W O0 H0 σ0 r0) : ∀ {is : List Nat} {ps : List (Bool × D)} {vs : List V} {σ : L2.St} {r r2 : Rho} {Q : L2.St → Hp → Prop}, SAft W σ0 O0 H0 r0 σ O1 H1 r → PartsAt W H0 O1 H1 vs ps → (∀ p, frs vs ps p → ¬ owned σ r p) →
    storeF r is ps = some r2 → (∀ σ', SAft W σ0 O0 H0 r0 σ' O1 H1 r2 → Q σ' H1) → gNames is vs σ H1 Q
  | [], [], [], σ, r, r2, Q, a, q, n, h, k => by
    cases h
    exact ⟨rfl, k σ a⟩
  | [], [], _ :: _, σ, r, r2, Q, a, q, n, h, k => q.elim
  | [], _ :: _, _, σ, r, r2, Q, a, q, n, h, k => by cases h
  | _ :: _, [], _, σ, r, r2, Q, a, q, n, h, k => by cases h
  | _ :: _, _ :: _, [], σ, r, r2, Q, a, q, n, h, k => q.elim
  | i :: is, (b, d) :: ps, v :: vs, σ, r, r2, Q, a, q, n, h, k => by
    have h : (match store r i b d with
      | some r' => storeF r' is ps
      | none => none) = some r2 := h
    cases e : store r i b d with
    | none =>
      rw [e] at h
      cases h
    | some r1 =>
      rw [e] at h
      have s1 := saft_setG E0 a q.1 (fun hb p ev => n p (.inl ⟨hb, ev⟩)) e
      refine ⟨v, vs, rfl, put_parts E0 s1 q.2.2 (fun p f ⟨j, g, x, h1, h2, h3⟩ => ?_) h k⟩
      obtain ⟨hi, er, _⟩ := store_inv e
      have hσ : i < σ.length := by
        rw [a.env.len]
        exact hi
      by_cases hij : i = j
      · subst hij
        rw [List.getElem?_set_self hσ] at h3
        subst er
        rw [List.getElem?_set_self hi] at h1
        cases hb : b with
        | false =>
          subst hb
          cases h1
          cases h2
        | true =>
          subst hb
          cases h3
          exact q.2.1 rfl p rfl f
      · rw [List.getElem?_set_ne hij] at h3
        subst er
        rw [List.getElem?_set_ne hij] at h1
        exact n p (.inr f) ⟨j, g, x, h1, h2, h3⟩
theorem shared_parts {H : Hp} {O' : Own} {H' : Hp} : ∀ {vs : List V} {ds : List D}, RpL W (mns H' O') vs ds → PartsAt W H O' H' vs (ds.map fun d => (false, d))
  | _, _, .nil => trivial
  | _, _, .cons a r => ⟨a, fun z => (nomatch z), shared_parts r⟩
theorem parts_cres {H : Hp} {O' : Own} {H' : Hp} {x : Bool × D} {ps : List (Bool × D)} {v : V} (q : CRes W H O' H' x.1 x.2 v) (h : partsOf x = some ps) : TupAt W H O' H' ps v := by
  obtain ⟨fr, d⟩ := x
  cases fr with
  | true =>
    cases d with
    | tp qs =>
      cases h
      exact q
    | _ => cases h
  | false =>
    cases d with
    | tup ds =>
      cases h
      cases (show Rp W (mns H' O') v (.tup ds) from q) with
      | tup s l =>
        exact ⟨_, _, rfl, s, shared_parts l⟩
    | _ => cases h
theorem storeF_len : ∀ {is : List Nat} {ps : List (Bool × D)} {r r2 : Rho}, storeF r is ps = some r2 → is.length = ps.length
  | [], [], r, r2, h => rfl
  | [], _ :: _, r, r2, h => by cases h
  | _ :: _, [], r, r2, h => by cases h
  | i :: is, (b, d) :: ps, r, r2, h => by
    have h : (match store r i b d with
      | some r' => storeF r' is ps
      | none => none) = some r2 := h
    split at h
    · simp [storeF_len h]
    · cases h
theorem unpC_core {is : List Nat} {fi : Nat} {x : Str} {c : CE} {D : Ends} {σ : L2.St} {H : Hp} (h : tS W cl wx (.unpC is fi x c) D σ H) : tAsg (tCallG (spF W cl fi) (tAs W cl wx c)) (tgT W.K (.many is)) D σ H := by
  obtain ⟨O, r, E, q⟩ := h
  refine tAs.at E (goods_stm.mp q) fun as r1 vs H1 O1 hp a1 qa => ?_
  refine callB_ok a1.env qa (goods_stm.mp hp) fun y r2 v H2 O2 hq a2 q2 => ?_
  obtain ⟨ps, ep, hq⟩ := good_lift.mp (goods_stm.mp hq)
  obtain ⟨r3, e3, k⟩ := goods_nxO hq
  obtain ⟨a, us, rfl, s, q3⟩ := parts_cres q2 ep
  have a12 := a1.trans E a2
  have q4 : PartsAt W H O2 H2 us ps := q3.back fun p n => a1.stp.fresh n
  refine ⟨a, us, rfl, sub_t mns_sub s, by rw [q3.len]; exact (storeF_len e3).symm, put_parts E a12.s q4 (fun p f z => ?_) e3 fun σ' s' => k σ' H2 O2 s'⟩
  obtain ⟨o, eo⟩ := E.al p (E.owns p (a12.less p z))
  rw [(q4.fresh f).2] at eo
  cases eo
theorem parts_new {σ : L2.St} {O O1 : Own} {H H1 : Hp} {r r1 : Rho} {p : Addr} {o : HO} (E : EnvOk W O H σ r) (a1 : Aft W σ O H r O1 H1 r1) (n : H1 p = none) : ∀ {vs' : List V} {ps' : List (Bool × Eg.D)}, PartsAt W H O1 H1 vs' ps' → PartsAt W H O1 (upd H1 p o) vs' ps' := fun {vs' ps'} h => by
  induction vs' generalizing ps' with
  | nil => cases ps' <;> exact h
  | cons v vs' ih =>
    cases ps' with
    | nil => exact h
    | cons x ps' => exact ⟨res_later E a1 (aft_new a1.env n) h.1, h.2.1, ih h.2.2⟩
theorem unpT_core {is : List Nat} {c : CE} {D : Ends} {σ : L2.St} {H : Hp} (h : tS W cl wx (.unpT is c) D σ H) : tAsg (tTup (tFs W cl wx c)) (tgT W.K (.many is)) D σ H := by
  obtain ⟨O, r, E, q⟩ := h
  refine tFs.at E (goods_stm.mp q) fun ps r1 vs H1 O1 hp a1 q1 => ?_
  by_cases hz : small ps.length = true
  · rw [if_pos hz] at hp
    obtain ⟨r2, e2, k⟩ := goods_nxO hp
    refine ⟨by rw [q1.len]; exact Nat.le_of_ble_eq_true hz, fun p n => ?_⟩
    have a12 := a1.trans E (aft_new (o := .tup vs) a1.env n)
    have q4 := parts_new (o := .tup vs) E a1 n q1
    refine ⟨p, vs, rfl, SqT.of upd_same, by rw [q1.len]; exact (storeF_len e2).symm, put_parts E a12.s q4 (fun y f z => ?_) e2 fun σ' s' => k σ' _ O1 s'⟩
    obtain ⟨o, eo⟩ := E.al y (E.owns y (a12.less y z))
    rw [(q4.fresh f).2] at eo
    cases eo
  · rw [if_neg hz] at hp
    exact hp.elim
theorem ss_unpT {is : List Nat} {c : CE} {es : List Expr} {tg : Expr} {k : Nat} {p2 : Pos} (h : PA X es (tFs W cl wx c)) (hg : PG X tg (tgT W.K (.many is))) (hs : swapsWithSole [tg] (.Tuple es k p2) pos.line X.env = pure false) (hw : swappedStores [tg] (.Tuple es k p2) X.env = pure none)
    (h1 : (assignEach [tg] X.env).map (·.2) = [assign tg X.env]) : PS X (.Assign [tg] (.Tuple es k p2) pos) (tS W cl wx (.unpT is c)) := (ps_asg (pe_tup h) hg hs hw h1).wk fun D σ H q => unpT_core q
theorem ss_unpC {is : List Nat} {fi : Nat} {x : Str} {c : CE} {e tg : Expr} (h : PE X e (tCallG (spF W cl fi) (tAs W cl wx c))) (hg : PG X tg (tgT W.K (.many is))) (hs : swapsWithSole [tg] e pos.line X.env = pure false) (hw : swappedStores [tg] e X.env = pure none)
    (h1 : (assignEach [tg] X.env).map (·.2) = [assign tg X.env]) : PS X (.Assign [tg] e pos) (tS W cl wx (.unpC is fi x c)) := (ps_asg h hg hs hw h1).wk fun D σ H q => unpC_core q
/-! ### three names at once -/
theorem par3_core {i j l : Nat} {a b c : CE} {D : Ends} {σ : L2.St} {H : Hp} (h : tS W cl wx (.par3 i j l a b c) D σ H) : tPar3 i j l (tKs W cl wx (.cons a (.cons b (.cons c .nil)))) D σ H := by
  obtain ⟨O, r, E, q⟩ := h
  refine tKs.at E (goods_stm.mp q) fun ds r1 vs H1 O1 hp a1 q1 => ?_
  obtain ⟨r2, e2, k⟩ := goods_nxO hp
  have z := put_many (Q := fun σ' H' => H' = H1 ∧ D.nx σ' H1) a1.env q1 e2 fun σ' s _ => ⟨rfl, k σ' H1 O1 (a1.s.trans E s)⟩
  obtain ⟨u, vs1, rfl, v, vs2, rfl, w, vs3, rfl, rfl, _, z⟩ := z
  exact ⟨u, v, w, rfl, z⟩
theorem ss_par3 {i j l : Nat} {x y z : Str} {ca cb cc : CE} {a b c : Expr} {px py pz pt : Pos} {kt k2 pt2} (hc : X.calm = true) (hN : X.N.Nodup) (hi : X.N[i]? = some x) (hj : X.N[j]? = some y) (hl : X.N[l]? = some z) (hij : i ≠ j) (hil : i ≠ l) (hjl : j ≠ l)
    (hx : X.env.scope.names.lookup x = some .local) (hy : X.env.scope.names.lookup y = some .local) (hz : X.env.scope.names.lookup z = some .local) (ha : PA X [a, b, c] (tKs W cl wx (.cons ca (.cons cb (.cons cc .nil)))))
    (hw : swappedStores [.Tuple [.Name x px, .Name y py, .Name z pz] kt pt] (.Tuple [a, b, c] k2 pt2) X.env = pure (some [x, y, z]))
    (hv : swapsWithSole [.Tuple [.Name x px, .Name y py, .Name z pz] kt pt] (.Tuple [a, b, c] k2 pt2) pos.line X.env = pure false) :
    PS X (.Assign [.Tuple [.Name x px, .Name y py, .Name z pz] kt pt] (.Tuple [a, b, c] k2 pt2) pos) (tS W cl wx (.par3 i j l ca cb cc)) :=
  (ps_par3 hc hN hi hj hl hij hil hjl hx hy hz ha hw hv).wk fun D σ H q => par3_core q
/-! ### a field stored -/
theorem fput_core {Cs : List Addr} {i : Nat} {f : Str} {c : CE} {D : Ends} {σ : L2.St} {H : Hp} (hn : ∀ C ∈ Cs, NoAttr W.K (ca W C) f) (h : tS W cl wx (.fput Cs i f c) D σ H) : sFld W.K (tVar i) (tV W cl wx c) f D σ H := by
  obtain ⟨O, r, E, q⟩ := h
  refine tV.sh E (goods_stm.mp q) fun x r1 v H1 O1 hp a1 q1 => ?_
  obtain ⟨r2, e2, k⟩ := goods_nxO hp
  unfold putF1 at e2
  cases hs : slotOf r1 i with
  | none =>
    rw [hs] at e2
    cases e2
  | some fd =>
    obtain ⟨fl, d⟩ := fd
    rw [hs] at e2
    cases d with
    | ins C fs =>
      have e2 : (if (fl.own && Cs.contains C && Nat.blt fs.length 1000) = true then some (r1.set i (some (fl, .ins C (setF f x.2 fs)))) else none) = some r2 := e2
      by_cases hc : (fl.own && Cs.contains C && Nat.blt fs.length 1000) = true
      · rw [if_pos hc] at e2
        cases e2
        simp only [Bool.and_eq_true] at hc
        obtain ⟨⟨hf, hC⟩, hz⟩ := hc
        obtain ⟨p, ev, op, kl, dx, vs, ep, l⟩ := a1.env.own_at (slotOf_some hs) hf
        refine ⟨.ref p, ev, p, ca W C, dx, vs, rfl, ep, kl.cl, hn C (List.contains_iff_mem.mp hC), by rw [l.length]; exact Nat.le_of_ble_eq_true hz, ?_⟩
        exact k σ _ O1 ((a1.trans E (aft_set a1.env (slotOf_some hs) hf ev op (o := .ins (ca W C) dx (putF f v vs)) (d' := .ins C (setF f x.2 fs)) ⟨kl, dx, _, upd_same, (l.put q1).mono (subm_at op)⟩)).s)
      · rw [if_neg hc] at e2
        cases e2
    | _ => cases e2
theorem ss_fput {Cs : List Addr} {i : Nat} {f : Str} {c : CE} {o e : Expr} {p : Pos} (hW : W = ⟨X.prog, X.w, X.K⟩) (ho : SE W cl wx X (.var i) o) (h : SE W cl wx X c e) (hn : ∀ C ∈ Cs, NoAttr W.K (ca W C) f) (hs : swapsWith e (some (.Attribute o f p)) pos.line X.env = pure false) :
    PS X (.Assign [.Attribute o f p] e pos) (tS W cl wx (.fput Cs i f c)) :=
  (ps_fld (ho.n i rfl) h.v hs).wk fun D σ H q => by
    have z := fput_core hn q
    have eK : X.K = W.K := by rw [hW]
    rw [eK]
    exact z
/-! ### xs += ys -/
def rIadd : R2 := fun x y H Q => ∃ l b xs zs, x = .ref l ∧ y = .ref b ∧ H l = some (.lst xs) ∧ Rd H b (.lst zs) ∧ xs.length + zs.length ≤ sizeLine ∧ Q (.ref l) (upd H l (.lst (xs ++ zs)))
theorem ip_list : PIp X .Add rIadd := by
  intro pins s σ H x y v u Q I rx ry h
  obtain ⟨l, b, xs, zs, rfl, rfl, hH, hB, hz, q⟩ := h
  cases rx
  cases ry
  obtain ⟨z, its, n, r, hl, e⟩ := I.lstM hH
  obtain ⟨z2, its2, n2, r2, e2⟩ := rdL I hB
  have hl2 := r2.length
  have hsz : its.toArray.size + its2.toArray.size ≤ sizeLine := by rw [List.size_toArray, List.size_toArray]; omega
  have hlong : ¬ (!its.toArray.isEmpty && Builtin.List.listTooLong (its.toArray.size + its2.toArray.size)) = true := by
    rw [notLongL hsz, Bool.and_false]
    simp
  refine iadd_road ⟨_, e, rfl⟩ ⟨_, e2, rfl⟩ (call_meets PySem.F.slot_list_iadd ⟨_, e, rfl⟩ PySem.F.entry_list_iadd (PySem.F.args_list_iadd_2 _ _) (AutoSeq1.list___iadd___list_list_0 l its.toArray n b its2.toArray n2 hlong (by rw [List.size_toArray]; omega) (by omega)) ⟨e, e2, ?_⟩)
  exact ⟨.ref l, _, I.lset (its' := its ++ its2) (t' := s.toks) hH e (by simp) (r.append r2) (by rw [List.length_append]; omega), rfl, q⟩
theorem aug_core {i : Nat} {c : CE} {D : Ends} {σ : L2.St} {H : Hp} (h : tS W cl wx (.aug i c) D σ H) : tAug i (tR W cl wx c) rIadd D σ H := by
  obtain ⟨O, r, E, q⟩ := h
  obtain ⟨⟨f0, d0⟩, e0, q⟩ := good_lift.mp (goods_stm.mp q)
  obtain ⟨v0, ev0, _⟩ := E.sl i f0 d0 (slotOf_some e0)
  refine ⟨v0, ev0, tR.at E (goods_stm.mp q) fun y r1 u H1 O1 hp a1 q1 => ?_⟩
  obtain ⟨⟨f1, d1⟩, e1, hp⟩ := good_lift.mp (goods_stm.mp hp)
  have es := slotOf_some e1
  have hp : GoodS _ _ _ (match f1.own, augD d1 y.2 with
    | true, some d => SOut.nx (r1.set i (some (f1, d)))
    | _, _ => .no) := hp
  cases hf : f1.own with
  | false =>
    rw [hf] at hp
    exact hp.elim
  | true =>
    rw [hf] at hp
    cases ed : augD d1 y.2 with
    | none =>
      rw [ed] at hp
      exact hp.elim
    | some d =>
      rw [ed] at hp
      obtain ⟨p, ev, op, qp⟩ := a1.env.own_at es hf
      rw [ev0] at ev
      cases ev
      cases d1 with
      | lst xs =>
        cases hy : y.2 with
        | lst ys =>
          rw [hy] at ed q1
          have ed : (if small (xs.length + ys.length) = true then some (Eg.D.lst (xs ++ ys)) else none) = some d := ed
          by_cases hc : small (xs.length + ys.length) = true
          · rw [if_pos hc] at ed
            cases ed
            obtain ⟨us, e, l⟩ := qp
            obtain ⟨b, ws, rfl, sb, lb⟩ := q1.lst
            refine ⟨p, b, us, ws, rfl, rfl, e, sb, by rw [l.length, lb.length]; exact small_le hc, ?_⟩
            have a2 := aft_set a1.env es hf ev0 op (o := .lst (us ++ ws)) (d' := .lst (xs ++ ys)) ⟨_, upd_same, (l.append lb).mono (subm_at op)⟩
            have hset : σ.set i (some (.ref p)) = σ := by
              apply List.ext_getElem?
              intro j
              by_cases hij : i = j
              · subst hij
                rw [List.getElem?_set_self (List.getElem?_eq_some_iff.mp ev0).1, ev0]
              · rw [List.getElem?_set_ne hij]
            show D.nx (σ.set i (some (.ref p))) _
            rw [hset]
            exact hp σ _ O1 (a1.trans E a2).s
          · rw [if_neg hc] at ed
            cases ed
        | _ =>
          rw [hy] at ed
          cases ed
      | _ => cases ed
theorem ss_aug {i : Nat} {x : Str} {c : CE} {e : Expr} {p : Pos} (hN : X.N.Nodup) (hi : X.N[i]? = some x) (hx : Loc X.env.scope x) (hf : X.fn x = true ∨ X.env.scope.names.lookup x = some .local) (h : SE W cl wx X c e) : PS X (.AugAssign (.Name x p) .Add e pos) (tS W cl wx (.aug i c)) :=
  (ps_aug hN hi hx h.r ip_list hf).wk fun D σ H q => aug_core q
end
end Eg
/-! Eg18: stores to places, branches, loops. -/
namespace Eg
open PySem PySem.Spec PyProof.Rows L2
def rPut (W : Wd) : TSet := fun o i v H Q => rSetL o i v H Q ∨ (∃ a H', o = .ref a ∧ DPut H a i v H' ∧ Q H') ∨ rSetN W o i v H Q
theorem set_any {W : Wd} {X : Cx} (hW : W = ⟨X.prog, X.w, X.K⟩) (hu : X.A.units + 65 < cLine) : PSet X (rPut W) := by
  intro pins s σ H o i v ov iv u Q I ro ri rv h
  rcases h with h | ⟨a, H', rfl, g, q⟩ | h
  · exact set_list pins s σ H o i v ov iv u Q I ro ri rv h
  · cases ro
    exact d_setItem (by omega) I g ri rv fun s' I' => ⟨H', I', q⟩
  · exact set_dn hW hu pins s σ H o i v ov iv u Q I ro ri rv h
section
variable {W : Wd} {cl : Cal} {wx : WX} {X : Cx} {pos : Pos}
theorem putI_ok {i : Nat} {k v : D} {r r2 : Rho} {σ : L2.St} {O : Own} {H : Hp} {ky vv : V} {Q : Hp → Prop} (E : EnvOk W O H σ r) (h : putI r i k v = some r2) (qk : Rb W O H ky k) (qv : Rp W (mns H O) vv v)
    (g : ∀ H', Aft W σ O H r O H' r2 → Q H') : ∃ p, σ[i]? = some (some (.ref p)) ∧ rPut W (.ref p) ky vv H Q := by
  unfold putI at h
  cases hs : slotOf r i with
  | none =>
    rw [hs] at h
    cases h
  | some fd =>
    obtain ⟨f, d⟩ := fd
    rw [hs] at h
    have es := slotOf_some hs
    by_cases hf : f.own = true
    · have h : (if f.own = true then (putD d k v).map fun d' => r.set i (some (f, d')) else none) = some r2 := h
      rw [if_pos hf] at h
      obtain ⟨d', ed, rfl⟩ := Option.map_eq_some_iff.mp h
      obtain ⟨p, ev, op, qp⟩ := E.own_at es hf
      refine ⟨p, ev, ?_⟩
      cases d with
      | dk kvs =>
        have ed : (match k.key with
          | some k => if Nat.blt kvs.length sizeLine = true then some (D.dk (setK kvs k v)) else none
          | none => none) = some d' := ed
        cases hk : k.key with
        | none =>
          rw [hk] at ed
          cases ed
        | some kk =>
          rw [hk] at ed
          have ed : (if Nat.blt kvs.length sizeLine = true then some (D.dk (setK kvs kk v)) else none) = some d' := ed
          by_cases hc : Nat.blt kvs.length sizeLine = true
          · rw [if_pos hc] at ed
            cases ed
            obtain ⟨ks, e, l⟩ := qp
            have ek := key_ok qk hk
            subst ek
            refine .inr (.inl ⟨p, _, rfl, DPut.k e (by rw [l.length]; exact Nat.le_of_ble_eq_true hc), g _ (aft_set E es hf ev op ⟨_, upd_same, ?_⟩)⟩)
            exact (l.put qv kk).mono (subm_at op)
          · rw [if_neg hc] at ed
            cases ed
      | lst xs =>
        cases k with
        | int j =>
          have ed : (ixN xs.length j).map (fun m => D.lst (xs.set m v)) = some d' := ed
          obtain ⟨m, em, rfl⟩ := Option.map_eq_some_iff.mp ed
          obtain ⟨ks, e, l⟩ := qp
          obtain rfl := qk.int
          refine .inl ⟨p, ks, j, m, rfl, rfl, e, ?_, g _ (aft_set E es hf ev op ⟨_, upd_same, ?_⟩)⟩
          · rw [l.length]
            exact em
          · exact (l.set qv _).mono (subm_at op)
        | _ => cases ed
      | dn kvs =>
        have ed : (match k.tk with
          | some k' => if Nat.blt kvs.length sizeLine = true then some (D.dn (setN kvs k' k v)) else none
          | none => none) = some d' := ed
        cases hk : k.tk with
        | none =>
          rw [hk] at ed
          cases ed
        | some kk =>
          rw [hk] at ed
          have ed : (if Nat.blt kvs.length sizeLine = true then some (D.dn (setN kvs kk k v)) else none) = some d' := ed
          by_cases hc : Nat.blt kvs.length sizeLine = true
          · rw [if_pos hc] at ed
            cases ed
            obtain ⟨o, xs, e, dk, l⟩ := qp
            have qk' : Rp W (mns H O) ky k := by
              rcases qk with qk | ⟨_, _, _, qk⟩
              · exact qk
              · cases k <;> first | exact qk.elim | cases hk
            refine .inr (.inr ⟨p, o, xs, kvs, k, kk, v, mns H O, rfl, e, dk, by rw [l.length]; exact Nat.le_of_ble_eq_true hc, mns_sub, l, qk', hk, qv, fun o' xs' dk' l' => ?_⟩)
            exact g _ (aft_set E es hf ev op ⟨o', xs', upd_same, dk', l'.mono (subm_at op)⟩)
          · rw [if_neg hc] at ed
            cases ed
      | _ => cases ed
    · have h : (if f.own = true then (putD d k v).map fun d' => r.set i (some (f, d')) else none) = some r2 := h
      rw [if_neg hf] at h
      cases h
theorem peek_at {r : Rho} {σ : L2.St} {O : Own} {H : Hp} {i : Nat} {d : D} (E : EnvOk W O H σ r) (h : peek r i = some d) : ∃ v, σ[i]? = some (some v) := by
  obtain ⟨v, e, _⟩ := E.peek h
  exact ⟨v, e⟩
theorem put_core {i : Nat} {k c : CE} {D : Ends} {σ : L2.St} {H : Hp} (h : tS W cl wx (.put i k c) D σ H) : tAsg (tV W cl wx c) (gSub (tVar i) (tR W cl wx k) (rPut W)) D σ H := by
  obtain ⟨O, r, E, q⟩ := h
  refine tV.sh E (goods_stm.mp q) fun x r1 v H1 O1 hp a1 q1 => ?_
  obtain ⟨d0, e0, hp⟩ := good_lift.mp (goods_stm.mp hp)
  obtain ⟨o, eo⟩ := peek_at a1.env e0
  refine ⟨o, eo, tR.at a1.env ((goods_stm.mp hp).on E a1) fun y r2 u H2 O2 hp2 a2 q2 => ?_⟩
  obtain ⟨r3, e3, kk⟩ := goods_nxO hp2
  obtain ⟨p, ep, z⟩ := putI_ok a2.env e3 q2 (q1.mono (a2.sub a1.env)) fun H3 a3 => kk σ H3 O2 ((a1.trans E (a2.trans a1.env a3)).s)
  rw [eo] at ep
  cases ep
  exact z
theorem pg_at {i : Nat} {k : CE} {o ki : Expr} {p : Pos} (hW : W = ⟨X.prog, X.w, X.K⟩) (hu : X.A.units + 65 < cLine) (ho : SE W cl wx X (.var i) o) (hk : SE W cl wx X k ki) (ha : ∀ v, assign (.Subscript o ki p) X.env v = (do
      let ov ← holding [v] (eval o X.env)
      let iv ← holding [v, ov] (eval ki X.env)
      standAt p
      holding [v, ov, iv] (setItem ov iv v)
      release [v, ov, iv] [])) : PG X (.Subscript o ki p) (gSub (tVar i) (tR W cl wx k) (rPut W)) := pg_sub (ho.n i rfl) hk.r (set_any hW hu) ha
theorem ss_put {i : Nat} {k c : CE} {o ki e : Expr} {p : Pos} (hg : PG X (.Subscript o ki p) (gSub (tVar i) (tR W cl wx k) (rPut W))) (h : SE W cl wx X c e) (hs : swapsWithSole [.Subscript o ki p] e pos.line X.env = pure false) (hw : swappedStores [.Subscript o ki p] e X.env = pure none)
    (h1 : (assignEach [.Subscript o ki p] X.env).map (·.2) = [assign (.Subscript o ki p) X.env]) : PS X (.Assign [.Subscript o ki p] e pos) (tS W cl wx (.put i k c)) :=
  (ps_asg h.v hg hs hw h1).wk fun D σ H q => put_core q
theorem put2_core {i j : Nat} {k l c : CE} {D : Ends} {σ : L2.St} {H : Hp} (h : tS W cl wx (.put2 i k j l c) D σ H) : tAsg (tV W cl wx c) (gTup W.K 2 (gCons (gSub (tVar i) (tR W cl wx k) (rPut W)) (gCons (gSub (tVar j) (tR W cl wx l) (rPut W)) gNil))) D σ H := by
  obtain ⟨O, r, E, q⟩ := h
  refine tV.sh E (goods_stm.mp q) fun x r1 v H1 O1 hp a1 q1 => ?_
  obtain ⟨⟨d1, d2⟩, ed, hp⟩ := good_lift.mp (goods_stm.mp hp)
  have ex : x.2 = .tup [d1, d2] := by
    unfold pairD at ed
    split at ed
    · rename_i a b e
      cases ed
      exact e
    · cases ed
  rw [ex] at q1
  cases q1 with
  | tup s l =>
    cases l with
    | cons t1 l =>
      cases l with
      | cons t2 l =>
        cases l
        obtain ⟨d0, e0, hp⟩ := good_lift.mp (goods_stm.mp hp)
        obtain ⟨o, eo⟩ := peek_at a1.env e0
        refine ⟨_, _, rfl, sub_t mns_sub s, rfl, _, _, rfl, o, eo, tR.at a1.env ((goods_stm.mp hp).on E a1) fun y r2 u H2 O2 hp2 a2 q2 => ?_⟩
        obtain ⟨r3, e3, hp3⟩ := good_lift.mp (goods_stm.mp hp2)
        obtain ⟨d4, e4, hp4⟩ := good_lift.mp (goods_stm.mp hp3)
        obtain ⟨p, ep, z⟩ := putI_ok a2.env e3 q2 (t1.mono (a2.sub a1.env)) (Q := fun H3 => gCons (gSub (tVar j) (tR W cl wx l) (rPut W)) gNil [_] σ H3 D.nx) fun H3 a3 => by
          obtain ⟨o4, eo4⟩ := peek_at a3.env e4
          have a13 := a1.trans E (a2.trans a1.env a3)
          refine ⟨_, _, rfl, o4, eo4, tR.at a3.env ((goods_stm.mp hp4).on E a13) fun y5 r5 u5 H5 O5 hp5 a5 q5 => ?_⟩
          obtain ⟨r6, e6, kk⟩ := goods_nxO hp5
          obtain ⟨p, ep, z⟩ := putI_ok a5.env e6 q5 (t2.mono fun a o z => a5.sub a3.env a o (a3.sub a2.env a o (a2.sub a1.env a o z))) (Q := fun H7 => gNil [] σ H7 D.nx) fun H7 a7 => ⟨rfl, kk σ H7 O5 ((a13.trans E (a5.trans a3.env a7)).s)⟩
          rw [eo4] at ep
          cases ep
          exact z
        rw [eo] at ep
        cases ep
        exact z
theorem ss_put2 {i j : Nat} {k l c : CE} {t1 t2 e : Expr} {kt : Nat} {pt : Pos} (hW : W = ⟨X.prog, X.w, X.K⟩) (hc : X.calm = true) (hg1 : PG X t1 (gSub (tVar i) (tR W cl wx k) (rPut W))) (hg2 : PG X t2 (gSub (tVar j) (tR W cl wx l) (rPut W)))
    (h : SE W cl wx X c e) (hs : swapsWithSole [.Tuple [t1, t2] kt pt] e pos.line X.env = pure false) (hw : swappedStores [.Tuple [t1, t2] kt pt] e X.env = pure none)
    (h1 : (assignEach [.Tuple [t1, t2] kt pt] X.env).map (·.2) = [assign (.Tuple [t1, t2] kt pt) X.env])
    (h2 : (assignEach [t1, t2] X.env).map (·.2) = assign t1 X.env :: (assignEach [t2] X.env).map (·.2)) (h3 : (assignEach [t2] X.env).map (·.2) = [assign t2 X.env])
    (h4 : (assignEach [t1, t2] X.env).length = 2) (h5 : (assignEach [t1, t2] X.env).findIdx? (·.1) = none) :
    PS X (.Assign [.Tuple [t1, t2] kt pt] e pos) (tS W cl wx (.put2 i k j l c)) := by
  have hg := pg_tup (pos := pt) (k := kt) hc (pgs_cons hg1 (pgs_cons hg2 pgs_nil h3) h2) h4 h5
  refine (ps_asg h.v hg hs hw h1).wk fun D σ H q => ?_
  have := put2_core q
  rw [hW] at this ⊢
  exact this
/-! ### branches -/
theorem ss_ifs {c : CE} {a b : CS} {e : Expr} {sa sb : List Stmt} (h : SE W cl wx X c e) (ha : PSs X sa (tS W cl wx a)) (hb : PSs X sb (tS W cl wx b)) : PS X (.If e sa sb pos) (tS W cl wx (.ifs c a b)) :=
  (ps_if h.t ha hb).wk fun D σ H ⟨O, r, E, q⟩ => by
    refine tQ.at E (goods_stm.mp q) fun x r1 hp => ?_
    have hp : GoodS _ _ _ (match x.2 with
      | .bl true => run cl a r1
      | .bl false => run cl b r1
      | _ => .no) := hp
    cases hx : x.2 with
    | bl k =>
      refine ⟨k, rfl, fun H1 O1 a1 => ?_⟩
      rw [hx] at hp
      cases k with
      | true =>
        rw [if_pos rfl]
        exact tS.at a1.env (hp.on E a1.s) (fun r2 σ2 H2 O2 hp2 a2 => hp2 σ2 H2 O2 (a1.s.trans E a2)) fun fr d r2 v σ2 H2 O2 hp2 a2 q => hp2 v σ2 H2 O2 (a1.s.trans E a2) (q.back a1.s)
      | false =>
        rw [if_neg (by simp)]
        exact tS.at a1.env (hp.on E a1.s) (fun r2 σ2 H2 O2 hp2 a2 => hp2 σ2 H2 O2 (a1.s.trans E a2)) fun fr d r2 v σ2 H2 O2 hp2 a2 q => hp2 v σ2 H2 O2 (a1.s.trans E a2) (q.back a1.s)
    | _ =>
      rw [hx] at hp
      exact hp.elim
/-! ### loops -/
theorem ss_whl {c : CE} {b : CS} {e : Expr} {sb : List Stmt} (hp : PassesOwn (model X.prog X.w) X.A X.env X.xe) (h : SE W cl wx X c e) (hb : PSs X sb (tS W cl wx b)) : PS X (.While e sb [] pos) (tS W cl wx (.whl c b)) :=
  (ps_while hp h.t hb).wk fun D σ H ⟨O, r, E, q⟩ => by
    have q : GoodS _ _ _ (loopW (ev cl c .tst) (run cl b) fuel r) := q
    refine ⟨fun m σ' H' => ∃ O' r', SAft W σ O H r σ' O' H' r' ∧ GoodS (fun r' => ∀ σ' H' O', SAft W σ O H r σ' O' H' r' → D.nx σ' H') (fun fr d r' => ∀ v σ' H' O', SAft W σ O H r σ' O' H' r' → RetAt W σ H r O' H' fr d v → D.rt v H') (wishOf W wx σ O H r) (loopW (ev cl c .tst) (run cl b) m r'), ⟨fuel, O, r, .refl E, q⟩, ?_⟩
    rintro m σ1 H1 ⟨O1, r1, a1, g⟩
    cases m with
    | zero => exact g.elim
    | succ m =>
      refine tQ.at a1.env ((goods_stm.mp g).onS E a1) fun x r2 hp => ?_
      have hp : GoodS _ _ _ (match x.2 with
        | .bl true => (run cl b r2).then fun r => loopW (ev cl c .tst) (run cl b) m r
        | .bl false => .nx r2
        | _ => .no) := hp
      cases hx : x.2 with
      | bl k =>
        refine ⟨k, rfl, fun H2 O2 a2 => ?_⟩
        rw [hx] at hp
        have a12 := a1.trans E a2.s
        cases k with
        | true =>
          rw [if_pos rfl]
          refine ⟨_, fun σ' H' z => ⟨m, Nat.lt_succ_self m, z⟩, tS.at a2.env ((goods_then.mp hp).on E a12) (fun r3 σ3 H3 O3 hp3 a3 => ⟨O3, r3, a12.trans E a3, hp3⟩) fun fr d r3 v σ3 H3 O3 hp3 a3 q => hp3 v σ3 H3 O3 (a12.trans E a3) (q.back a12)⟩
        | false =>
          rw [if_neg (by simp)]
          exact hp σ1 H2 O2 a12
      | _ =>
        rw [hx] at hp
        exact hp.elim
theorem fors_core {tg : List Nat} {it : CE} {b : CS} {D : Ends} {σ : L2.St} {H : Hp} (h : tS W cl wx (.fors tg it b) D σ H) : tFor (tI W cl wx it) (tgT W.K (oneOf tg)) (tS W cl wx b) D σ H := by
    obtain ⟨O, r, E, q⟩ := h
    refine tI.at E (goods_stm.mp q) fun xs r1 J H1 O1 hp a1 wk => ?_
    refine ⟨fun i m σ' H' => ∃ O' r', i ≤ xs.length ∧ m = xs.length - i ∧ SAft W σ O H r σ' O' H' r' ∧ Sub (mns H1 O1) (mns H' O') ∧ GoodS (fun r' => ∀ σ' H' O', SAft W σ O H r σ' O' H' r' → D.nx σ' H') (fun fr d r' => ∀ v σ' H' O', SAft W σ O H r σ' O' H' r' → RetAt W σ H r O' H' fr d v → D.rt v H') (wishOf W wx σ O H r) (loopF (oneOf tg) (run cl b) (xs.drop i) r'),
      ⟨xs.length, O1, r1, Nat.zero_le _, rfl, a1.s, fun _ _ z => z, hp⟩, ?_⟩
    rintro i m σ2 H2 ⟨O2, r2, hle, rfl, a2, sb, g⟩
    by_cases hlt : i < xs.length
    · refine .inr ⟨wk.go O2 H2 i sb hlt, fun σ' H' => ∃ O' r', i + 1 ≤ xs.length ∧ xs.length - (i + 1) = xs.length - (i + 1) ∧ SAft W σ O H r σ' O' H' r' ∧ Sub (mns H1 O1) (mns H' O') ∧ GoodS (fun r' => ∀ σ' H' O', SAft W σ O H r σ' O' H' r' → D.nx σ' H') (fun fr d r' => ∀ v σ' H' O', SAft W σ O H r σ' O' H' r' → RetAt W σ H r O' H' fr d v → D.rt v H') (wishOf W wx σ O H r) (loopF (oneOf tg) (run cl b) (xs.drop (i + 1)) r'), fun σ' H' z => ⟨xs.length - (i + 1), by omega, z⟩, fun x H' y => ?_⟩
      obtain ⟨gr, qx⟩ := wk.yld O2 H2 i xs[i] x H' sb a2.env.al (List.getElem?_eq_getElem hlt) y
      rw [List.drop_eq_getElem_cons hlt] at g
      have g : GoodS _ _ _ (match (oneOf tg).put r2 xs[i] with
        | some r1 => (run cl b r1).then fun r2 => loopF (oneOf tg) (run cl b) (xs.drop (i + 1)) r2
        | none => .no) := g
      cases et : (oneOf tg).put r2 xs[i] with
      | none =>
        rw [et] at g
        exact g.elim
      | some rt =>
        rw [et] at g
        have ag := gr.aft a2.env
        refine put_ok ag.env qx et fun σ3 s off => ?_
        have s3 := ag.s.trans a2.env s
        have a3 := a2.trans E s3
        refine tS.at s.env ((goods_then.mp g).on E a3) (fun r4 σ4 H4 O4 hp4 a4 => ?_) fun fr d r4 v σ4 H4 O4 hp4 a4 q => hp4 v σ4 H4 O4 (a3.trans E a4) (q.back a3)
        exact ⟨O4, r4, hlt, rfl, a3.trans E a4, fun a o z => (s3.trans a2.env a4).sub a2.env a o (sb a o z), hp4⟩
    · have e : i = xs.length := by omega
      subst e
      rw [List.drop_length] at g
      exact .inl ⟨wk.stop O2 H2 sb, g σ2 H2 O2 a2⟩
theorem ss_fors {tg : List Nat} {it : CE} {b : CS} {te e : Expr} {sb : List Stmt} (hp : PassesOwn (model X.prog X.w) X.A X.env X.xe) (hc : X.calm = true) (hi : PI X te e (tI W cl wx it)) (hg : PG X te (tgT W.K (oneOf tg))) (hb : PSs X sb (tS W cl wx b))
    (hs : ∀ x, foldedSetIterable e X.env x = pure x) : PS X (.For te e sb [] pos) (tS W cl wx (.fors tg it b)) :=
  (ps_for hp hc hi hg hb hs).wk fun D σ H h => fors_core h
theorem slotOf_at {r : Rho} {i : Nat} {x : Fl × D} (h : slotOf r i = some x) : r[i]? = some (some x) := by
  unfold slotOf at h
  split at h
  · rename_i y e
    cases h
    exact e
  · cases h
def tVs (i : Nat) : TA := fun σ H Q => tVar i σ H fun v H1 => Q [v] H1
theorem loopB_core {tg : List Nat} {i : Nat} {b : CS} {D : Ends} {σ : L2.St} {H : Hp} {O : Own} {r : Rho} {ys : List Eg.D} (E : EnvOk W O H σ r) (hs : slotOf r i = some (.bo, .lst ys))
    (q : GoodS (fun r' => ∀ σ' H' O', SAft W σ O H r σ' O' H' r' → D.nx σ' H') (fun fr d r' => ∀ v σ' H' O', SAft W σ O H r σ' O' H' r' → RetAt W σ H r O' H' fr d v → D.rt v H') (wishOf W wx σ O H r) (loopB (oneOf tg) i (run cl b) ys.length 0 r)) :
    tFor (iEnum W.K (tVs i)) (tgT W.K (oneOf tg)) (tS W cl wx b) D σ H := by
  have at_ : ∀ {σ' : L2.St} {O' : Own} {H' : Hp} {r' : Rho} {zs : List Eg.D}, EnvOk W O' H' σ' r' → slotOf r' i = some (.bo, .lst zs) → ∃ a vs, σ'[i]? = some (some (.ref a)) ∧ H' a = some (.lst vs) ∧ RpL W (mns H' O') vs zs := fun {σ' O' H' r' zs} E' h => by
    obtain ⟨v, ev, q⟩ := E'.sl i _ _ (slotOf_at h)
    obtain ⟨a, e, oa, vs, ea, l⟩ := (show ∃ a, v = .ref a ∧ O' a ∧ OwnAt W O' H' a (.lst zs) from q)
    exact ⟨a, vs, by rw [ev, e], ea, l⟩
  obtain ⟨a, vs, ev, ea, l⟩ := at_ E hs
  refine ⟨.ref a, ev, a, vs, rfl, .inl (.inl ea), ?_⟩
  refine ⟨fun j m σ' H' => ∃ O' r', SAft W σ O H r σ' O' H' r' ∧ GoodS (fun r' => ∀ σ' H' O', SAft W σ O H r σ' O' H' r' → D.nx σ' H') (fun fr d r' => ∀ v σ' H' O', SAft W σ O H r σ' O' H' r' → RetAt W σ H r O' H' fr d v → D.rt v H') (wishOf W wx σ O H r) (loopB (oneOf tg) i (run cl b) m j r'),
    ⟨ys.length, O, r, .refl E, q⟩, ?_⟩
  rintro j m σ2 H2 ⟨O2, r2, a2, g⟩
  have same : σ2[i]? = σ[i]? := by
    obtain ⟨f', d', _, _, e⟩ := a2.lk i .bo _ (slotOf_at hs) rfl
    exact e
  cases m with
  | zero =>
    have g : GoodS _ _ _ (match slotOf r2 i with
      | some (.bo, .lst ys) => if ys.length = j then .nx r2 else .no
      | _ => .no) := g
    split at g
    · rename_i zs ez
      by_cases hj : zs.length = j
      · rw [if_pos hj] at g
        obtain ⟨a', vs', ev', ea', l'⟩ := at_ a2.env ez
        rw [same, ev] at ev'
        cases ev'
        exact .inl ⟨⟨vs', .inl (.inl ea'), by rw [l'.length, hj]; exact Nat.le_refl _⟩, g σ2 H2 O2 a2⟩
      · rw [if_neg hj] at g
        exact g.elim
    · exact g.elim
  | succ m =>
    have g : GoodS _ _ _ (match slotOf r2 i with
      | some (.bo, .lst ys) => (match ys[j]? with
        | some y => (match (oneOf tg).put r2 (.tup [.int (j : Nat), y]) with
          | some r1 => (run cl b r1).then fun r2 => loopB (oneOf tg) i (run cl b) m (j + 1) r2
          | none => .no)
        | none => .no)
      | _ => .no) := g
    split at g
    · rename_i zs ez
      split at g
      · rename_i y ey
        split at g
        · rename_i rt et
          obtain ⟨a', vs', ev', ea', l'⟩ := at_ a2.env ez
          rw [same, ev] at ev'
          cases ev'
          obtain ⟨u, eu, qu⟩ := l'.get ey
          refine .inr ⟨⟨vs', u, .inl (.inl ea'), eu⟩, fun σ' H' => ∃ O' r', SAft W σ O H r σ' O' H' r' ∧ GoodS (fun r' => ∀ σ' H' O', SAft W σ O H r σ' O' H' r' → D.nx σ' H') (fun fr d r' => ∀ v σ' H' O', SAft W σ O H r σ' O' H' r' → RetAt W σ H r O' H' fr d v → D.rt v H') (wishOf W wx σ O H r) (loopB (oneOf tg) i (run cl b) m (j + 1) r'), fun σ' H' z => ⟨m, Nat.lt_succ_self m, z⟩, fun x H' yl => ?_⟩
          obtain ⟨T, z, e, n, e2, hz⟩ := yl
          subst e e2
          have hz := hz vs' (.inl (.inl ea'))
          rw [eu] at hz
          cases hz
          have qx := pair_new a2.env.al n (.int (j : Nat)) qu
          have ag := Grow.aft (H' := upd H2 T (.tup [.int (j : Nat), u])) (.inr ⟨T, _, n, rfl⟩) a2.env
          refine put_ok ag.env qx et fun σ3 s off => ?_
          have s3 := ag.s.trans a2.env s
          have a3 := a2.trans E s3
          exact tS.at s.env ((goods_then.mp g).on E a3) (fun r4 σ4 H4 O4 hp4 a4 => ⟨O4, r4, a3.trans E a4, hp4⟩) fun fr d r4 v σ4 H4 O4 hp4 a4 q => hp4 v σ4 H4 O4 (a3.trans E a4) (q.back a3)
        · exact g.elim
      · exact g.elim
    · exact g.elim
theorem ss_forsE {tg : List Nat} {i : Nat} {b : CS} {te e : Expr} {sb : List Stmt} (hW : W = ⟨X.prog, X.w, X.K⟩) (hp : PassesOwn (model X.prog X.w) X.A X.env X.xe) (hc : X.calm = true) (hi : PI X te e (tI W cl wx (.enum (.var i)))) (hi2 : PI X te e (iEnum X.K (tVs i))) (hg : PG X te (tgT W.K (oneOf tg))) (hb : PSs X sb (tS W cl wx b))
    (hs : ∀ x, foldedSetIterable e X.env x = pure x) : PS X (.For te e sb [] pos) (tS W cl wx (.forsE tg i b)) := by
  have eK : X.K = W.K := by rw [hW]
  rw [eK] at hi2
  have h1 := ps_for (pos := pos) hp hc hi hg hb hs
  have h2 := ps_for (pos := pos) hp hc hi2 hg hb hs
  refine ⟨fun pins s σ H D I h => ?_⟩
  obtain ⟨O, r, E, q⟩ := h
  have q : GoodS _ _ _ (match slotOf r i with
    | some (.bo, .lst ys) => loopB (oneOf tg) i (run cl b) ys.length 0 r
    | _ => (evI cl (.enum (.var i)) r).stm fun xs r => loopF (oneOf tg) (run cl b) xs r) := q
  split at q
  · rename_i ys hs
    exact h2.run pins s σ H D I (loopB_core E hs q)
  · exact h1.run pins s σ H D I (fors_core ⟨O, r, E, q⟩)
end
end Eg
/-! Eg19: comprehensions as expressions; defs by their code. -/
namespace Eg
open PySem PySem.Spec PyProof.Rows L2
section
variable {W : Wd} {cl : Cal} {wx : WX} {X : Cx} {pos : Pos}
theorem pts_cond0 {Y : Cx} : PTs Y [] (tCond W cl wx .nil) := pts_nil
theorem pts_cond {Y : Cx} {c : CE} {e : Expr} (hn : c.isNil = false) (h : PT Y e (tQ W cl wx c)) : PTs Y [e] (tCond W cl wx c) := by
  unfold tCond
  rw [if_neg (by rw [hn]; simp)]
  exact pts_one h
theorem se_comp {vs : List (Str × Nat)} {tgs : List Nat} {it cond c : CE} {elt tg iter : Expr} {ifs : List Expr} {scope : Scope} (hW : W = ⟨X.prog, X.w, X.K⟩) (hc : X.calm = true) (hN : X.N.Nodup) (hi : PI X tg iter (tI W cl wx it)) (ok : BlkOk X.N X.env.scope scope vs) (htg : ∀ i ∈ tgs, i ∈ vs.map (·.2))
    (hg : ∀ (s : Shared) (H : Hp) (C : Addr) (cl : List (Str × Addr)) (fp : List Addr), PG (X.blk s H scope (compEnvC scope cl C X.env) fp) tg (tgT W.K (oneOf tgs))) (ht : ∀ (s : Shared) (H : Hp) (C : Addr) (cl' : List (Str × Addr)) (fp : List Addr), PTs (X.blk s H scope (compEnvC scope cl' C X.env) fp) ifs (tCond W cl wx cond))
    (he : ∀ (s : Shared) (H : Hp) (C : Addr) (cl' : List (Str × Addr)) (fp : List Addr), PE (X.blk s H scope (compEnvC scope cl' C X.env) fp) elt (tV W cl wx c)) (hs : ∀ x, foldedSetIterable iter X.env x = pure x) :
    SE W cl wx X (.comp vs tgs it cond c) (.ListComp elt [⟨tg, iter, ifs, 0⟩] scope pos) :=
  SE.leaf ((pe_lc hc hN hi ok hg ht he hs).wk fun σ H Q q => comp_core htg q) hW rfl (fun _ => rfl) (fun _ => rfl)
theorem ss_setLc {i : Nat} {y : Str} {py spos : Pos} {vs : List (Str × Nat)} {tgs : List Nat} {it cond c : CE} {elt tg iter : Expr} {ifs : List Expr} {scope : Scope} (hc : X.calm = true) (hN : X.N.Nodup) (hy : X.N[i]? = some y) (hyl : X.env.scope.names.lookup y = some .local)
    (hsw : swapsWith (.ListComp elt [⟨tg, iter, ifs, 0⟩] scope pos) (some (.Name y py)) spos.line X.env = pure true) (hi : PI X tg iter (tI W cl wx it)) (ok : BlkOk X.N X.env.scope scope vs) (htg : ∀ i ∈ tgs, i ∈ vs.map (·.2))
    (hg : ∀ (s : Shared) (H : Hp) (C : Addr) (cl : List (Str × Addr)) (fp : List Addr), PG (X.blk s H scope (compEnvC scope cl C X.env) fp) tg (tgT W.K (oneOf tgs))) (ht : ∀ (s : Shared) (H : Hp) (C : Addr) (cl' : List (Str × Addr)) (fp : List Addr), PTs (X.blk s H scope (compEnvC scope cl' C X.env) fp) ifs (tCond W cl wx cond))
    (he : ∀ (s : Shared) (H : Hp) (C : Addr) (cl' : List (Str × Addr)) (fp : List Addr), PE (X.blk s H scope (compEnvC scope cl' C X.env) fp) elt (tV W cl wx c)) (hs : ∀ x, foldedSetIterable iter X.env x = pure x) :
    PS X (.Assign [.Name y py] (.ListComp elt [⟨tg, iter, ifs, 0⟩] scope pos) spos) (tS W cl wx (.set i (.comp vs tgs it cond c))) :=
  (ps_setLc hc hN hy hyl hsw hi ok hg ht he hs).wk fun D σ H q => comp_core htg (asg_core q)
end
/-! ### defs -/
section
variable {W : Wd} {cl : Cal} {f : Fn} {O : Own} {H : Hp} {vs : List V} {ds : List (Bool × D)} {N : List Str}
theorem startR_get {i : Nat} {fl : Fl} {d : D} (h : (startR f ds)[i]? = some (some (fl, d))) : ∃ b, ds[i]? = some (b, d) ∧ fl = if b then .bo else .sh := by
  unfold startR at h
  by_cases hi : i < ds.length
  · rw [List.getElem?_append_left (by simpa using hi), List.getElem?_map] at h
    obtain ⟨x, e, e2⟩ := Option.map_eq_some_iff.mp h
    obtain ⟨b, d'⟩ := x
    cases e2
    exact ⟨b, e, rfl⟩
  · rw [List.getElem?_append_right (by simpa using hi)] at h
    obtain ⟨_, e⟩ := List.getElem?_eq_some_iff.mp h
    simp at e
theorem start_get {i : Nat} {v : V} (hi : i < vs.length) (h : vs[i]? = some v) : (L2.start N vs)[i]? = some (some v) := by
  unfold L2.start
  rw [List.getElem?_append_left (by simpa using hi), List.getElem?_map, h]
  rfl
theorem start_inv {i : Nat} {v : V} (h : (L2.start N vs)[i]? = some (some v)) : vs[i]? = some v := by
  unfold L2.start at h
  by_cases hi : i < vs.length
  · rw [List.getElem?_append_left (by simpa using hi), List.getElem?_map] at h
    obtain ⟨x, e, e2⟩ := Option.map_eq_some_iff.mp h
    cases e2
    exact e
  · rw [List.getElem?_append_right (by simpa using hi)] at h
    obtain ⟨_, e⟩ := List.getElem?_eq_some_iff.mp h
    simp at e
theorem env_start (A : ArgsOk W O H vs ds) (hN : N.length = f.ns) (hl : ds.length ≤ f.ns) : EnvOk W O H (L2.start N vs) (startR f ds) where
  len := by
    have := A.len
    unfold L2.start startR
    simp
    omega
  sl := fun i fl d h => by
    obtain ⟨b, e, rfl⟩ := startR_get h
    have hi : i < vs.length := by
      rw [A.len]
      exact (List.getElem?_eq_some_iff.mp e).1
    refine ⟨vs[i], start_get hi (List.getElem?_eq_getElem hi), ?_⟩
    have q := A.at_ i vs[i] (b, d) (List.getElem?_eq_getElem hi) e
    cases b <;> exact q
  dj := fun i j fl g d e a h1 h2 h3 h4 h5 h6 => by
    obtain ⟨b, e1, rfl⟩ := startR_get h1
    obtain ⟨b', e2, rfl⟩ := startR_get h4
    cases b with
    | false => cases h2
    | true =>
      cases b' with
      | false => cases h5
      | true => exact A.dj i j a d e e1 (start_inv h3) e2 (start_inv h6)
  al := A.al
theorem owned_start {a : Addr} (h : owned (L2.start N vs) (startR f ds) a) : lentA vs ds a := by
  obtain ⟨i, fl, d, h1, h2, h3⟩ := h
  obtain ⟨b, e1, rfl⟩ := startR_get h1
  cases b with
  | false => cases h2
  | true => exact ⟨i, d, e1, start_inv h3⟩
theorem no_ows {a : Addr} (h : owsA (L2.start N vs) (startR f ds) a) : False := by
  obtain ⟨i, d, h1, h2⟩ := h
  obtain ⟨b, _, e⟩ := startR_get h1
  cases b <;> cases e
theorem outsOf_get : ∀ {n i : Nat} {r : Rho} {fl : Fl} {d : D}, i < n → r[i]? = some (some (fl, d)) → (outsOf n r)[i]? = some (fl.own, d)
  | 0, i, r, fl, d, h, _ => absurd h (Nat.not_lt_zero _)
  | n + 1, i, [], fl, d, h, e => by simp at e
  | n + 1, 0, x :: r, fl, d, h, e => by
    simp at e
    subst e
    rfl
  | n + 1, i + 1, x :: r, fl, d, h, e => by
    have := outsOf_get (n := n) (i := i) (r := r) (by omega) (by simpa using e)
    simpa [outsOf] using this
theorem outs_ok {σ' : L2.St} {O' : Own} {H' : Hp} {r' : Rho} (A : ArgsOk W O H vs ds) (hl : ds.length = f.np) (a : SAft W (L2.start N vs) O H (startR f ds) σ' O' H' r') : OutsOk W O' H' vs ds (outsOf f.np r') := fun i d v h1 h2 => by
  have hi : i < ds.length := (List.getElem?_eq_some_iff.mp h1).1
  have e0 : (startR f ds)[i]? = some (some (.bo, d)) := by
    unfold startR
    rw [List.getElem?_append_left (by simpa using hi), List.getElem?_map, h1]
    rfl
  obtain ⟨fl, d', e1, l1, s1⟩ := a.lk i .bo d e0 rfl
  rw [start_get (by rw [A.len]; exact hi) h2] at s1
  obtain ⟨v', e2, q⟩ := a.env.sl i fl d' e1
  rw [s1] at e2
  cases e2
  exact ⟨(fl.own, d'), outsOf_get (by rw [← hl]; exact hi) e1, q⟩
theorem Stp.wider {F F' O O' : Own} {H H' : Hp} (s : Stp F O H O' H') (h : ∀ a, F a → F' a) : Stp F' O H O' H' := ⟨fun a o e n => s.keep a o e fun z => n (h a z), fun a e n => s.kown a e fun z => n (h a z), s.news, s.there⟩
/-- the body's outcome, by the def's promise -/
theorem body_ok {wx : WX} {fi : Nat} {tab : Nat → Option Fn} {n : Nat} {Q : VK} {E : XK} (ht : tab fi = some f) (hk : f.kls = none) (hN : N.length = f.ns) (hnp : f.np ≤ f.ns) (h : spF W (callN tab (n + 1)) fi vs H Q E) :
    tS W (callN tab n) wx f.body { nx := fun _ H' => Q .non H', rt := Q } (L2.start N vs) H := by
  obtain ⟨O, ds, A, h⟩ := h
  have hc : callN tab (n + 1) fi ds = callFn (callN tab n) f ds := by
    show (match tab fi with
      | some fn => (match fn.kls with
        | none => callFn (callN tab n) fn ds
        | some (C, g) => made (callN tab n g ((true, .ins C []) :: ds)))
      | none => COut.no) = _
    rw [ht]
    simp only [hk]
  rw [hc] at h
  unfold callFn at h
  by_cases hl : ds.length = f.np
  · rw [if_pos hl] at h
    have Ev := env_start (f := f) (N := N) A hN (by omega)
    refine ⟨O, startR f ds, Ev, ?_⟩
    cases hr : run (callN tab n) f.body (startR f ds) with
    | nx r' =>
      rw [hr] at h
      intro σ' H' O' a
      exact h .non H' O' (a.stp.wider fun a z => owned_start z) a.env.al (outs_ok A hl a) .non
    | rt fr d r' =>
      rw [hr] at h
      intro v σ' H' O' a q
      refine h v H' O' (a.stp.wider fun a z => owned_start z) a.env.al (outs_ok A hl a) ?_
      cases fr with
      | false => exact q
      | true =>
        have old : ∀ d', (∃ p, v = .ref p ∧ O' p ∧ OwnAt W O' H' p d' ∧ (H p = none ∨ owsA (L2.start N vs) (startR f ds) p)) → ResAt W H O' H' true d' v := fun d' q => by
          obtain ⟨p, e, o, q, z⟩ := q
          refine ⟨p, e, o, ?_, q⟩
          rcases z with z | z
          · exact z
          · exact (no_ows z).elim
        cases d with
        | tp ps => exact q
        | _ => exact old _ q
    | ex e r' =>
      rw [hr] at h
      exact h.elim
    | no =>
      rw [hr] at h
      exact h.elim
  · rw [if_neg hl] at h
    exact h.elim
theorem spF_len {fi : Nat} {tab : Nat → Option Fn} {n : Nat} {Q : VK} {E : XK} (ht : tab fi = some f) (hk : f.kls = none) (h : spF W (callN tab n) fi vs H Q E) : vs.length = f.np := by
  obtain ⟨O, ds, A, h⟩ := h
  cases n with
  | zero => exact h.elim
  | succ n =>
    have hc : callN tab (n + 1) fi ds = callFn (callN tab n) f ds := by
      show (match tab fi with
        | some fn => (match fn.kls with
          | none => callFn (callN tab n) fn ds
          | some (C, g) => made (callN tab n g ((true, .ins C []) :: ds)))
        | none => COut.no) = _
      rw [ht]
      simp only [hk]
    rw [hc] at h
    unfold callFn at h
    by_cases hl : ds.length = f.np
    · rw [A.len, hl]
    · rw [if_neg hl] at h
      exact h.elim
end
theorem room_deep1 {k : Nat} {A : Around} (r : Room (k + 1) A) (env : PySem.Env) : Room k (A.deeper env).in1 :=
  ⟨r.hd, by have := r.dp; show A.depth + 1 + 3 * k + 5 < _; omega, by have := r.un; show A.units + 3 + 1 + 16 * k + 200 < _; omega⟩
/-- a def, from its body's walk -/
theorem fn_ofG {P : Program} {w : World} {K : PySem.W.Frag} {mg : Str → Option Value} {base : Heap} {k : Nat} {f : Addr} {name qual : Str} {params : Arguments} {body : List Stmt} {scope : Scope} {dV kV doc pm cdv ct oc : Value} {an od : Option Addr}
    {osl : Array (Option Value)} {N ps : List Str} {sp : Sp} (lk : K.lookup f = some ⟨oc, od, .func (PySem.W.fnOf name qual params body scope dV kV doc pm an cdv ct), osl⟩) (hcd : PySem.W.codeIn K cdv qual = true) (S : FnScope N ps scope)
    (len : ∀ vs H Q E, sp vs H Q E → vs.length = ps.length)
    (hbody : ∀ (A : Around) (outer : List PySem.Env) (s : Shared) (H : Hp) (vs : List V) (Q : VK) (E : XK), Room k (A.deeper (envOfC qual scope s.heap.objs.size f cdv)).in1 → (A.deeper (envOfC qual scope s.heap.objs.size f cdv)).guards = some [] → sp vs H Q E →
      ∃ t, PSs (cxOf CX0 P w K mg base N qual scope f cdv A outer s H E) body t ∧ t { nx := fun _ H' => Q .non H', rt := Q } (L2.start N vs) H) :
    FnG P w K mg base (k + 1) f (PySem.W.fnOf name qual params body scope dV kV doc pm an cdv ct) ps sp := by
  refine ⟨len, fun A outer s H args us vs Q E hr hgd e0 hb r hsp => ?_⟩
  have hl := len _ _ _ _ hsp
  have KX : K.In s.heap := e0.mod.kin.keeps fun b o e => (e0.bs b o e).1
  have lim : s.heap.NoLimit := e0.mod.nolimit.keeps fun b o e => (e0.bs b o e).1
  have hkind : ∀ y ∈ ps.zip us, scope.names.lookup y.1 = some .local ∨ (scope.names.lookup y.1 = some .cell ∧ ((cellsFrom (s.heap.objs.size + 1) scope.names []).lookup y.1).isSome = true) := fun ⟨n, v⟩ hy => by
    rcases S.par n (List.of_mem_zip hy).1 with q | q
    · exact .inl q
    · exact .inr ⟨q, PySem.W.cellsFrom_some _ _ _ (.inl q)⟩
  refine codeAny_call_function hr.depth (KX _ _ lk) rfl S.co S.gen rfl (PySem.W.codeRec_of KX hcd) (hb _ _ _ _ ?_)
  refine wpAny_newFunctionEnv_cells S.kind hkind fun env he s1 x => ?_
  subst he
  refine ⟨lim.keeps x.toInCall.keep, codeAny_func ?_⟩
  obtain ⟨t, ht, hq⟩ := hbody A outer s H vs Q E (room_deep1 hr _) hgd hsp
  have I : Inv (cxOf CX0 P w K mg base N qual scope f cdv A outer s H E) [] (L2.start N vs) H s1 := inv_start S hr.hd e0 hl r x
  refine wpAny_mono (ht.run [] s1 (L2.start N vs) H _ I hq) (fun fl s' hs => ?_) fun e s' hs => hs
  have fin : ∀ {σ' : L2.St} {H' : Hp} {v : V} {u : Value}, Inv (cxOf CX0 P w K mg base N qual scope f cdv A outer s H E) [] σ' H' s' → RelV v u → Q v H' → L2.CE outer P w H s Q u s' :=
    fun {σ' H' v u} J rv q => ⟨v, H', J.os, J.bare, J.base, J.hok, rv, q⟩
  cases fl with
  | ret u =>
    obtain ⟨v, σ', H', J, rv, q⟩ := hs
    exact fin J rv q
  | next =>
    obtain ⟨σ', H', J, q⟩ := hs
    exact fin (v := V.non) (u := Value.none) J rfl q
  | brk =>
    obtain ⟨_, _, _, q⟩ := hs
    exact False.elim q
  | cont =>
    obtain ⟨_, _, _, q⟩ := hs
    exact False.elim q
end Eg
/-! Eg20: from the tree to code. -/
namespace Eg
open PySem PySem.Spec PyProof.Rows L2
/-- what a module has: constants, defs, built-ins that it leaves as they are -/
structure Gs where
  cs : List (Str × D)
  fs : List (Str × Nat)
  bs : List Str
  /-- classes: the number in the table, the place in the module -/
  ks : List (Str × Nat × Nat)
  /-- attributes, methods: by class -/
  fl : List (Str × List Nat)
  ms : List (Str × List (Nat × Nat))
  /-- defs that hand back tuples with new items -/
  ts : List Str
  /-- names (with [] behind them: items of names) that hold instances whose special methods are meant -/
  dx : List Str := []
  /-- classes with special methods -/
  du : List Nat := []
  /-- whether enumerate of a name leaves a lent list as it is -/
  be : Bool := false
/-- a block: slots, names as written -/
structure Cc where
  N : List Str
  sc : List (Str × NameKind)
def need (b : Bool) : Option Unit := if b then some () else none
theorem need_ok {b : Bool} {u : Unit} (h : need b = some u) : b = true := by
  cases b with
  | true => rfl
  | false => cases h
def slotOfN (N : List Str) (x : Str) : Option Nat := if N[N.idxOf x]? = some x then some (N.idxOf x) else none
theorem slotOfN_ok {N : List Str} {x : Str} {i : Nat} (h : slotOfN N x = some i) : N[i]? = some x := by
  unfold slotOfN at h
  split at h
  · rename_i e
    cases h
    exact e
  · cases h
def isVis : Option NameKind → Bool
  | some .local => true
  | some .cell => true
  | some .free => true
  | _ => false
def isLoc : Option NameKind → Bool
  | some .local => true
  | some .cell => true
  | _ => false
def isGlo : Option NameKind → Bool
  | some .globalImplicit => true
  | _ => false
def Cc.vis (c : Cc) (x : Str) : Option Nat := do
  need (isVis (c.sc.lookup x) && !(x == ("__debug__" : Str)) && !(x == ("__classdict__" : Str)))
  slotOfN c.N x
def Cc.loc (c : Cc) (x : Str) : Option Nat := do
  need (isLoc (c.sc.lookup x))
  slotOfN c.N x
def Cc.glo (c : Cc) (x : Str) : Bool := isGlo (c.sc.lookup x) && !(x == ("__debug__" : Str))
def cName (g : Gs) (c : Cc) (x : Str) : Option CE := match c.vis x with
  | some i => some (.var i)
  | none => do
    need (c.glo x)
    let d ← g.cs.lookup x
    some (.con x d)
def bopOf : Operator → Option BOp
  | .Add => some .add
  | .Sub => some .sub
  | .Mult => some .mul
  | .FloorDiv => some .fdiv
  | .Mod => some .mod
  | .Pow => some .pow
  | _ => none
def copOf : CmpOp → Option COp
  | .Eq => some .eq
  | .NotEq => some .ne
  | .Lt => some .lt
  | .LtE => some .le
  | .Gt => some .gt
  | .GtE => some .ge
  | .In => some .isIn
  | .NotIn => some .notIn
  | _ => none
def isStar : Expr → Bool
  | .Starred .. => true
  | _ => false
def isSet : Expr → Bool
  | .Set .. => true
  | _ => false
def isSlice : Expr → Bool
  | .Slice .. => true
  | _ => false
def isTup : Expr → Bool
  | .Tuple .. => true
  | _ => false
def isComp : Expr → Bool
  | .ListComp .. => true
  | .SetComp .. => true
  | .DictComp .. => true
  | _ => false
def isNone : Expr → Bool
  | .Constant .none _ _ => true
  | _ => false
section
variable (f : Expr → Option CE)
def cL : List Expr → Option CE
  | [] => some .nil
  | e :: es => do
    need (!isStar e)
    let a ← f e
    let t ← cL es
    some (.cons a t)
def cAnd : List Expr → Option CE
  | [] => none
  | [e] => f e
  | e :: es => do
    let a ← f e
    let t ← cAnd es
    some (.and a t)
def cOr : List Expr → Option CE
  | [] => none
  | [e] => f e
  | e :: es => do
    let a ← f e
    let t ← cOr es
    some (.or a t)
def cPairs : List (Option Expr) → List Expr → Option CE
  | [], [] => some .nil
  | some k :: ks, v :: vs => do
    let a ← f k
    let b ← f v
    let t ← cPairs ks vs
    some (.cons a (.cons b t))
  | _, _ => none
def cO : Option Expr → Option CE
  | none => some .nil
  | some e => do
    let a ← f e
    some (.cons a .nil)
end
def bltOf (x : Str) (n : Nat) : Option Blt :=
  if x = "len" ∧ n = 1 then some .len else
  if x = "int" ∧ n = 1 then some .int else
  if x = "min" ∧ n = 2 then some .min else
  if x = "repr" ∧ n = 1 then some .repr else
  if x = "all" ∧ n = 1 then some .all else
  if x = "any" ∧ n = 1 then some .any else
  if x = "tuple" ∧ n = 1 then some .tuple else
  if x = "list" ∧ n = 1 then some .list else
  if x = "dict" ∧ n = 1 then some .dict else
  if x = "str" ∧ n = 1 then some .str else none
def tyOf (x : Str) : Option Ty :=
  if x = "str" then some .str else if x = "int" then some .int else if x = "bool" then some .bool else
  if x = "tuple" then some .tuple else if x = "list" then some .list else if x = "dict" then some .dict else none
/-- built-in classes in a tuple -/
def tysOf (g : Gs) (c : Cc) : List Expr → Option (List Ty)
  | [] => some []
  | .Name x _ :: es => do
    need (c.glo x && g.bs.contains x)
    let t ← tyOf x
    let ts ← tysOf g c es
    some (t :: ts)
  | _ :: _ => none
def muOf (x : Str) : Option Mu := if x = "append" then some .append else if x = "extend" then some .extend else if x = "update" then some .update else none
def cNames (c : Cc) : List Expr → Option (List Nat)
  | [] => some []
  | .Name x _ :: es => do
    let i ← c.loc x
    let is ← cNames c es
    some (i :: is)
  | _ :: _ => none
def cTg (c : Cc) : Expr → Option (List Nat)
  | .Name x _ => do
    let i ← c.loc x
    some [i]
  | .Tuple es _ _ => do
    let is ← cNames c es
    need (Nat.ble 2 is.length)
    some is
  | _ => none
/-- what is walked by a call -/
def cIc (g : Gs) (c : Cc) (f : Expr → Option CE) (tg : Expr) (x : Str) (args : List Expr) : Option CE := do
  need (c.glo x && g.bs.contains x)
  match args with
  | [e] => do
    need (!isStar e)
    let a ← f e
    if x = "range" then some (.rng1 a) else do
    need (decide (x = "enumerate") && isTup tg)
    some (.enum a)
  | [e, e2] => do
    need (decide (x = "zip") && isTup tg && !isStar e && !isStar e2)
    let a ← f e
    let b ← f e2
    some (.zip a b)
  | _ => none
def cI (g : Gs) (c : Cc) (f : Expr → Option CE) (tg it : Expr) : Option CE := do
  need (!isSet it)
  match it with
  | .Call (.Name x _) args [] _ => if x = "range" ∨ x = "enumerate" ∨ x = "zip" then cIc g c f tg x args else do
    let a ← f it
    some (.seq a)
  | it => do
    let a ← f it
    some (.seq a)
def cOwn (N : List Str) (names : List (Str × NameKind)) : List (Str × Nat) := names.filterMap fun y => if isLoc (some y.2) then (slotOfN N y.1).map fun i => (y.1, i) else none
def blkOk (c : Cc) (scope : Scope) : Bool :=
  decide (scope.kind = .function) && scope.names.all (fun y => decide (scope.names.lookup y.1 = some y.2)) &&
    scope.names.all fun y => !decide (y.2 = .free) || decide (c.sc.lookup y.1 = some .cell) || decide (c.sc.lookup y.1 = some .free)
/-- a clause's test -/
def cIf (f : Expr → Option CE) : List Expr → Option CE
  | [] => some .nil
  | [e] => do
    let a ← f e
    need (!a.isNil)
    some a
  | _ => none
/-- a comprehension -/
def cComp (g : Gs) (c : Cc) (f f' : Expr → Option CE) (elt : Expr) (gens : List Comprehension) (scope : Scope) : Option CE := match gens with
  | [⟨tg, it, ifs, a⟩] => do
    need (decide (a = 0) && blkOk c scope)
    let i ← cI g c f tg it
    let is ← cTg { c with sc := scope.names } tg
    need (is.all fun k => ((cOwn c.N scope.names).map (·.2)).contains k)
    let cond ← cIf f' ifs
    let e ← f' elt
    some (.comp (cOwn c.N scope.names) is i cond e)
  | _ => none
/-- isinstance -/
def cIsi (g : Gs) (c : Cc) (a : CE) : Expr → Option CE
  | .Name t _ => do
    need (c.glo t)
    match g.ks.lookup t with
    | some (_, C) => some (.isk (g.ks.map (·.2.2)) a C)
    | none => do
      let ty ← tyOf t
      need (g.bs.contains t)
      some (.isi a ty)
  | .Tuple es _ _ => do
    let ts ← tysOf g c es
    need (Nat.ble ts.length 10)
    some (.isis a ts)
  | _ => none
/-- a def, a class -/
def cOwnF (g : Gs) (x : Str) : Option Nat := match g.fs.lookup x with
  | some i => some i
  | none => (g.ks.lookup x).map (·.1)
def cMut (c : Cc) (m : Str) (b : Expr) : List CE → Option CE
  | [] => (match b with
    | .Name x _ => do
      let i ← c.vis x
      if m = "pop" then some (.mut .pop i .nil) else do
      need (decide (m = "clear"))
      some (.mut .clear i .nil)
    | _ => none)
  | [a] => (match b with
    | .Name x _ => do
      let i ← c.vis x
      if m = "pop" then some (.mut .popAt i (.cons a .nil)) else do
      let k ← muOf m
      some (.mut k i (.cons a .nil))
    | _ => none)
  | _ => none
def isBm (m : Str) : Bool := decide (m = "append") || decide (m = "extend") || decide (m = "update") || decide (m = "pop") || decide (m = "clear")
def cCall (g : Gs) (c : Cc) (f : Expr → Option CE) (fn : Expr) (args : List Expr) (pos : Pos) : Option CE := match fn with
  | .Name x _ => (match args with
    | [] => do
      need (c.glo x)
      let i ← cOwnF g x
      some (.call i x .nil)
    | e :: es => do
      need (c.glo x)
      if x = "isinstance" then (match es with
        | [t] => do
          need (g.bs.contains x && !isStar e)
          let a ← f e
          cIsi g c a t
        | _ => none)
      else do
        let t ← cL f (e :: es)
        match cOwnF g x with
        | some i => some (.call i x t)
        | none => do
          let b ← bltOf x (es.length + 1)
          need (g.bs.contains x)
          some (.blt b t))
  | .Attribute b m apos => if isBm m then (match args with
      | [] => do
        need (apos.endLine == pos.line)
        cMut c m b []
      | [e] => do
        need (!isStar e && (apos.endLine == pos.line))
        let a ← f e
        cMut c m b [a]
      | _ => none)
    else if m = "index" then (match args with
      | [e] => do
        need (!isStar e && (apos.endLine == pos.line) && plainBase b)
        let a ← f e
        let r ← f b
        some (.mth .index r (.cons a .nil))
      | _ => none)
    else if m = "get" then (match args with
      | [e, d] => do
        need (!isStar e && !isStar d && (apos.endLine == pos.line) && plainBase b)
        let a ← f e
        let z ← f d
        let r ← f b
        some (.get2 r a z)
      | _ => none)
    else if m = "join" then (match args with
      | [e] => do
        need (!isStar e && (apos.endLine == pos.line) && plainBase b)
        let a ← f e
        let r ← f b
        some (.txt .join r a)
      | _ => none)
    else if m = "split" then (match args with
      | [e] => do
        need (!isStar e && (apos.endLine == pos.line) && plainBase b)
        let a ← f e
        let r ← f b
        some (.txt .split r a)
      | _ => none)
    else do
      let ms ← g.ms.lookup m
      need (plainBase b && Nat.ble args.length 20 && (apos.endLine == pos.line))
      let r ← f b
      let t ← cL f args
      some (.meth ms m r t)
  | _ => none
def cIs (x : CE) : Expr → Option CE
  | .Constant .none _ _ => some (.isN x)
  | .Constant (.bool k) _ _ => some (.isB k x)
  | _ => none
def cNt (x : CE) : Expr → Option CE
  | .Constant .none _ _ => some (.notN x)
  | .Constant (.bool k) _ _ => some (.ntB k x)
  | _ => none
def isM1 : Expr → Bool
  | .UnaryOp .USub (.Constant (.int 1) _ _) _ => true
  | _ => false
/-- a[..] -/
def cSub (f : Expr → Option CE) (a b : Expr) : Option CE := match b with
  | .Slice lo hi none _ => do
    let x ← f a
    let l ← cO f lo
    let h ← cO f hi
    some (.slc x l h)
  | .Slice (some l) none (some (.Constant (.int 2) _ _)) _ => do
    let x ← f a
    let t ← cO f (some l)
    some (.slc2 x t)
  | .Slice lo hi (some s) _ => do
    need (lo.isNone && hi.isNone && isM1 s)
    let x ← f a
    some (.rev x)
  | b => do
    let x ← f a
    let y ← f b
    some (.idx x y)
theorem mem_of_look {β : Type} {a : Nat} {o : β} : ∀ {l : List (Nat × β)}, l.lookup a = some o → (a, o) ∈ l
  | [], h => by cases h
  | (b, u) :: r, h => by
    rw [List.lookup_cons] at h
    cases e : a == b with
    | true =>
      rw [e] at h
      have e2 : a = b := eq_of_beq e
      cases h
      rw [e2]
      exact List.mem_cons_self
    | false =>
      rw [e] at h
      exact List.mem_cons_of_mem _ (mem_of_look h)
/-- whether an instance's special method is meant -/
def dunAt (g : Gs) : Expr → Bool
  | .Name x _ => g.dx.contains x
  | .Subscript (.Name x _) (.Constant _ _ _) _ => g.dx.contains (x ++ "[]")
  | _ => false
def dunMs (g : Gs) (m : Str) : Option (List (Nat × Nat)) := do
  let ms ← g.ms.lookup m
  need (ms.all fun p => g.du.contains p.1)
  some ms
def cLen (g : Gs) (c : Cc) (f : Expr → Option CE) (fn : Expr) (args : List Expr) : Option CE := match fn, args with
  | .Name x _, [e] => do
    need (dunAt g e && !isStar e && decide (x = "len") && c.glo x && g.bs.contains x)
    let ms ← dunMs g "__len__"
    let a ← f e
    some (.dun .len [] ms (.cons a .nil))
  | _, _ => none
def cItm (g : Gs) (f : Expr → Option CE) (a b : Expr) : Option CE := do
  need (dunAt g a && !isSlice b)
  let ms ← dunMs g "__getitem__"
  let x ← f a
  let y ← f b
  some (.dun .item [] ms (.cons x (.cons y .nil)))
def cDeq (g : Gs) (f : Expr → Option CE) (a : Expr) (ops : List CmpOp) (bs : List Expr) : Option CE := match ops, bs with
  | [.Eq], [b] => do
    need (dunAt g a && !isSet b)
    let ms ← dunMs g "__eq__"
    let x ← f a
    let y ← f b
    some (.dun .eq (g.ks.map (·.2.2)) ms (.cons x (.cons y .nil)))
  | [.NotEq], [b] => do
    need (dunAt g a && !isSet b)
    let ms ← dunMs g "__eq__"
    let x ← f a
    let y ← f b
    some (.dun .ne (g.ks.map (·.2.2)) ms (.cons x (.cons y .nil)))
  | _, _ => none
def orElse (a b : Option CE) : Option CE := match a with
  | some x => some x
  | none => b
theorem orElse_ok {a b : Option CE} {x : CE} (h : orElse a b = some x) : a = some x ∨ b = some x := by
  cases a with
  | none => exact .inr h
  | some y => exact .inl h
def cE (g : Gs) : Nat → Cc → Expr → Option CE
  | 0, _, _ => none
  | n + 1, c, e => match e with
    | .Name x _ => cName g c x
    | .Constant k _ _ => (litOf k).map .lit
    | .Tuple es _ _ => (cL (cE g n c) es).map .tup
    | .List es _ => (cL (cE g n c) es).map .lst
    | .Dict ks vs _ => do
      need (Nat.blt 0 ks.length && Nat.ble ks.length 15)
      let t ← cPairs (cE g n c) ks vs
      some (.dct t)
    | .BinOp a op b _ => do
      let o ← bopOf op
      let x ← cE g n c a
      let y ← cE g n c b
      some (.bin o x y)
    | .UnaryOp op a _ => do
      let x ← cE g n c a
      match op with
      | .USub => some (.neg x)
      | .Not => some (.not x)
      | _ => none
    | .Compare a ops bs _ => orElse (cDeq g (cE g n c) a ops bs) do
      let x ← cE g n c a
      match ops, bs with
      | [op], [b] => (match op with
        | .Is => cIs x b
        | .IsNot => cNt x b
        | op => do
          need (!isSet b)
          let o ← copOf op
          let y ← cE g n c b
          some (.cmp o x y))
      | [op, op'], [b, d] => do
        need (!isSet d)
        let o ← copOf op
        let o' ← copOf op'
        let y ← cE g n c b
        let z ← cE g n c d
        some (.chn o o' x y z)
      | _, _ => none
    | .BoolOp .And es _ => do
      need (Nat.ble 2 es.length)
      cAnd (cE g n c) es
    | .BoolOp .Or es _ => do
      need (Nat.ble 2 es.length)
      cOr (cE g n c) es
    | .IfExp t a b _ => do
      let x ← cE g n c t
      let y ← cE g n c a
      let z ← cE g n c b
      some (.ife x y z)
    | .Subscript a b _ => orElse (cItm g (cE g n c) a b) (cSub (cE g n c) a b)
    | .Attribute a x _ => do
      let Cs ← g.fl.lookup x
      need (plainBase a)
      let r ← cE g n c a
      some (.fld Cs x r)
    | .Call fn args [] pos => orElse (cLen g c (cE g n c) fn args) (cCall g c (cE g n c) fn args pos)
    | .ListComp elt gens scope _ => cComp g c (cE g n c) (cE g n { c with sc := scope.names }) elt gens scope
    | _ => none
/-! ### statements -/
def lineOf : Expr → Nat := fun e => e.pos.line
/-- whether x = [..] is stored within the block's end -/
def swapsC (c : Cc) (x : Str) (p : Pos) (value : Expr) : Bool := match value with
  | .ListComp _ _ s _ => decide (c.sc.lookup x = some .local) && (p.line == value.pos.line) && !(s.names.any fun (n, k) => n == x && (k == .local || k == .cell))
  | _ => false
/-- a call of a def that hands back a tuple with new items -/
def cTs (g : Gs) (c : Cc) (f : Expr → Option CE) : Expr → Option (Nat × Str × CE)
  | .Call (.Name x _) (e :: es) [] _ => do
    need (c.glo x && g.ts.contains x)
    let i ← g.fs.lookup x
    let t ← cL f (e :: es)
    some (i, x, t)
  | _ => none
def isRev : Expr → Bool
  | .Subscript _ (.Slice _ _ (some _) _) _ => true
  | _ => false
/-- a name that is no plain local one -/
def notLoc (c : Cc) : Expr → Bool
  | .Name x _ => !decide (c.sc.lookup x = some .local)
  | _ => false
def cAsg (g : Gs) (c : Cc) (f : Expr → Option CE) (tg value : Expr) : Option CS := match tg with
  | .Name x p => do
    let i ← c.loc x
    need (!isComp value || (match value with
      | .ListComp .. => true
      | _ => false))
    let a ← f value
    some (.set i a)
  | .Attribute (.Name x _) m _ => do
    let i ← c.vis x
    let Cs ← g.fl.lookup m
    need (!isComp value)
    let a ← f value
    some (.fput Cs i m a)
  | .Subscript (.Name x _) k _ => do
    let i ← c.vis x
    let a ← f value
    let b ← f k
    some (.put i b a)
  | .Tuple [.Subscript (.Name x _) k _, .Subscript (.Name y _) l _] _ _ => do
    let i ← c.vis x
    let j ← c.vis y
    let a ← f value
    let b ← f k
    let d ← f l
    some (.put2 i b j d a)
  | .Tuple es _ _ => (match value with
    | .Tuple vs _ _ => if es.any (notLoc c) then do
        let is ← cNames c es
        let t ← cL f vs
        some (.unpT is t)
      else (match es, vs with
      | [.Name x px, .Name y py], [a, b] => do
        need (decide (c.sc.lookup x = some .local) && decide (c.sc.lookup y = some .local) && (py.line == px.line) && !decide (x = y) && !isStar a && !isStar b && !(foldedForSure 8 a && foldedForSure 8 b) && !(constantsAlone 8 a && constantsAlone 8 b))
        let i ← c.loc x
        let j ← c.loc y
        let u ← f a
        let v ← f b
        need (!decide (i = j))
        some (.par i j u v)
      | [.Name x px, .Name y py, .Name z pz], [a, b, d] => do
        need (decide (c.sc.lookup x = some .local) && decide (c.sc.lookup y = some .local) && decide (c.sc.lookup z = some .local) && (py.line == px.line) && (pz.line == px.line) && !decide (x = y) && !decide (x = z) && !decide (y = z) && !isStar a && !isStar b && !isStar d &&
          !(foldedForSure 8 a && foldedForSure 8 b && foldedForSure 8 d) && !(constantsAlone 8 a && constantsAlone 8 b && constantsAlone 8 d))
        let i ← c.loc x
        let j ← c.loc y
        let l ← c.loc z
        let u ← f a
        let v ← f b
        let w ← f d
        need (!decide (i = j) && !decide (i = l) && !decide (j = l))
        some (.par3 i j l u v w)
      | _, _ => none)
    | value => do
      let is ← cNames c es
      match cTs g c f value with
      | some (i, x, t) => some (.unpC is i x t)
      | none => do
        let a ← f value
        some (.unp is a))
  | _ => none
def cSs (s : Stmt → Option CS) : List Stmt → Option CS
  | [] => some .nil
  | a :: r => do
    let x ← s a
    let t ← cSs s r
    some (.cons x t)
/-- enumerate of a name -/
def enumVar : CE → Option Nat
  | .enum a => a.late
  | _ => none
def forOf (g : Gs) (is : List Nat) (i : CE) (y : CS) : CS := match g.be, enumVar i with
  | true, some k => .forsE is k y
  | _, _ => .fors is i y
def cS (g : Gs) (k : Nat) : Nat → Cc → Stmt → Option CS
  | 0, _, _ => none
  | n + 1, c, s => match s with
    | .Pass _ => some .pass
    | .Expr e _ => do
      need (!isComp e)
      let a ← cE g k c e
      some (.expr a)
    | .Return none _ => some .retN
    | .Return (some e) _ => (match e with
      | .Tuple es _ _ => if es.any isRev then do
          let t ← cL (cE g k c) es
          some (.retT t)
        else do
          let a ← cE g k c e
          some (.ret a)
      | e => do
        let a ← cE g k c e
        some (.ret a))
    | .AugAssign (.Name x _) .Add e _ => do
      let i ← c.loc x
      let a ← cE g k c e
      some (.aug i a)
    | .Raise .. => some .never
    | .Assign [tg] value _ => cAsg g c (cE g k c) tg value
    | .If t a b _ => do
      let x ← cE g k c t
      let y ← cSs (cS g k n c) a
      let z ← cSs (cS g k n c) b
      some (.ifs x y z)
    | .While t a [] _ => do
      let x ← cE g k c t
      let y ← cSs (cS g k n c) a
      some (.whl x y)
    | .For tg it a [] _ => do
      let i ← cI g c (cE g k c) tg it
      let is ← cTg c tg
      let y ← cSs (cS g k n c) a
      some (forOf g is i y)
    | _ => none
end Eg
/-! Eg21: the tree is worth its code (expressions). -/
namespace Eg
open PySem PySem.Spec PyProof.Rows L2
/-- a class at work: its __init__ -/
def MkG (W : Wd) (mg : Str → Option Value) (base : Heap) (n : Nat) (cl : Cal) (c C : Nat) : Prop := KlsOk W.K (ca W C) ∧ ∃ cl' gI k f fd ps, n = k + 1 ∧ (∀ ds, cl c ds = made (cl' gI ((true, .ins C []) :: ds))) ∧ Mk W.K (ca W C) f ∧ FnG W.P W.w W.K mg base k f fd ps (spF W cl' gI) ∧ Binds W.K fd ps []
structure Glo (W : Wd) (mg : Str → Option Value) (base : Heap) (n : Nat) (cl : Cal) (g : Gs) : Prop where
  con : ∀ x d, g.cs.lookup x = some d → ∃ u v, mg x = some u ∧ RelV v u ∧ Rp W (fun _ => none) v d
  fn : ∀ x i, g.fs.lookup x = some i → ∃ f fd ps, FnG W.P W.w W.K mg base n f fd ps (spF W cl i) ∧ mg x = some (.ref f) ∧ PySem.W.keepIn W.K (.ref f) = true ∧ Binds W.K fd ps []
  blt : ∀ x, g.bs.contains x = true → mg x = none
  kls : ∀ x c C, g.ks.lookup x = some (c, C) → mg x = some (.ref (ca W C)) ∧ (∀ t : String, t ∈ ["NoneType", "str", "int", "bool", "tuple", "list", "dict"] → PySem.W.kitOne W.K (.type t) (.ref (ca W C)) = some false) ∧
    (∀ C' ∈ g.ks.map (·.2.2), PySem.W.kitOne W.K (.ref (ca W C')) (.ref (ca W C)) = some (C' == C)) ∧ ((∀ ds, cl c ds = .no) ∨ MkG W mg base n cl c C)
  fld : ∀ f Cs, g.fl.lookup f = some Cs → ∀ C ∈ Cs, NoAttr W.K (ca W C) f
  met : ∀ m ms C f, g.ms.lookup m = some ms → ms.lookup C = some f → Cls W.K (ca W C) ∧ ∃ fa fd ps, Meth W.K (ca W C) m fa ∧ FnG W.P W.w W.K mg base n fa fd ps (spF W cl f) ∧ Binds W.K fd ps []
  metf : ∀ m ms C f, g.ms.lookup m = some ms → ms.lookup C = some f → ∀ fa, Meth W.K (ca W C) m fa → PySem.W.fnIn W.K fa = true
  dun : ∀ C, g.du.contains C = true → DunK W (g.ks.map (·.2.2)) C
structure Cok (W : Wd) (mg : Str → Option Value) (base : Heap) (n : Nat) (c : Cc) (X : Cx) : Prop where
  hW : W = ⟨X.prog, X.w, X.K⟩
  calm : X.calm = true
  N : X.N = c.N
  nd : c.N.Nodup
  room1 : Room n X.A.in1
  gd : X.A.guards = some []
  xe : X.xe = fun _ _ => False
  kd : X.env.scope.kind = .function
  look : ∀ x, X.env.scope.names.lookup x = c.sc.lookup x ∨ (c.sc.lookup x = some .free ∧ X.env.scope.names.lookup x = some .cell)
  fnc : ∀ x, c.sc.lookup x = some .cell → X.fn x = true
  mg : X.mg = mg
  base : X.base = base
theorem star_ok {e : Expr} {es : List Expr} {env : PySem.Env} (h : isStar e = false) : starEach (e :: es) env = (false, eval e env) :: starEach es env := by
  cases e <;> first | rfl | cases h
theorem not_true {b : Bool} (h : (!b) = true) : b = false := by
  cases b with
  | false => rfl
  | true => cases h
section
variable {W : Wd} {mg : Str → Option Value} {base : Heap} {n : Nat} {cl : Cal} {wx : WX} {g : Gs} {c : Cc} {X : Cx} {pos : Pos}
theorem Cok.room (C : Cok W mg base n c X) : Room n X.A := Room.of1 C.room1
theorem Cok.u65 (C : Cok W mg base n c X) : X.A.units + 65 < cLine := by
  have := C.room.un
  omega
theorem Cok.own (C : Cok W mg base n c X) : PassesOwn (model X.prog X.w) X.A X.env X.xe := by
  rw [C.xe]
  exact .never
theorem Cok.atN (C : Cok W mg base n c X) {x : Str} {i : Nat} (h : slotOfN c.N x = some i) : X.N[i]? = some x := by
  rw [C.N]
  exact slotOfN_ok h
theorem Cok.nd' (C : Cok W mg base n c X) : X.N.Nodup := by
  rw [C.N]
  exact C.nd
theorem bind_some {α β : Type} {o : Option α} {f : α → Option β} {b : β} (h : (o >>= f) = some b) : ∃ a, o = some a ∧ f a = some b := by
  cases o with
  | none => cases h
  | some a => exact ⟨a, rfl, h⟩
theorem need_then {β : Type} {b : Bool} {f : Unit → Option β} {x : β} (h : (need b >>= f) = some x) : b = true ∧ f () = some x := by
  cases b with
  | true => exact ⟨rfl, h⟩
  | false => cases h
theorem Cok.vis (C : Cok W mg base n c X) {x : Str} {i : Nat} (h : c.vis x = some i) : X.N[i]? = some x ∧ Vis X.env.scope x ∧ (x == ("__debug__" : Str)) = false ∧ (x == ("__classdict__" : Str)) = false := by
  obtain ⟨h1, h2⟩ := need_then h
  simp only [Bool.and_eq_true] at h1
  refine ⟨C.atN h2, ?_, not_true h1.1.2, not_true h1.2⟩
  have hv := h1.1.1
  rcases C.look x with e | ⟨e1, e2⟩
  · unfold Vis
    rw [e]
    cases hx : c.sc.lookup x with
    | none =>
      rw [hx] at hv
      cases hv
    | some k =>
      rw [hx] at hv
      cases k <;> first | exact .inl rfl | exact .inr (.inl rfl) | exact .inr (.inr rfl) | cases hv
  · exact .inr (.inl e2)
theorem Cok.loc (C : Cok W mg base n c X) {x : Str} {i : Nat} (h : c.loc x = some i) : X.N[i]? = some x ∧ Loc X.env.scope x ∧ (X.fn x = true ∨ X.env.scope.names.lookup x = some .local) := by
  obtain ⟨h1, h2⟩ := need_then h
  refine ⟨C.atN h2, ?_⟩
  cases hx : c.sc.lookup x with
  | none =>
    rw [hx] at h1
    cases h1
  | some k =>
    rw [hx] at h1
    have e : X.env.scope.names.lookup x = some k := by
      rcases C.look x with e | ⟨e1, e2⟩
      · rw [e, hx]
      · rw [hx] at e1
        cases e1
        cases h1
    cases k with
    | «local» => exact ⟨.inl e, .inr e⟩
    | cell => exact ⟨.inr e, .inl (C.fnc x hx)⟩
    | _ => cases h1
theorem Cok.glo (C : Cok W mg base n c X) {x : Str} (h : c.glo x = true) : Gl X x ∧ (x == ("__debug__" : Str)) = false := by
  unfold Cc.glo at h
  simp only [Bool.and_eq_true] at h
  refine ⟨?_, not_true h.2⟩
  have hv := h.1
  show X.env.scope.names.lookup x = some .globalImplicit
  rcases C.look x with e | ⟨e1, e2⟩
  · rw [e]
    cases hx : c.sc.lookup x with
    | none =>
      rw [hx] at hv
      cases hv
    | some k =>
      rw [hx] at hv
      cases k <;> first | rfl | cases hv
  · rw [e1] at hv
    cases hv
theorem Cok.isLocal (C : Cok W mg base n c X) {x : Str} (h : c.sc.lookup x = some .local) : X.env.scope.names.lookup x = some .local := by
  rcases C.look x with e | ⟨e1, e2⟩
  · rw [e, h]
  · rw [h] at e1
    cases e1
theorem se_at (C : Cok W mg base n c X) {x : Str} {i : Nat} (h : c.vis x = some i) : SE W cl wx X (.var i) (.Name x pos) := by
  obtain ⟨h1, h2, h3, h4⟩ := C.vis h
  exact se_var C.hW h1 h2 h3 h4
theorem cName_ok (G : Glo W mg base n cl g) (C : Cok W mg base n c X) {x : Str} {code : CE} (h : cName g c x = some code) : SE W cl wx X code (.Name x pos) := by
  unfold cName at h
  split at h
  · rename_i i e
    cases h
    exact se_at C e
  · obtain ⟨h1, h⟩ := need_then h
    obtain ⟨d, h2, h⟩ := bind_some h
    cases h
    obtain ⟨u, v, m, r, q⟩ := G.con x d h2
    obtain ⟨g1, g2⟩ := C.glo h1
    exact se_con C.hW g1 (by rw [C.mg]; exact m) r g2 q
/-! ### lists -/
section
variable {f : Expr → Option CE}
theorem cL_ks (hf : ∀ e a, f e = some a → SE W cl wx X a e) : ∀ {es : List Expr} {t : CE}, cL f es = some t → PA X es (tKs W cl wx t)
  | [], t, h => by
    cases h
    exact ks_nil
  | e :: es, t, h => by
    obtain ⟨h1, h⟩ := need_then h
    obtain ⟨a, h2, h⟩ := bind_some h
    obtain ⟨b, h3, h⟩ := bind_some h
    cases h
    exact ks_cons (hf e a h2) (cL_ks hf h3) (star_ok (not_true h1))
theorem cL_rs (hf : ∀ e a, f e = some a → SE W cl wx X a e) : ∀ {es : List Expr} {t : CE}, cL f es = some t → PA X es (tRs W cl wx t)
  | [], t, h => by
    cases h
    exact rs_nil
  | e :: es, t, h => by
    obtain ⟨h1, h⟩ := need_then h
    obtain ⟨a, h2, h⟩ := bind_some h
    obtain ⟨b, h3, h⟩ := bind_some h
    cases h
    exact rs_cons (hf e a h2) (cL_rs hf h3) (star_ok (not_true h1))
theorem cL_as (hf : ∀ e a, f e = some a → SE W cl wx X a e) : ∀ {es : List Expr} {t : CE}, cL f es = some t → PA X es (tAs W cl wx t)
  | [], t, h => by
    cases h
    exact as_nil
  | e :: es, t, h => by
    obtain ⟨h1, h⟩ := need_then h
    obtain ⟨a, h2, h⟩ := bind_some h
    obtain ⟨b, h3, h⟩ := bind_some h
    cases h
    exact as_cons (hf e a h2) (cL_as hf h3) (star_ok (not_true h1))
theorem cL_star {env : PySem.Env} : ∀ {es : List Expr} {t : CE}, cL f es = some t → (backTo pos (starEach es env)).any (·.1) = false
  | [], t, h => rfl
  | e :: es, t, h => by
    obtain ⟨h1, h⟩ := need_then h
    obtain ⟨a, h2, h⟩ := bind_some h
    obtain ⟨b, h3, h⟩ := bind_some h
    have ih : (backTo pos (starEach es env)).any (·.1) = false := cL_star h3
    rw [star_ok (not_true h1)]
    unfold backTo at ih ⊢
    simpa using ih
theorem cL_head {env : PySem.Env} {e : Expr} {es : List Expr} {t : CE} (h : cL f (e :: es) = some t) : starEach (e :: es) env = (false, eval e env) :: starEach es env ∧ (backTo pos (starEach es env)).any (·.1) = false := by
  obtain ⟨h1, h⟩ := need_then h
  obtain ⟨a, h2, h⟩ := bind_some h
  obtain ⟨b, h3, h⟩ := bind_some h
  exact ⟨star_ok (not_true h1), cL_star h3⟩
theorem cAnd_ok (hf : ∀ e a, f e = some a → SE W cl wx X a e) : ∀ {es : List Expr} {t : CE}, cAnd f es = some t → SB W cl wx X t .And es pos ∧ (2 ≤ es.length → t.late = none)
  | [], t, h => by cases h
  | [e], t, h => ⟨sb_one (hf e t h), fun z => absurd z (by simp)⟩
  | e :: b :: es, t, h => by
    obtain ⟨a, h2, h⟩ := bind_some h
    obtain ⟨u, h3, h⟩ := bind_some h
    cases h
    exact ⟨sb_and (hf e a h2) (cAnd_ok hf h3).1, fun _ => rfl⟩
theorem cOr_ok (hf : ∀ e a, f e = some a → SE W cl wx X a e) : ∀ {es : List Expr} {t : CE}, cOr f es = some t → SB W cl wx X t .Or es pos ∧ (2 ≤ es.length → t.late = none)
  | [], t, h => by cases h
  | [e], t, h => ⟨sb_one (hf e t h), fun z => absurd z (by simp)⟩
  | e :: b :: es, t, h => by
    obtain ⟨a, h2, h⟩ := bind_some h
    obtain ⟨u, h3, h⟩ := bind_some h
    cases h
    exact ⟨sb_or (hf e a h2) (cOr_ok hf h3).1, fun _ => rfl⟩
theorem cPairs_ok (hf : ∀ e a, f e = some a → SE W cl wx X a e) : ∀ {ks : List (Option Expr)} {vs : List Expr} {t : CE}, cPairs f ks vs = some t → PPs X pos ks vs (trsOf W cl wx t) ∧ ks.all (·.isSome) = true ∧ ks.length = vs.length ∧ altC t = true
  | [], [], t, h => by
    cases h
    exact ⟨pps_nil, rfl, rfl, rfl⟩
  | [], _ :: _, t, h => by cases h
  | some k :: ks, [], t, h => by cases h
  | none :: ks, [], t, h => by cases h
  | none :: ks, _ :: _, t, h => by cases h
  | some k :: ks, v :: vs, t, h => by
    obtain ⟨a, h1, h⟩ := bind_some h
    obtain ⟨b, h2, h⟩ := bind_some h
    obtain ⟨u, h3, h⟩ := bind_some h
    cases h
    obtain ⟨i1, i2, i3, i4⟩ := cPairs_ok hf h3
    exact ⟨pps_cons (hf k a h1).v (hf v b h2).v i1, by simpa using i2, by simpa using i3, i4⟩
theorem cO_ok (hf : ∀ e a, f e = some a → SE W cl wx X a e) {o : Option Expr} {t : CE} (h : cO f o = some t) : PO X o (tOe W cl wx t) := by
  cases o with
  | none =>
    cases h
    exact so_none
  | some e =>
    obtain ⟨a, h1, h⟩ := bind_some h
    cases h
    exact so_some (hf e a h1)
/-! ### calls -/
theorem blt_ok (G : Glo W mg base n cl g) (C : Cok W mg base n c X) {x : Str} {b : Blt} {t : CE} {e : Expr} {es : List Expr} {p : Pos} (hb : bltOf x (es.length + 1) = some b) (hx : g.bs.contains x = true) (hg : c.glo x = true) (ha : PA X (e :: es) (tRs W cl wx t)) (he : starEach (e :: es) X.env = (false, eval e X.env) :: starEach es X.env) (hpl : (backTo pos (starEach es X.env)).any (·.1) = false) :
    SE W cl wx X (.blt b t) (.Call (.Name x p) (e :: es) [] pos) := by
  obtain ⟨g1, g2⟩ := C.glo hg
  have hm : X.mg x = none := by
    rw [C.mg]
    exact G.blt x hx
  have eK : X.K = W.K := by rw [C.hW]
  unfold bltOf at hb
  split at hb
  · rename_i q
    obtain ⟨rfl, q⟩ := q
    cases hb
    exact se_blt C.hW (cr_len C.hW) lenD_ok g1 hm rfl (by decide) g2 ha he hpl
  split at hb
  · rename_i q
    obtain ⟨rfl, q⟩ := q
    cases hb
    exact se_bltT C.hW (callR_or call_int1 call_int_str) intB_ok g1 hm rfl (by decide) g2 ha he hpl
  split at hb
  · rename_i q
    obtain ⟨rfl, q⟩ := q
    cases hb
    exact se_blt C.hW (call_min2 C.calm) minB_ok g1 hm rfl (by decide) g2 ha he hpl
  split at hb
  · rename_i q
    obtain ⟨rfl, q⟩ := q
    cases hb
    exact se_blt C.hW (cr_repr C.gd (by have := C.u65; omega)) (by rw [eK]; exact repB_ok) g1 hm rfl (by decide) g2 ha he hpl
  split at hb
  · rename_i q
    obtain ⟨rfl, q⟩ := q
    cases hb
    exact se_blt C.hW (cr_all C.calm) (by rw [eK]; exact allB_ok) g1 hm rfl (by decide) g2 ha he hpl
  split at hb
  · rename_i q
    obtain ⟨rfl, q⟩ := q
    cases hb
    exact se_blt C.hW (cr_any C.calm) (by rw [eK]; exact anyB_ok) g1 hm rfl (by decide) g2 ha he hpl
  split at hb
  · rename_i q
    obtain ⟨rfl, q⟩ := q
    cases hb
    exact se_bltT C.hW call_tuple_of (by rw [eK]; exact tupB_ok) g1 hm rfl (by decide) g2 ha he hpl
  split at hb
  · rename_i q
    obtain ⟨rfl, q⟩ := q
    cases hb
    exact se_bltT C.hW call_list_of (by rw [eK]; exact lstB_ok) g1 hm rfl (by decide) g2 ha he hpl
  split at hb
  · rename_i q
    obtain ⟨rfl, q⟩ := q
    cases hb
    exact se_bltT C.hW (cr_dict C.hW) dicB_ok g1 hm rfl (by decide) g2 ha he hpl
  split at hb
  · rename_i q
    obtain ⟨rfl, q⟩ := q
    cases hb
    exact se_bltT C.hW (callR_or call_str_int SkE.call_str_str) strB_ok g1 hm rfl (by decide) g2 ha he hpl
  · cases hb
theorem tyOf_ok {x : Str} {t : Ty} (h : tyOf x = some t) : x = t.name ∧ bootBuiltins x = some (.type t.name) ∧ x ≠ "__name__" := by
  unfold tyOf at h
  split at h
  · rename_i q
    subst q
    cases h
    exact ⟨rfl, rfl, by decide⟩
  split at h
  · rename_i q
    subst q
    cases h
    exact ⟨rfl, rfl, by decide⟩
  split at h
  · rename_i q
    subst q
    cases h
    exact ⟨rfl, rfl, by decide⟩
  split at h
  · rename_i q
    subst q
    cases h
    exact ⟨rfl, rfl, by decide⟩
  split at h
  · rename_i q
    subst q
    cases h
    exact ⟨rfl, rfl, by decide⟩
  split at h
  · rename_i q
    subst q
    cases h
    exact ⟨rfl, rfl, by decide⟩
  · cases h
theorem tysOf_ok (G : Glo W mg base n cl g) (C : Cok W mg base n c X) : ∀ {es : List Expr} {ts : List Ty}, tysOf g c es = some ts → PTys X es ts
  | [], ts, h => by
    cases h
    exact .nil
  | e :: es, ts, h => by
    cases e with
    | Name x p =>
      obtain ⟨h1, h⟩ := need_then h
      obtain ⟨t, h2, h⟩ := bind_some h
      obtain ⟨ts', h3, h⟩ := bind_some h
      cases h
      simp only [Bool.and_eq_true] at h1
      obtain ⟨t1, t2, t3⟩ := tyOf_ok h2
      exact .cons (C.glo h1.1).1 (by rw [C.mg]; exact G.blt _ h1.2) t2 t3 (C.glo h1.1).2 (tysOf_ok G C h3)
    | _ => cases h
theorem cIsi_ok (G : Glo W mg base n cl g) (C : Cok W mg base n c X) {a code : CE} {e t : Expr} {p : Pos} (ha : SE W cl wx X a e) (hg : c.glo "isinstance" = true) (hb : g.bs.contains "isinstance" = true) (hs : isStar e = false) (h : cIsi g c a t = some code) :
    SE W cl wx X code (.Call (.Name "isinstance" p) [e, t] [] pos) := by
  have hm : X.mg "isinstance" = none := by
    rw [C.mg]
    exact G.blt _ hb
  cases t with
  | Name t p2 =>
    obtain ⟨h1, h⟩ := need_then h
    cases hk : g.ks.lookup t with
    | some cC =>
      obtain ⟨ci, Ci⟩ := cC
      rw [hk] at h
      cases h
      obtain ⟨k1, k2, k3, _⟩ := G.kls t ci Ci hk
      exact se_isk C.hW ha (C.glo hg).1 hm (C.glo h1).1 (by rw [C.mg]; exact k1) (C.glo h1).2 k2 k3 fun es => star_ok hs
    | none =>
      rw [hk] at h
      obtain ⟨ty, h2, h⟩ := bind_some h
      obtain ⟨h3, h⟩ := need_then h
      cases h
      obtain ⟨t1, t2, t3⟩ := tyOf_ok h2
      exact se_isi C.hW ha t1 (C.glo hg).1 hm (C.glo h1).1 (by rw [C.mg]; exact G.blt _ h3) t2 t3 (C.glo h1).2 fun es => star_ok hs
  | Tuple es k p2 =>
    obtain ⟨ts, h1, h⟩ := bind_some h
    obtain ⟨h2, h⟩ := need_then h
    cases h
    exact se_isis C.hW ha (tysOf_ok G C h1) (Nat.le_of_ble_eq_true h2) (C.glo hg).1 hm fun es => star_ok hs
  | _ => cases h
/-- a call that is never answered -/
theorem never_call {ci : Nat} {x : Str} {t : CE} {σ : L2.St} {H : Hp} {Q : VK} (hn : ∀ ds, cl ci ds = .no) (h : tV W cl wx (.call ci x t) σ H Q) : False := by
  obtain ⟨O, r, E, q⟩ := h
  have q : Good _ _ ((evA cl t r).bind fun as r => callA cl ci as r) := q
  cases he : evA cl t r with
  | no =>
    rw [he] at q
    exact q.elim
  | ex e r' =>
    rw [he] at q
    exact q.elim
  | ok as r' =>
    rw [he] at q
    have q : Good _ _ ((callB cl ci as r').bind fun x r => Out.ok (flatR x.1 x.2) r) := q
    unfold callB at q
    cases ha : argD r' as with
    | none =>
      rw [ha] at q
      exact q.elim
    | some ds =>
      rw [ha] at q
      simp only [hn ds] at q
      by_cases hd : djA r' as = true
      · simp only [hd, if_true] at q
        exact q.elim
      · simp only [hd] at q
        exact q.elim
theorem se_never {ci : Nat} {x : Str} {t : CE} {e : Expr} (hW : W = ⟨X.prog, X.w, X.K⟩) (hn : ∀ ds, cl ci ds = .no) (he : ∀ whole, isTrue e X.env whole = (do let v ← whole; standAt e.pos; holding [v] (truthy v))) : SE W cl wx X (.call ci x t) e :=
  SE.leaf ⟨fun pins s σ H Q I q => (never_call hn q).elim⟩ hW rfl (fun _ => rfl) he
theorem own_ok (G : Glo W mg base n cl g) (C : Cok W mg base n c X) {x : Str} {i : Nat} {t : CE} {e : Expr} {es : List Expr} {p : Pos} (h : cOwnF g x = some i) (hg : c.glo x = true) (ha : PA X (e :: es) (tAs W cl wx t)) (s1 : starEach (e :: es) X.env = (false, eval e X.env) :: starEach es X.env)
    (s2 : (backTo pos (starEach es X.env)).any (·.1) = false) : SE W cl wx X (.call i x t) (.Call (.Name x p) (e :: es) [] pos) := by
  obtain ⟨g1, g2⟩ := C.glo hg
  unfold cOwnF at h
  split at h
  · rename_i j ej
    cases h
    obtain ⟨fa, fd, ps, F, m, k, b⟩ := G.fn x i ej
    have eW := C.hW
    have em := C.mg
    have eb := C.base
    subst eW em eb
    exact se_call rfl F C.room C.gd g1 m k b ha g2 s1 s2
  · obtain ⟨⟨ci, Ci⟩, ek, e2⟩ := Option.map_eq_some_iff.mp h
    cases e2
    obtain ⟨k1, _, _, k4⟩ := G.kls x ci Ci ek
    rcases k4 with k4 | ⟨kk, cl', gI, k, f, fd, ps, hn, hc, M, F, b⟩
    · exact se_never C.hW k4 fun _ => rfl
    · have em := C.mg
      have eb := C.base
      subst em eb hn
      have eK : X.K = W.K := by rw [C.hW]
      have eP : X.prog = W.P := by rw [C.hW]
      have ew : X.w = W.w := by rw [C.hW]
      rw [← eK] at M b
      rw [← eP, ← ew, ← eK] at F
      exact se_mk C.hW kk hc M F C.room C.gd b g1 k1 g2 ha s1 s2
theorem own_ok0 (G : Glo W mg base n cl g) (C : Cok W mg base n c X) {x : Str} {i : Nat} {p : Pos} (h : cOwnF g x = some i) (hg : c.glo x = true) : SE W cl wx X (.call i x .nil) (.Call (.Name x p) [] [] pos) := by
  obtain ⟨g1, g2⟩ := C.glo hg
  unfold cOwnF at h
  split at h
  · rename_i j ej
    cases h
    obtain ⟨fa, fd, ps, F, m, k, b⟩ := G.fn x i ej
    have eW := C.hW
    have em := C.mg
    have eb := C.base
    subst eW em eb
    exact se_call0 rfl F C.room C.gd g1 m k b g2
  · obtain ⟨⟨ci, Ci⟩, ek, e2⟩ := Option.map_eq_some_iff.mp h
    cases e2
    obtain ⟨k1, _, _, k4⟩ := G.kls x ci Ci ek
    rcases k4 with k4 | ⟨kk, cl', gI, k, f, fd, ps, hn, hc, M, F, b⟩
    · exact se_never C.hW k4 fun _ => rfl
    · have em := C.mg
      have eb := C.base
      subst em eb hn
      have eK : X.K = W.K := by rw [C.hW]
      have eP : X.prog = W.P := by rw [C.hW]
      have ew : X.w = W.w := by rw [C.hW]
      rw [← eK] at M b
      rw [← eP, ← ew, ← eK] at F
      exact se_mk0 C.hW kk hc M F C.room C.gd b g1 k1 g2
theorem plain_call {o : Expr} {m : Str} {apos : Pos} {args : List Expr} {env : PySem.Env} (h : plainBase o = true) (hf : methodCallForm args.length (backTo pos (starEach args env)) (backToKw pos (keywordEach [] env)) = true) (hl : (apos.endLine == pos.line) = true) : plainCall o m apos args pos env := by
  refine ⟨do return (← importBound o env).getD true, ?_⟩
  show (do
    let ov ← attributeBase o m env (eval o env)
    standAt apos.atName
    methodCall o m apos pos env ov args.length (backTo pos (starEach args env)) (backToKw pos (keywordEach [] env))) = _
  rw [base_ok h]
  unfold methodCall calleeOf methodCallPos
  simp [hf, hl]
theorem few_ok {args : List Expr} {t : CE} {env : PySem.Env} (h : cL f args = some t) (hz : args.length ≤ 20) : methodCallForm args.length (backTo pos (starEach args env)) (backToKw pos (keywordEach [] env)) = true := by
  have h1 := cL_star (pos := pos) (env := env) h
  unfold methodCallForm
  have h2 : (backTo pos (starEach args env)).all (fun x => !x.1) = true := by
    rw [List.all_eq_not_any_not]
    simp only [Bool.not_not]
    rw [h1]
    rfl
  rw [h2]
  have h3 : (backToKw pos (keywordEach [] env)) = [] := rfl
  rw [h3]
  simp
  omega
theorem cMut_ok0 (C : Cok W mg base n c X) {m : Str} {b : Expr} {code : CE} {apos : Pos} (h : cMut c m b [] = some code) (hl : (apos.endLine == pos.line) = true) : SE W cl wx X code (.Call (.Attribute b m apos) [] [] pos) := by
  cases b with
  | Name x p =>
    obtain ⟨i, h1, hh⟩ := bind_some h
    split at hh
    · rename_i q
      subst q
      cases hh
      exact se_pop C.hW (se_at C h1) hl
    · obtain ⟨h2, hh⟩ := need_then hh
      cases hh
      have q : m = "clear" := of_decide_eq_true h2
      subst q
      exact se_clear C.hW (se_at C h1) hl
  | _ => cases h
theorem cMut_ok1 (C : Cok W mg base n c X) {m : Str} {b e : Expr} {a code : CE} {apos : Pos} (ha : SE W cl wx X a e) (h : cMut c m b [a] = some code) (hl : (apos.endLine == pos.line) = true) (hs : starEach [e] X.env = [(false, eval e X.env)]) : SE W cl wx X code (.Call (.Attribute b m apos) [e] [] pos) := by
  cases b with
  | Name x p =>
    obtain ⟨i, h1, hh⟩ := bind_some h
    split at hh
    · rename_i q
      subst q
      cases hh
      exact se_popAt C.hW (se_at C h1) ha hl hs
    · obtain ⟨k, hk, hh⟩ := bind_some hh
      cases hh
      unfold muOf at hk
      split at hk
      · rename_i q
        subst q
        cases hk
        exact se_append C.hW (se_at C h1) ha hl hs
      split at hk
      · rename_i q
        subst q
        cases hk
        exact se_extend C.hW (se_at C h1) ha hl hs
      split at hk
      · rename_i q
        subst q
        cases hk
        exact se_update C.hW (se_at C h1) ha hl hs
      · cases hk
  | _ => cases h
theorem cCall_ok (G : Glo W mg base n cl g) (C : Cok W mg base n c X) (hf : ∀ e a, f e = some a → SE W cl wx X a e) {fn : Expr} {args : List Expr} {code : CE} (h : cCall g c f fn args pos = some code) : SE W cl wx X code (.Call fn args [] pos) := by
  unfold cCall at h
  split at h
  · rename_i x p
    split at h
    · obtain ⟨hg, h⟩ := need_then h
      obtain ⟨i, h1, h⟩ := bind_some h
      cases h
      exact own_ok0 G C h1 hg
    · rename_i e es
      obtain ⟨hg, h⟩ := need_then h
      split at h
      · rename_i hx
        subst hx
        split at h
        · rename_i t
          obtain ⟨h1, h⟩ := need_then h
          obtain ⟨a, h2, h⟩ := bind_some h
          simp only [Bool.and_eq_true] at h1
          exact cIsi_ok G C (hf e a h2) hg h1.1 (not_true h1.2) h
        · cases h
      · obtain ⟨t, h1, h⟩ := bind_some h
        obtain ⟨s1, s2⟩ := cL_head (pos := pos) (env := X.env) h1
        split at h
        · rename_i i e
          cases h
          exact own_ok G C e hg (cL_as hf h1) s1 s2
        · obtain ⟨b, h2, h⟩ := bind_some h
          obtain ⟨h3, h⟩ := need_then h
          cases h
          exact blt_ok G C h2 h3 hg (cL_rs hf h1) s1 s2
  · rename_i b m apos
    split at h
    · split at h
      · obtain ⟨h1, h⟩ := need_then h
        exact cMut_ok0 C h h1
      · rename_i e
        obtain ⟨h1, h⟩ := need_then h
        obtain ⟨a, h2, h⟩ := bind_some h
        simp only [Bool.and_eq_true] at h1
        exact cMut_ok1 C (hf e a h2) h h1.2 (star_ok (not_true h1.1))
      · cases h
    split at h
    · rename_i q
      subst q
      split at h
      · rename_i e
        obtain ⟨h1, h⟩ := need_then h
        obtain ⟨a, h2, h⟩ := bind_some h
        obtain ⟨r, h3, h⟩ := bind_some h
        cases h
        simp only [Bool.and_eq_true] at h1
        exact se_index C.hW C.u65 (hf _ r h3) (hf e a h2) h1.2 h1.1.2 (star_ok (not_true h1.1.1))
      · cases h
    split at h
    · rename_i q
      subst q
      split at h
      · rename_i e d
        obtain ⟨h1, h⟩ := need_then h
        obtain ⟨a, h2, h⟩ := bind_some h
        obtain ⟨z, h3, h⟩ := bind_some h
        obtain ⟨r, h4, h⟩ := bind_some h
        cases h
        simp only [Bool.and_eq_true] at h1
        obtain ⟨⟨⟨k1, k2⟩, k3⟩, k4⟩ := h1
        have se : starEach [e, d] X.env = [(false, eval e X.env), (false, eval d X.env)] := by
          rw [star_ok (not_true k1), star_ok (not_true k2)]
          rfl
        refine se_get2 C.hW C.u65 (hf b r h4) (hf e a h2) (hf d z h3) ⟨base_ok k4, ?_, k3, ?_⟩
        · rw [se]
          rfl
        · rw [se]
          rfl
      · cases h
    split at h
    · rename_i q
      subst q
      split at h
      · rename_i e
        obtain ⟨h1, h⟩ := need_then h
        obtain ⟨a, h2, h⟩ := bind_some h
        obtain ⟨r, h4, h⟩ := bind_some h
        cases h
        simp only [Bool.and_eq_true] at h1
        obtain ⟨⟨k1, k3⟩, k4⟩ := h1
        exact se_join C.hW (hf b r h4) (hf e a h2) k4 k3 (by rw [star_ok (not_true k1)]; rfl)
      · cases h
    split at h
    · rename_i q
      subst q
      split at h
      · rename_i e
        obtain ⟨h1, h⟩ := need_then h
        obtain ⟨a, h2, h⟩ := bind_some h
        obtain ⟨r, h4, h⟩ := bind_some h
        cases h
        simp only [Bool.and_eq_true] at h1
        obtain ⟨⟨k1, k3⟩, k4⟩ := h1
        exact se_split C.hW (hf b r h4) (hf e a h2) k4 k3 (by rw [star_ok (not_true k1)]; rfl)
      · cases h
    · obtain ⟨ms, h1, h⟩ := bind_some h
      obtain ⟨h2, h⟩ := need_then h
      obtain ⟨r, h3, h⟩ := bind_some h
      obtain ⟨t, h4, h⟩ := bind_some h
      cases h
      simp only [Bool.and_eq_true] at h2
      have hm : ∀ Ci fi, ms.lookup Ci = some fi → MetG X n (ca W Ci) m (spF W cl fi) := fun Ci fi e => by
        obtain ⟨k1, fa, fd, ps, k2, F, b⟩ := G.met m ms Ci fi h1 e
        have em := C.mg
        have eb := C.base
        subst em eb
        have eK : X.K = W.K := by rw [C.hW]
        have eP : X.prog = W.P := by rw [C.hW]
        have ew : X.w = W.w := by rw [C.hW]
        rw [← eK] at k1 k2 b
        rw [← eP, ← ew, ← eK] at F
        exact ⟨k1, fa, fd, ps, k2, F, b⟩
      have pc := plain_call (o := b) (m := m) h2.1.1 (few_ok (pos := pos) (env := X.env) h4 (Nat.le_of_ble_eq_true h2.1.2)) h2.2
      cases args with
      | nil =>
        cases h4
        exact se_meth0 C.hW (hf b r h3) C.room C.gd hm pc
      | cons e es =>
        obtain ⟨s1, s2⟩ := cL_head (pos := pos) (env := X.env) h4
        exact se_meth C.hW (hf b r h3) C.room C.gd hm (cL_as hf h4) s1 s2 pc
  · cases h
/-! ### special methods -/
theorem dunMs_ok (G : Glo W mg base n cl g) (C : Cok W mg base n c X) {m : Str} {ms : List (Nat × Nat)} (h : dunMs g m = some ms) : ∀ Ci fi, ms.lookup Ci = some fi → MetD X n (ca W Ci) m (spF W cl fi) ∧ DunK W (g.ks.map (·.2.2)) Ci := by
  obtain ⟨ms', h1, h⟩ := bind_some h
  obtain ⟨h2, h⟩ := need_then h
  cases h
  intro Ci fi e
  obtain ⟨k1, fa, fd, ps, k2, F, b⟩ := G.met m ms Ci fi h1 e
  have k3 := G.metf m ms Ci fi h1 e fa k2
  have em := C.mg
  have eb := C.base
  subst em eb
  have eK : X.K = W.K := by rw [C.hW]
  have eP : X.prog = W.P := by rw [C.hW]
  have ew : X.w = W.w := by rw [C.hW]
  rw [← eK] at k2 k3 b
  rw [← eP, ← ew, ← eK] at F
  refine ⟨⟨fa, fd, ps, k2, k3, F, b⟩, G.dun Ci ?_⟩
  exact List.all_eq_true.mp h2 (Ci, fi) (mem_of_look e)
/-! ### walks, targets -/
theorem cNames_ok (C : Cok W mg base n c X) : ∀ {es : List Expr} {is : List Nat}, cNames c es = some is → PGs X es (gNames is) ∧ (assignEach es X.env).length = is.length ∧ (assignEach es X.env).findIdx? (·.1) = none
  | [], is, h => by
    cases h
    exact ⟨pgs_nil, rfl, rfl⟩
  | e :: es, is, h => by
    cases e with
    | Name x p =>
      obtain ⟨i, h1, h⟩ := bind_some h
      obtain ⟨t, h2, h⟩ := bind_some h
      cases h
      obtain ⟨k1, k2, k3⟩ := C.loc h1
      obtain ⟨i1, i2, i3⟩ := cNames_ok C h2
      refine ⟨pgs_cons (pg_name C.nd' k1 k2 k3) i1 rfl, ?_, ?_⟩
      · show (assignEach es X.env).length + 1 = _
        rw [i2]
        rfl
      · show ((false, _) :: assignEach es X.env).findIdx? (·.1) = none
        rw [List.findIdx?_cons, i3]
        rfl
    | _ => cases h
theorem pg_names (C : Cok W mg base n c X) {es : List Expr} {is : List Nat} {k : Nat} (h : cNames c es = some is) : PG X (.Tuple es k pos) (tgT W.K (.many is)) := by
  obtain ⟨i1, i2, i3⟩ := cNames_ok C h
  have eK : W.K = X.K := by rw [C.hW]
  show PG X _ (gTup W.K is.length (gNames is))
  rw [eK]
  exact pg_tup C.calm i1 i2 i3
theorem cTg_ok (C : Cok W mg base n c X) {e : Expr} {is : List Nat} (h : cTg c e = some is) : PG X e (tgT W.K (oneOf is)) := by
  cases e with
  | Name x p =>
    obtain ⟨i, h1, h⟩ := bind_some h
    cases h
    obtain ⟨k1, k2, k3⟩ := C.loc h1
    exact pg_name C.nd' k1 k2 k3
  | Tuple es k p =>
    obtain ⟨t, h1, h⟩ := bind_some h
    obtain ⟨h2, h⟩ := need_then h
    cases h
    have e : oneOf is = .many is := by
      match is, h2 with
      | [], h2 => cases h2
      | [_], h2 => cases h2
      | _ :: _ :: _, _ => rfl
    rw [e]
    exact pg_names C h1
  | _ => cases h
theorem set_plain {e : Expr} {env : PySem.Env} (h : isSet e = false) : ∀ x, foldedSetIterable e env x = pure x := by
  intro x
  cases e <;> first | rfl | cases h
theorem cIc_ok (G : Glo W mg base n cl g) (C : Cok W mg base n c X) (hf : ∀ e a, f e = some a → SE W cl wx X a e) {tg : Expr} {x : Str} {args : List Expr} {code : CE} {p : Pos} (h : cIc g c f tg x args = some code) : PI X tg (.Call (.Name x p) args [] pos) (tI W cl wx code) := by
  obtain ⟨h1, h⟩ := need_then h
  simp only [Bool.and_eq_true] at h1
  obtain ⟨g1, g2⟩ := C.glo h1.1
  have hm : X.mg x = none := by
    rw [C.mg]
    exact G.blt x h1.2
  match args, h with
  | [], h => cases h
  | [e], h =>
    obtain ⟨h2, h⟩ := need_then h
    obtain ⟨a, h3, h⟩ := bind_some h
    have hs := star_ok (es := []) (env := X.env) (not_true h2)
    by_cases q : x = "range"
    · subst q
      rw [if_pos rfl] at h
      cases h
      exact si_range1 (hf e a h3) g1 hm hs
    · rw [if_neg q] at h
      obtain ⟨h4, h⟩ := need_then h
      cases h
      simp only [Bool.and_eq_true, decide_eq_true_eq] at h4
      obtain ⟨rfl, h4⟩ := h4
      cases tg with
      | Tuple => exact si_enum C.hW (hf e a h3) g1 hm hs
      | _ => cases h4
  | [e, e2], h =>
    obtain ⟨h2, h⟩ := need_then h
    obtain ⟨a, h3, h⟩ := bind_some h
    obtain ⟨b, h4, h⟩ := bind_some h
    cases h
    simp only [Bool.and_eq_true, decide_eq_true_eq] at h2
    obtain ⟨⟨⟨rfl, h5⟩, h6⟩, h7⟩ := h2
    cases tg with
    | Tuple => exact si_zip C.hW (hf e a h3) (hf e2 b h4) g1 hm (star_ok (not_true h6)) (star_ok (not_true h7))
    | _ => cases h5
  | _ :: _ :: _ :: _, h => cases h
theorem cI_ok (G : Glo W mg base n cl g) (C : Cok W mg base n c X) (hf : ∀ e a, f e = some a → SE W cl wx X a e) {tg it : Expr} {code : CE} (h : cI g c f tg it = some code) : PI X tg it (tI W cl wx code) ∧ ∀ x, foldedSetIterable it X.env x = pure x := by
  obtain ⟨h1, h⟩ := need_then h
  refine ⟨?_, set_plain (not_true h1)⟩
  split at h
  · rename_i x p args q
    split at h
    · exact cIc_ok G C hf h
    · obtain ⟨a, h2, h⟩ := bind_some h
      cases h
      exact si_seq C.hW (hf _ a h2)
  · obtain ⟨a, h2, h⟩ := bind_some h
    cases h
    exact si_seq C.hW (hf _ a h2)
theorem cIc_en (G : Glo W mg base n cl g) (C : Cok W mg base n c X) (hf : ∀ e a, f e = some a → SE W cl wx X a e) {tg : Expr} {x : Str} {args : List Expr} {code : CE} {p : Pos} {k : Nat} (h : cIc g c f tg x args = some code) (hk : enumVar code = some k) : PI X tg (.Call (.Name x p) args [] pos) (iEnum X.K (tVs k)) := by
  obtain ⟨h1, h⟩ := need_then h
  simp only [Bool.and_eq_true] at h1
  obtain ⟨g1, g2⟩ := C.glo h1.1
  have hm : X.mg x = none := by
    rw [C.mg]
    exact G.blt x h1.2
  match args, h with
  | [], h => cases h
  | [e], h =>
    obtain ⟨h2, h⟩ := need_then h
    obtain ⟨a, h3, h⟩ := bind_some h
    have hs := star_ok (es := []) (env := X.env) (not_true h2)
    by_cases q : x = "range"
    · rw [if_pos q] at h
      cases h
      cases hk
    · rw [if_neg q] at h
      obtain ⟨h4, h⟩ := need_then h
      cases h
      simp only [Bool.and_eq_true, decide_eq_true_eq] at h4
      obtain ⟨rfl, h4⟩ := h4
      cases tg with
      | Tuple => exact pi_enum g1 hm (pa_cons ((hf e a h3).n k hk) pa_nil hs) hs
      | _ => cases h4
  | [e, e2], h =>
    obtain ⟨h2, h⟩ := need_then h
    obtain ⟨a, h3, h⟩ := bind_some h
    obtain ⟨b, h5, h⟩ := bind_some h
    cases h
    cases hk
  | _ :: _ :: _ :: _, h => cases h
theorem cI_en (G : Glo W mg base n cl g) (C : Cok W mg base n c X) (hf : ∀ e a, f e = some a → SE W cl wx X a e) {tg it : Expr} {code : CE} {k : Nat} (h : cI g c f tg it = some code) (hk : enumVar code = some k) : PI X tg it (iEnum X.K (tVs k)) := by
  obtain ⟨h1, h⟩ := need_then h
  split at h
  · rename_i x p args q
    split at h
    · exact cIc_en G C hf h hk
    · obtain ⟨a, h2, h⟩ := bind_some h
      cases h
      cases hk
  · obtain ⟨a, h2, h⟩ := bind_some h
    cases h
    cases hk
theorem enumVar_inv {code : CE} {k : Nat} (h : enumVar code = some k) : code = .enum (.var k) := by
  cases code with
  | enum a =>
    cases a with
    | var i =>
      cases h
      rfl
    | _ => cases h
  | _ => cases h
end
/-! ### blocks -/
theorem relS_look {sc : Scope} : ∀ (names : List (Str × NameKind)) (x : Str),
    (names.map fun (n, k) => if (k == NameKind.free && sc.kind == .function && sc.names.lookup n == some .cell) then (n, NameKind.cell) else (n, k)).lookup x = names.lookup x ∨
    (names.lookup x = some .free ∧ (names.map fun (n, k) => if (k == NameKind.free && sc.kind == .function && sc.names.lookup n == some .cell) then (n, NameKind.cell) else (n, k)).lookup x = some .cell)
  | [], x => .inl rfl
  | (m, k) :: r, x => by
    have ih := relS_look (sc := sc) r x
    rw [List.map_cons]
    by_cases hc : (k == NameKind.free && sc.kind == .function && sc.names.lookup m == some .cell) = true
    · simp only [hc, if_true]
      rw [List.lookup_cons, List.lookup_cons]
      cases hx : x == m with
      | true =>
        simp only [Bool.and_eq_true, beq_iff_eq] at hc
        exact .inr ⟨by rw [hc.1.1], rfl⟩
      | false => exact ih
    · simp only [hc]
      rw [if_neg (by simp), List.lookup_cons, List.lookup_cons]
      cases hx : x == m with
      | true => exact .inl rfl
      | false => exact ih
theorem Cok.blk (C : Cok W mg base n c X) {scope : Scope} (hk : scope.kind = .function) (s : Shared) (H : Hp) (D : Addr) (cl' : List (Str × Addr)) (fp : List Addr) : Cok W mg base n { c with sc := scope.names } (X.blk s H scope (compEnvC scope cl' D X.env) fp) where
  hW := C.hW
  calm := C.calm
  N := C.N
  nd := C.nd
  room1 := C.room1
  gd := C.gd
  xe := rfl
  kd := hk
  look := fun x => relS_look scope.names x
  fnc := fun x h => by
    show (scope.names.lookup x == some NameKind.cell) = true
    have h : scope.names.lookup x = some .cell := h
    rw [h]
    rfl
  mg := C.mg
  base := C.base
theorem blkOk_ok (C : Cok W mg base n c X) {scope : Scope} (h : blkOk c scope = true) : BlkOk X.N X.env.scope scope (cOwn c.N scope.names) := by
  unfold blkOk at h
  simp only [Bool.and_eq_true, decide_eq_true_eq, List.all_eq_true] at h
  obtain ⟨⟨h1, h2⟩, h3⟩ := h
  refine ⟨h1, fun y hy => h2 y hy, fun p hp => ?_, fun y hy e => ?_, fun y hy e => ?_⟩
  · unfold cOwn at hp
    obtain ⟨y, hy, e⟩ := List.mem_filterMap.mp hp
    split at e
    · obtain ⟨i, e1, e2⟩ := Option.map_eq_some_iff.mp e
      cases e2
      exact C.atN e1
    · cases e
  · have h3 := h3 y hy
    simp only [Bool.or_eq_true, e, decide_true, Bool.not_true, Bool.false_eq_true, false_or, decide_eq_true_eq] at h3
    rcases h3 with k | k
    · rcases C.look y.1 with z | ⟨z1, z2⟩
      · exact .inl (by rw [z, k])
      · rw [k] at z1
        cases z1
    · rcases C.look y.1 with z | ⟨z1, z2⟩
      · exact .inr (by rw [z, k])
      · exact .inl z2
  · by_cases hm : y.1 ∈ X.N
    · refine .inl (List.mem_map.mpr ?_)
      rw [C.N] at hm
      have hs : slotOfN c.N y.1 = some (c.N.idxOf y.1) := by
        unfold slotOfN
        rw [if_pos]
        have hl := List.idxOf_lt_length_of_mem hm
        rw [List.getElem?_eq_getElem hl, List.getElem_idxOf hl]
      refine ⟨(y.1, c.N.idxOf y.1), ?_, rfl⟩
      unfold cOwn
      refine List.mem_filterMap.mpr ⟨y, hy, ?_⟩
      have hl : isLoc (some y.2) = true := by
        rcases e with e | e <;> rw [e] <;> rfl
      rw [if_pos hl, hs]
      rfl
    · exact .inr hm
end
end Eg
/-! Eg22: the tree is worth its code. -/
namespace Eg
open PySem PySem.Spec PyProof.Rows L2
section
variable {W : Wd} {mg : Str → Option Value} {base : Heap} {n : Nat} {cl : Cal} {wx : WX} {g : Gs} {c : Cc} {X : Cx} {pos : Pos}
/-- the parts of a comprehension -/
structure CompOk (W : Wd) (cl : Cal) (wx : WX) (X : Cx) (vs : List (Str × Nat)) (is : List Nat) (i cond a : CE) (elt tg it : Expr) (ifs : List Expr) (scope : Scope) : Prop where
  hi : PI X tg it (tI W cl wx i)
  ok : BlkOk X.N X.env.scope scope vs
  htg : ∀ k ∈ is, k ∈ vs.map (·.2)
  hg : ∀ (s : Shared) (H : Hp) (C : Addr) (cl : List (Str × Addr)) (fp : List Addr), PG (X.blk s H scope (compEnvC scope cl C X.env) fp) tg (tgT W.K (oneOf is))
  ht : ∀ (s : Shared) (H : Hp) (C : Addr) (cl' : List (Str × Addr)) (fp : List Addr), PTs (X.blk s H scope (compEnvC scope cl' C X.env) fp) ifs (tCond W cl wx cond)
  he : ∀ (s : Shared) (H : Hp) (C : Addr) (cl' : List (Str × Addr)) (fp : List Addr), PE (X.blk s H scope (compEnvC scope cl' C X.env) fp) elt (tV W cl wx a)
  hs : ∀ x, foldedSetIterable it X.env x = pure x
theorem cComp_ok (G : Glo W mg base n cl g) (C : Cok W mg base n c X) {f f' : Expr → Option CE} {elt : Expr} {gens : List Comprehension} {scope : Scope} {code : CE} (hf : ∀ e a, f e = some a → SE W cl wx X a e)
    (hf' : ∀ e a, f' e = some a → ∀ Y, Cok W mg base n { c with sc := scope.names } Y → SE W cl wx Y a e) (h : cComp g c f f' elt gens scope = some code) :
    ∃ tg it ifs vs is i cond a, gens = [⟨tg, it, ifs, 0⟩] ∧ code = .comp vs is i cond a ∧ CompOk W cl wx X vs is i cond a elt tg it ifs scope := by
  match gens, h with
  | [], h => cases h
  | a :: _ :: _, h =>
    cases a
    cases h
  | [⟨tg, it, ifs, as⟩], h =>
    obtain ⟨h1, h⟩ := need_then h
    obtain ⟨i, h2, h⟩ := bind_some h
    obtain ⟨is, h3, h⟩ := bind_some h
    obtain ⟨h4, h⟩ := need_then h
    obtain ⟨cond, h5, h⟩ := bind_some h
    obtain ⟨a, h6, h⟩ := bind_some h
    cases h
    simp only [Bool.and_eq_true, decide_eq_true_eq] at h1
    obtain ⟨rfl, hb⟩ := h1
    have ok := blkOk_ok C hb
    obtain ⟨hi, hs⟩ := cI_ok G C hf h2
    refine ⟨tg, it, ifs, _, is, i, cond, a, rfl, rfl, hi, ok, fun k hk => ?_, fun s H D cl' fp => cTg_ok (C.blk ok.kind s H D cl' fp) h3, fun s H D cl' fp => ?_, fun s H D cl' fp => (hf' elt a h6 _ (C.blk ok.kind s H D cl' fp)).v, hs⟩
    · have := (List.all_eq_true.mp h4) k hk
      simpa using this
    · match ifs, h5 with
      | [], h5 =>
        cases h5
        exact pts_cond0
      | [e], h5 =>
        obtain ⟨b, k1, k2⟩ := bind_some h5
        obtain ⟨k3, k4⟩ := need_then k2
        cases k4
        exact pts_cond (not_true k3) (hf' e _ k1 _ (C.blk ok.kind s H D cl' fp)).t
      | _ :: _ :: _, h5 => cases h5
theorem CompOk.se (C : Cok W mg base n c X) {vs : List (Str × Nat)} {is : List Nat} {i cond a : CE} {elt tg it : Expr} {ifs : List Expr} {scope : Scope} (h : CompOk W cl wx X vs is i cond a elt tg it ifs scope) : SE W cl wx X (.comp vs is i cond a) (.ListComp elt [⟨tg, it, ifs, 0⟩] scope pos) :=
  se_comp C.hW C.calm C.nd' h.hi h.ok h.htg h.hg h.ht h.he h.hs
theorem mark_ok {op : CmpOp} {e : Expr} (h : isSet e = false) : behindInMarks op e = false := by
  cases e <;> first | rfl | cases h
theorem bin_ok (C : Cok W mg base n c X) {op : Operator} {o : BOp} {x y : CE} {a b : Expr} (ho : bopOf op = some o) (h1 : SE W cl wx X x a) (h2 : SE W cl wx X y b) : SE W cl wx X (.bin o x y) (.BinOp a op b pos) := by
  have eK : X.K = W.K := by rw [C.hW]
  cases op <;> cases ho
  · exact se_bin C.hW h1 h2 op_addD (by rw [eK]; exact addD_ok)
  · exact se_bin C.hW h1 h2 op_sub subD_ok
  · exact se_bin C.hW h1 h2 op_mulD mulD_ok
  · exact se_bin C.hW h1 h2 op_mod modD_ok
  · exact se_bin C.hW h1 h2 op_pow powD_ok
  · exact se_bin C.hW h1 h2 op_fdiv fdivD_ok
theorem cop_ok (C : Cok W mg base n c X) {op : CmpOp} {o : COp} (ho : copOf op = some o) : ∃ rd, OpR X (compareOp op) rd ∧ CmD W rd (cmpD o) := by
  have eK : X.K = W.K := by rw [C.hW]
  have hu := C.u65
  cases op <;> cases ho
  · exact ⟨_, op_eqD (by omega), by rw [eK]; exact eqD_ok⟩
  · exact ⟨_, op_neD (by omega), by rw [eK]; exact neD_ok⟩
  · exact ⟨_, op_ltD hu, by rw [eK]; exact ltD_ok⟩
  · exact ⟨_, op_le, ordD_ok fun _ _ => rfl⟩
  · exact ⟨_, op_gt, ordD_ok fun _ _ => rfl⟩
  · exact ⟨_, op_ge, ordD_ok fun _ _ => rfl⟩
  · refine ⟨_, op_inD2 C.hW hu, ?_⟩
    have := inD_ok (W := W) id
    intro O H v u d e b Q q1 q2 hb k
    exact this O H v u d e b Q q1 q2 (show (inD d e).map id = some b by rw [Option.map_id]; exact hb) k
  · exact ⟨_, op_notInD2 C.hW hu, inD_ok (!·)⟩
theorem cDeq_ok (G : Glo W mg base n cl g) (C : Cok W mg base n c X) {f : Expr → Option CE} (hf : ∀ e a, f e = some a → SE W cl wx X a e) {a : Expr} {ops : List CmpOp} {bs : List Expr} {code : CE} {p : Pos} (h : cDeq g f a ops bs = some code) : SE W cl wx X code (.Compare a ops bs p) := by
  unfold cDeq at h
  split at h
  · obtain ⟨h1, h⟩ := need_then h
    obtain ⟨ms, h2, h⟩ := bind_some h
    obtain ⟨x, h3, h⟩ := bind_some h
    obtain ⟨y, h4, h⟩ := bind_some h
    cases h
    exact se_deq C.hW (hf _ _ h3) (hf _ _ h4) C.room C.gd (dunMs_ok G C h2) (mark_ok (not_true (Bool.and_eq_true_iff.mp h1).2))
  · obtain ⟨h1, h⟩ := need_then h
    obtain ⟨ms, h2, h⟩ := bind_some h
    obtain ⟨x, h3, h⟩ := bind_some h
    obtain ⟨y, h4, h⟩ := bind_some h
    cases h
    exact se_dne C.hW (hf _ _ h3) (hf _ _ h4) C.room1 C.gd (dunMs_ok G C h2) (mark_ok (not_true (Bool.and_eq_true_iff.mp h1).2))
  · cases h
theorem cItm_ok (G : Glo W mg base n cl g) (C : Cok W mg base n c X) {f : Expr → Option CE} (hf : ∀ e a, f e = some a → SE W cl wx X a e) {a b : Expr} {code : CE} {p : Pos} (h : cItm g f a b = some code) : SE W cl wx X code (.Subscript a b p) := by
  obtain ⟨h1, h⟩ := need_then h
  obtain ⟨ms, h2, h⟩ := bind_some h
  obtain ⟨x, h3, h⟩ := bind_some h
  obtain ⟨y, h4, h⟩ := bind_some h
  cases h
  refine se_ditm C.hW (hf _ _ h3) (hf _ _ h4) C.room1 C.gd (fun Ci fi e => (dunMs_ok G C h2 Ci fi e).1) fun o i => ?_
  have hs := not_true (Bool.and_eq_true_iff.mp h1).2
  cases b <;> first | rfl | cases hs
theorem cLen_ok (G : Glo W mg base n cl g) (C : Cok W mg base n c X) {f : Expr → Option CE} (hf : ∀ e a, f e = some a → SE W cl wx X a e) {fn : Expr} {args : List Expr} {code : CE} {p : Pos} (h : cLen g c f fn args = some code) : SE W cl wx X code (.Call fn args [] p) := by
  unfold cLen at h
  split at h
  · obtain ⟨h1, h⟩ := need_then h
    obtain ⟨ms, h2, h⟩ := bind_some h
    obtain ⟨a, h3, h⟩ := bind_some h
    cases h
    simp only [Bool.and_eq_true, decide_eq_true_eq] at h1
    obtain ⟨⟨⟨⟨k1, k2⟩, rfl⟩, k4⟩, k5⟩ := h1
    obtain ⟨g1, g2⟩ := C.glo k4
    have hm : X.mg "len" = none := by
      rw [C.mg]
      exact G.blt _ k5
    exact se_dlen C.hW (hf _ _ h3) C.room1 C.gd (fun Ci fi e => (dunMs_ok G C h2 Ci fi e).1) g1 hm (star_ok (not_true k2))
  · cases h
theorem cE_ok (G : Glo W mg base n cl g) : ∀ (m : Nat) (c : Cc) (e : Expr) (code : CE), cE g m c e = some code → ∀ X, Cok W mg base n c X → SE W cl wx X code e
  | 0, c, e, code, h, X, C => by cases h
  | m + 1, c, e, code, h, X, C => by
    have hf : ∀ e a, cE g m c e = some a → SE W cl wx X a e := fun e a h => cE_ok G m c e a h X C
    cases e with
    | Name x p => exact cName_ok G C h
    | Constant k j p =>
      obtain ⟨d, h1, rfl⟩ := Option.map_eq_some_iff.mp h
      exact se_lit C.hW h1
    | Tuple es k p =>
      obtain ⟨t, h1, rfl⟩ := Option.map_eq_some_iff.mp h
      exact se_tup C.hW (cL_ks hf h1)
    | List es p =>
      obtain ⟨t, h1, rfl⟩ := Option.map_eq_some_iff.mp h
      exact se_lst C.hW (cL_ks hf h1)
    | Dict ks vs p =>
      obtain ⟨h1, h⟩ := need_then h
      obtain ⟨t, h2, h⟩ := bind_some h
      cases h
      simp only [Bool.and_eq_true] at h1
      obtain ⟨i1, i2, i3, i4⟩ := cPairs_ok (pos := p) hf h2
      refine se_dct C.hW i1 i2 i3 (fun z => ?_) (Nat.le_of_ble_eq_true h1.2) i4
      have := h1.1
      rw [z] at this
      cases this
    | BinOp a op b p =>
      obtain ⟨o, h1, h⟩ := bind_some h
      obtain ⟨x, h2, h⟩ := bind_some h
      obtain ⟨y, h3, h⟩ := bind_some h
      cases h
      exact bin_ok C h1 (hf a x h2) (hf b y h3)
    | UnaryOp op a p =>
      obtain ⟨x, h2, h⟩ := bind_some h
      cases op <;> cases h
      · exact se_not (hf a x h2)
      · exact se_neg C.hW (hf a x h2)
    | Compare a ops bs p =>
      rcases orElse_ok h with h | h
      · exact cDeq_ok G C hf h
      obtain ⟨x, h2, h⟩ := bind_some h
      match ops, bs, h with
      | [], _, h => cases h
      | [_], [], h => cases h
      | [_], _ :: _ :: _, h => cases h
      | [_, _], [], h => cases h
      | [_, _], [_], h => cases h
      | [_, _], _ :: _ :: _ :: _, h => cases h
      | _ :: _ :: _ :: _, _, h => cases h
      | [op, op'], [b, d], h =>
        obtain ⟨h3, h⟩ := need_then h
        obtain ⟨o, h4, h⟩ := bind_some h
        obtain ⟨o', h5, h⟩ := bind_some h
        obtain ⟨y, h6, h⟩ := bind_some h
        obtain ⟨z, h7, h⟩ := bind_some h
        cases h
        obtain ⟨r1, k1, k2⟩ := cop_ok C h4
        obtain ⟨r2, k3, k4⟩ := cop_ok C h5
        exact se_chn (hf a x h2) (hf b y h6) (hf d z h7) k1 k3 k2 k4 (mark_ok (not_true h3))
      | [op], [b], h =>
        have gen : ∀ op, ((do
            need (!isSet b)
            let o ← copOf op
            let y ← cE g m c b
            some (CE.cmp o x y)) : Option CE) = some code → SE W cl wx X code (.Compare a [op] [b] p) := fun op h => by
          obtain ⟨h3, h⟩ := need_then h
          obtain ⟨o, h4, h⟩ := bind_some h
          obtain ⟨y, h6, h⟩ := bind_some h
          cases h
          obtain ⟨r1, k1, k2⟩ := cop_ok C h4
          exact se_cmp (hf a x h2) (hf b y h6) k1 k2 (mark_ok (not_true h3))
        cases op with
        | Is =>
          have h : cIs x b = some code := h
          unfold cIs at h
          split at h
          · cases h
            exact se_isN (hf a x h2)
          · cases h
            exact se_isB (hf a x h2)
          · cases h
        | IsNot =>
          have h : cNt x b = some code := h
          unfold cNt at h
          split at h
          · cases h
            exact se_notN (hf a x h2)
          · cases h
            exact se_ntB (hf a x h2)
          · cases h
        | _ => exact gen _ h
    | BoolOp op es p =>
      cases op with
      | And =>
        obtain ⟨h1, h⟩ := need_then h
        obtain ⟨i1, i2⟩ := cAnd_ok (pos := p) hf h
        exact se_bool (i2 (Nat.le_of_ble_eq_true h1)) i1
      | Or =>
        obtain ⟨h1, h⟩ := need_then h
        obtain ⟨i1, i2⟩ := cOr_ok (pos := p) hf h
        exact se_bool (i2 (Nat.le_of_ble_eq_true h1)) i1
    | IfExp t a b p =>
      obtain ⟨x, h1, h⟩ := bind_some h
      obtain ⟨y, h2, h⟩ := bind_some h
      obtain ⟨z, h3, h⟩ := bind_some h
      cases h
      exact se_ife (hf t x h1) (hf a y h2) (hf b z h3)
    | Subscript a b p =>
      rcases orElse_ok h with h | h
      · exact cItm_ok G C hf h
      have h : cSub (cE g m c) a b = some code := h
      unfold cSub at h
      split at h
      · obtain ⟨x, h1, h⟩ := bind_some h
        obtain ⟨l, h2, h⟩ := bind_some h
        obtain ⟨u, h3, h⟩ := bind_some h
        cases h
        exact se_slc C.hW (hf a x h1) (cO_ok hf h2) (cO_ok hf h3)
      · obtain ⟨x, h1, h⟩ := bind_some h
        obtain ⟨l, h2, h⟩ := bind_some h
        cases h
        exact se_slc2 C.hW (hf a x h1) (cO_ok hf h2)
      · rename_i lo hi st p2
        obtain ⟨h0, h⟩ := need_then h
        obtain ⟨x, h1, h⟩ := bind_some h
        cases h
        simp only [Bool.and_eq_true, Option.isNone_iff_eq_none] at h0
        obtain ⟨⟨rfl, rfl⟩, h0⟩ := h0
        unfold isM1 at h0
        split at h0
        · exact se_rev C.hW (hf a x h1)
        · cases h0
      · rename_i hn1 hnx hn2
        obtain ⟨x, h2, h⟩ := bind_some h
        obtain ⟨y, h3, h⟩ := bind_some h
        cases h
        refine se_idx C.hW C.u65 (hf a x h2) (hf b y h3) ?_
        cases b with
        | Slice lo hi st p2 =>
          cases st with
          | none => exact (hn1 lo hi p2 rfl).elim
          | some s => exact (hn2 lo hi s p2 rfl).elim
        | _ => exact fun _ _ => rfl
    | Attribute a x p =>
      obtain ⟨Cs, h1, h⟩ := bind_some h
      obtain ⟨h2, h⟩ := need_then h
      obtain ⟨r, h3, h⟩ := bind_some h
      cases h
      exact se_fld C.hW (hf a r h3) h2 (G.fld x Cs h1)
    | Call fn args kws p =>
      cases kws with
      | nil =>
        rcases orElse_ok h with h | h
        · exact cLen_ok G C hf h
        exact cCall_ok G C hf h
      | cons => cases h
    | ListComp elt gens scope p =>
      obtain ⟨tg, it, ifs, vs, is, i, cond, a, rfl, rfl, q⟩ := cComp_ok G C hf (fun e a h Y CY => cE_ok G m _ e a h Y CY) h
      exact q.se C
    | _ => cases h
/-! ### statements -/
theorem sw_comp {elt : Expr} {gs : List Comprehension} {scope : Scope} {p py : Pos} {y : Str} {l : Nat} {env : PySem.Env} : swapsWith (.ListComp elt gs scope p) (some (.Name y py)) l env = pure (env.blockKind == .function && env.kindOf y == some .local && py.line == p.line && !(scope.names.any fun (n, k) => n == y && (k == .local || k == .cell))) := rfl
theorem sw_plain {e : Expr} {t : Option Expr} {l : Nat} {env : PySem.Env} (h : isComp e = false) : swapsWith e t l env = pure false := by
  cases e <;> first | rfl | cases h
theorem sw_sub {e o i : Expr} {p : Pos} {l : Nat} {env : PySem.Env} : swapsWithSole [.Subscript o i p] e l env = pure false := by
  cases e <;> rfl
theorem sw_tup {e : Expr} {es : List Expr} {k : Nat} {p : Pos} {l : Nat} {env : PySem.Env} : swapsWithSole [.Tuple es k p] e l env = pure false := by
  cases e <;> rfl
theorem st_sub {e o i : Expr} {p : Pos} {env : PySem.Env} : swappedStores [.Subscript o i p] e env = pure none := by
  cases e <;> rfl
theorem st_plain {e : Expr} {es : List Expr} {k : Nat} {p : Pos} {env : PySem.Env} (h : isTup e = false) : swappedStores [.Tuple es k p] e env = pure none := by
  cases e <;> first | rfl | cases h
theorem st_two {e o i o2 i2 : Expr} {k : Nat} {p p1 p2 : Pos} {env : PySem.Env} : swappedStores [.Tuple [.Subscript o i p1, .Subscript o2 i2 p2] k p] e env = pure none := by
  cases e <;> first | rfl | skip
  unfold swappedStores
  simp only [List.length_cons, List.length_nil, List.filterMap_cons, List.filterMap_nil]
  split
  · rfl
  · split
    · rfl
    · rfl
theorem st_par {a b : Expr} {x y : Str} {px py pt pt2 : Pos} {kt k2 : Nat} {env : PySem.Env} (hb : env.blockKind = .function) (hx : env.kindOf x = some .local) (hy : env.kindOf y = some .local) (hl : (py.line == px.line) = true) (hxy : x ≠ y) (ha : isStar a = false) (hb2 : isStar b = false)
    (h1 : (foldedForSure 8 a && foldedForSure 8 b) = false) (h2 : (constantsAlone 8 a && constantsAlone 8 b) = false) : swappedStores [.Tuple [.Name x px, .Name y py] kt pt] (.Tuple [a, b] k2 pt2) env = pure (some [x, y]) := by
  have e1 : ∀ e : Expr, isStar e = false → (match e with | .Starred .. => true | _ => false) = false := fun e h => by cases e <;> first | rfl | cases h
  have ed : [x, y].eraseDups.length = 2 := by
    have hyx : (y == x) = false := by simpa using fun z => hxy z.symm
    simp [List.eraseDups_cons, hyx]
  have f1 : ([a, b].all (foldedForSure 8)) = false := by simpa [List.all_cons] using h1
  have f2 : ([a, b].all (constantsAlone 8)) = false := by simpa [List.all_cons] using h2
  unfold swappedStores
  simp only [hb, f1, f2]
  simp only [List.filterMap_cons, List.filterMap_nil, hx, hy]
  simp [Expr.pos, hl]
  rw [if_neg, if_pos ed]
  rintro (z | z)
  · have q : true = false := z.symm.trans (e1 a ha)
    cases q
  · have q : true = false := z.symm.trans (e1 b hb2)
    cases q
theorem st_par3 {a b d : Expr} {x y z : Str} {px py pz pt pt2 : Pos} {kt k2 : Nat} {env : PySem.Env} (hb : env.blockKind = .function) (hx : env.kindOf x = some .local) (hy : env.kindOf y = some .local) (hz : env.kindOf z = some .local) (hl : (py.line == px.line) = true) (hl2 : (pz.line == px.line) = true)
    (hxy : x ≠ y) (hxz : x ≠ z) (hyz : y ≠ z) (ha : isStar a = false) (hb2 : isStar b = false) (hd : isStar d = false) (h1 : (foldedForSure 8 a && foldedForSure 8 b && foldedForSure 8 d) = false) (h2 : (constantsAlone 8 a && constantsAlone 8 b && constantsAlone 8 d) = false) :
    swappedStores [.Tuple [.Name x px, .Name y py, .Name z pz] kt pt] (.Tuple [a, b, d] k2 pt2) env = pure (some [x, y, z]) := by
  have e1 : ∀ e : Expr, isStar e = false → (match e with | .Starred .. => true | _ => false) = false := fun e h => by cases e <;> first | rfl | cases h
  have ed : [x, y, z].eraseDups.length = 3 := by
    have n1 : (y == x) = false := by simpa using fun q => hxy q.symm
    have n2 : (z == x) = false := by simpa using fun q => hxz q.symm
    have n3 : (z == y) = false := by simpa using fun q => hyz q.symm
    simp [List.eraseDups_cons, n1, n2, n3]
  have f1 : ([a, b, d].all (foldedForSure 8)) = false := by simpa [List.all_cons, Bool.and_assoc] using h1
  have f2 : ([a, b, d].all (constantsAlone 8)) = false := by simpa [List.all_cons, Bool.and_assoc] using h2
  unfold swappedStores
  simp only [hb, f1, f2]
  simp only [List.filterMap_cons, List.filterMap_nil, hx, hy, hz]
  simp [Expr.pos, hl, hl2]
  rw [if_neg, if_pos ed]
  rintro (q | q | q)
  · have q : true = false := q.symm.trans (e1 a ha)
    cases q
  · have q : true = false := q.symm.trans (e1 b hb2)
    cases q
  · have q : true = false := q.symm.trans (e1 d hd)
    cases q
theorem st_cell (C : Cok W mg base n c X) {es vs : List Expr} {k k2 : Nat} {p p2 : Pos} (h : es.any (notLoc c) = true) : swappedStores [.Tuple es k p] (.Tuple vs k2 p2) X.env = pure none := by
  have short : ∀ (line : Nat), (es.filterMap fun
      | .Name id pos => if X.env.kindOf id == some NameKind.local && pos.line == line then some id else none
      | _ => none).length < es.length := fun line => by
    obtain ⟨e, he, hn⟩ := List.any_eq_true.mp h
    have le : ∀ l : List Expr, (l.filterMap fun
      | .Name id pos => if X.env.kindOf id == some NameKind.local && pos.line == line then some id else none
      | _ => none).length ≤ l.length := fun l => List.length_filterMap_le ..
    obtain ⟨a, b, rfl⟩ := List.append_of_mem he
    rw [List.filterMap_append, List.length_append, List.length_append, List.filterMap_cons]
    have z : (match (match e with
      | .Name id pos => if X.env.kindOf id == some NameKind.local && pos.line == line then some id else none
      | _ => none) with
      | none => true
      | some _ => false) = true := by
      cases e with
      | Name x px =>
        have hx : ¬ c.sc.lookup x = some .local := by simpa [notLoc] using hn
        have hk : (X.env.kindOf x == some .local) = false := by
          have : ¬ X.env.scope.names.lookup x = some .local := by
            rcases C.look x with e | ⟨e1, e2⟩
            · rw [e]
              exact hx
            · rw [e2]
              simp
          simpa [Env.kindOf] using this
        simp [hk]
      | _ => cases hn
    have la := le a
    have lb := le b
    split at z
    · rename_i hz
      rw [hz]
      simp only [List.length_cons]
      omega
    · cases z
  unfold swappedStores
  simp only
  split
  · rfl
  split
  · rfl
  rw [if_pos]
  · have := short ((es.head?.map (·.pos.line)).getD 0)
    simp only [bne_iff_ne, Bool.or_eq_true, ne_eq]
    left
    exact Nat.ne_of_lt this
theorem cL_fs {f : Expr → Option CE} (hf : ∀ e a, f e = some a → SE W cl wx X a e) : ∀ {es : List Expr} {t : CE}, cL f es = some t → PA X es (tFs W cl wx t)
  | [], t, h => by
    cases h
    exact fs_nil
  | e :: es, t, h => by
    obtain ⟨h1, h⟩ := need_then h
    obtain ⟨a, h2, h⟩ := bind_some h
    obtain ⟨b, h3, h⟩ := bind_some h
    cases h
    exact fs_cons (hf e a h2) (cL_fs hf h3) (star_ok (not_true h1))
theorem Cok.bk (C : Cok W mg base n c X) : X.env.blockKind = .function := by
  unfold Env.blockKind
  rw [C.kd]
  rfl
theorem each_one {e : Expr} {env : PySem.Env} (h : isStar e = false) : (assignEach [e] env).map (·.2) = [assign e env] := by
  cases e <;> first | rfl | cases h
theorem no_slice {m : Nat} {ke : Expr} {b : CE} (h : cE g m c ke = some b) : isSlice ke = false := by
  cases m with
  | zero => cases h
  | succ m => cases ke <;> first | rfl | cases h
theorem sub_at (C : Cok W mg base n c X) {x : Str} {i : Nat} {k : CE} {ke : Expr} {p p2 : Pos} (h : c.vis x = some i) (hk : SE W cl wx X k ke) (hn : isSlice ke = false) : PG X (.Subscript (.Name x p) ke p2) (gSub (tVar i) (tR W cl wx k) (rPut W)) :=
  pg_at C.hW C.u65 (se_at C h) hk fun v => by cases ke <;> first | rfl | cases hn
theorem cAsg_ok (G : Glo W mg base n cl g) (C : Cok W mg base n c X) {m : Nat} {tg value : Expr} {code : CS} (h : cAsg g c (cE g m c) tg value = some code) : PS X (.Assign [tg] value pos) (tS W cl wx code) := by
  have hf : ∀ e a, cE g m c e = some a → SE W cl wx X a e := fun e a h => cE_ok G m c e a h X C
  unfold cAsg at h
  split at h
  · rename_i x p
    obtain ⟨i, h1, h⟩ := bind_some h
    obtain ⟨h2, h⟩ := need_then h
    obtain ⟨a, h3, h⟩ := bind_some h
    cases h
    obtain ⟨k1, k2, k3⟩ := C.loc h1
    by_cases hc : isComp value = true
    · cases value with
      | ListComp elt gens scope vp =>
        cases m with
        | zero => cases h3
        | succ m =>
          obtain ⟨tg, it, ifs, vs, is, ci, cond, b, rfl, rfl, q⟩ := cComp_ok (f := cE g m c) (f' := cE g m { c with sc := scope.names }) (wx := wx) G C (fun e a h => cE_ok G m c e a h X C) (fun e a h Y CY => cE_ok G m _ e a h Y CY) h3
          have e := @sw_comp elt [⟨tg, it, ifs, 0⟩] scope vp p x pos.line X.env
          cases hb : (X.env.blockKind == .function && X.env.kindOf x == some .local && p.line == vp.line && !(scope.names.any fun (n, k) => n == x && (k == .local || k == .cell))) with
          | true =>
            rw [hb] at e
            simp only [Bool.and_eq_true, beq_iff_eq] at hb
            exact ss_setLc C.calm C.nd' k1 hb.1.1.2 e q.hi q.ok q.htg q.hg q.ht q.he q.hs
          | false =>
            rw [hb] at e
            exact ss_set C.nd' k1 k2 k3 (q.se C) e
      | SetComp => cases h2
      | DictComp => cases h2
      | _ => cases hc
    · exact ss_set C.nd' k1 k2 k3 (hf value a h3) (sw_plain (by simpa using hc))
  · rename_i x p m2 p2
    obtain ⟨i, h1, h⟩ := bind_some h
    obtain ⟨Cs, h2, h⟩ := bind_some h
    obtain ⟨h3, h⟩ := need_then h
    obtain ⟨a, h4, h⟩ := bind_some h
    cases h
    exact ss_fput C.hW (se_at C h1) (hf value a h4) (G.fld m2 Cs h2) (sw_plain (not_true h3))
  · rename_i x p ke p2
    obtain ⟨i, h1, h⟩ := bind_some h
    obtain ⟨a, h2, h⟩ := bind_some h
    obtain ⟨b, h3, h⟩ := bind_some h
    cases h
    exact ss_put (sub_at C h1 (hf ke b h3) (no_slice h3)) (hf value a h2) sw_sub st_sub rfl
  · rename_i x p1 ke p2 y p3 le p4 kt pt
    obtain ⟨i, h1, h⟩ := bind_some h
    obtain ⟨j, h2, h⟩ := bind_some h
    obtain ⟨a, h3, h⟩ := bind_some h
    obtain ⟨b, h4, h⟩ := bind_some h
    obtain ⟨d, h5, h⟩ := bind_some h
    cases h
    exact ss_put2 C.hW C.calm (sub_at C h1 (hf ke b h4) (no_slice h4)) (sub_at C h2 (hf le d h5) (no_slice h5)) (hf value a h3) sw_tup st_two rfl rfl rfl rfl rfl
  · rename_i es kt pt hn
    split at h
    · rename_i vs kv pv
      split at h
      · rename_i hnl
        obtain ⟨is, h1, h⟩ := bind_some h
        obtain ⟨t, h2, h⟩ := bind_some h
        cases h
        exact ss_unpT (cL_fs hf h2) (pg_names C h1) sw_tup (st_cell C hnl) rfl
      split at h
      · rename_i x px y py a b hnn
        obtain ⟨h1, h⟩ := need_then h
        obtain ⟨i, h2, h⟩ := bind_some h
        obtain ⟨j, h3, h⟩ := bind_some h
        obtain ⟨u, h4, h⟩ := bind_some h
        obtain ⟨v, h5, h⟩ := bind_some h
        obtain ⟨h6, h⟩ := need_then h
        cases h
        simp only [Bool.and_eq_true, decide_eq_true_eq] at h1
        obtain ⟨⟨⟨⟨⟨⟨⟨q1, q2⟩, q3⟩, q4⟩, q5⟩, q6⟩, q7⟩, q8⟩ := h1
        have hij : i ≠ j := by
          intro z
          rw [z] at h6
          simp at h6
        have hxy : x ≠ y := by
          intro z
          rw [z] at q4
          simp at q4
        exact ss_par C.calm C.nd' (C.loc h2).1 (C.loc h3).1 hij (C.isLocal q1) (C.isLocal q2) (hf a u h4) (hf b v h5) (star_ok (not_true q5)) (star_ok (not_true q6))
          (st_par C.bk (C.isLocal q1) (C.isLocal q2) q3 hxy (not_true q5) (not_true q6) (not_true q7) (not_true q8)) sw_tup
      · rename_i x px y py z pz a b d hnn
        obtain ⟨h1, h⟩ := need_then h
        obtain ⟨i, h2, h⟩ := bind_some h
        obtain ⟨j, h3, h⟩ := bind_some h
        obtain ⟨l, h4, h⟩ := bind_some h
        obtain ⟨u, h5, h⟩ := bind_some h
        obtain ⟨v, h6, h⟩ := bind_some h
        obtain ⟨w, h7, h⟩ := bind_some h
        obtain ⟨h8, h⟩ := need_then h
        cases h
        simp only [Bool.and_eq_true, Bool.not_eq_true', decide_eq_true_eq, decide_eq_false_iff_not] at h1 h8
        obtain ⟨⟨⟨⟨⟨⟨⟨⟨⟨⟨⟨⟨q1, q2⟩, q3⟩, q4⟩, q5⟩, q6⟩, q7⟩, q8⟩, q9⟩, q10⟩, q11⟩, q12⟩, q13⟩ := h1
        exact ss_par3 C.calm C.nd' (C.loc h2).1 (C.loc h3).1 (C.loc h4).1 h8.1.1 h8.1.2 h8.2 (C.isLocal q1) (C.isLocal q2) (C.isLocal q3)
          (ks_cons (hf a u h5) (ks_cons (hf b v h6) (ks_cons (hf d w h7) ks_nil (star_ok q11)) (star_ok q10)) (star_ok q9))
          (st_par3 C.bk (C.isLocal q1) (C.isLocal q2) (C.isLocal q3) q4 q5 q6 q7 q8 q9 q10 q11 q12 q13) sw_tup
      · cases h
    · rename_i hv
      obtain ⟨is, h1, h⟩ := bind_some h
      have ht : isTup value = false := by
        cases value with
        | Tuple es k p => exact absurd rfl (hv es k p)
        | _ => rfl
      split at h
      · rename_i i x t hts
        cases h
        unfold cTs at hts
        split at hts
        · rename_i x' p' e' es' p2'
          obtain ⟨k1, hts⟩ := need_then hts
          obtain ⟨i', k2, hts⟩ := bind_some hts
          obtain ⟨t', k3, hts⟩ := bind_some hts
          cases hts
          simp only [Bool.and_eq_true] at k1
          obtain ⟨s1, s2⟩ := cL_head (pos := p2') (env := X.env) k3
          obtain ⟨fa, fd, ps, F, m', kk, b⟩ := G.fn x i k2
          obtain ⟨g1, g2⟩ := C.glo k1.1
          refine ss_unpC (W := W) (cl := cl) (fi := i) (x := x) (c := t) ?_ (pg_names C h1) sw_tup (st_plain ht) rfl
          have eW := C.hW
          have em := C.mg
          have eb := C.base
          subst eW em eb
          exact pe_callG F C.room C.gd g1 m' kk b (cL_as hf k3) g2 s1 s2
        · cases hts
      · obtain ⟨a, h2, h⟩ := bind_some h
        cases h
        exact ss_unp (hf value a h2) (pg_names C h1) sw_tup (st_plain ht) rfl
  · cases h
theorem cSs_ok {f : Stmt → Option CS} (hf : ∀ s a, f s = some a → PS X s (tS W cl wx a)) : ∀ {ss : List Stmt} {t : CS}, cSs f ss = some t → PSs X ss (tS W cl wx t)
  | [], t, h => by
    cases h
    exact ss_nil
  | s :: ss, t, h => by
    obtain ⟨a, h1, h⟩ := bind_some h
    obtain ⟨b, h2, h⟩ := bind_some h
    cases h
    exact ss_cons (hf s a h1) (cSs_ok hf h2)
theorem cS_ok (G : Glo W mg base n cl g) (C : Cok W mg base n c X) {k : Nat} : ∀ (m : Nat) (s : Stmt) (code : CS), cS g k m c s = some code → PS X s (tS W cl wx code)
  | 0, s, code, h => by cases h
  | m + 1, s, code, h => by
    have he : ∀ e a, cE g k c e = some a → SE W cl wx X a e := fun e a h => cE_ok G k c e a h X C
    have hs : ∀ {ss t}, cSs (cS g k m c) ss = some t → PSs X ss (tS W cl wx t) := fun h => cSs_ok (fun s a h => cS_ok G C m s a h) h
    cases s with
    | Pass p =>
      cases h
      exact ss_pass
    | Expr e p =>
      obtain ⟨h1, h⟩ := need_then h
      obtain ⟨a, h2, h⟩ := bind_some h
      cases h
      exact ss_expr (he e a h2) (sw_plain (not_true h1))
    | Return o p =>
      cases o with
      | none =>
        cases h
        exact ss_retN
      | some e =>
        have gen : (do
            let a ← cE g k c e
            some (CS.ret a) : Option CS) = some code → PS X (.Return (some e) p) (tS W cl wx code) := fun h => by
          obtain ⟨a, h2, h⟩ := bind_some h
          cases h
          exact ss_ret (he e a h2)
        cases e with
        | Tuple es kk p2 =>
          have h : (if es.any isRev = true then (do
              let t ← cL (cE g k c) es
              some (CS.retT t) : Option CS)
            else do
              let a ← cE g k c (.Tuple es kk p2)
              some (.ret a)) = some code := h
          split at h
          · obtain ⟨t, h2, h⟩ := bind_some h
            cases h
            exact ss_retT (cL_fs he h2)
          · exact gen h
        | _ => exact gen h
    | AugAssign tg op e p =>
      cases tg with
      | Name x p2 =>
        cases op with
        | Add =>
          obtain ⟨i, h1, h⟩ := bind_some h
          obtain ⟨a, h2, h⟩ := bind_some h
          cases h
          obtain ⟨k1, k2, k3⟩ := C.loc h1
          exact ss_aug C.nd' k1 k2 k3 (he e a h2)
        | _ => cases h
      | _ => cases h
    | Raise a b p =>
      cases h
      exact ss_never
    | Assign tgs value p =>
      match tgs, h with
      | [], h => cases h
      | [tg], h => exact cAsg_ok G C h
      | _ :: _ :: _, h => cases h
    | If t a b p =>
      obtain ⟨x, h1, h⟩ := bind_some h
      obtain ⟨y, h2, h⟩ := bind_some h
      obtain ⟨z, h3, h⟩ := bind_some h
      cases h
      exact ss_ifs (he t x h1) (hs h2) (hs h3)
    | While t a b p =>
      cases b with
      | cons => cases h
      | nil =>
        obtain ⟨x, h1, h⟩ := bind_some h
        obtain ⟨y, h2, h⟩ := bind_some h
        cases h
        exact ss_whl C.own (he t x h1) (hs h2)
    | For tg it a b p =>
      cases b with
      | cons => cases h
      | nil =>
        obtain ⟨i, h1, h⟩ := bind_some h
        obtain ⟨is, h2, h⟩ := bind_some h
        obtain ⟨y, h3, h⟩ := bind_some h
        have h : forOf g is i y = code := Option.some.inj h
        obtain ⟨k1, k2⟩ := cI_ok G C he h1
        unfold forOf at h
        split at h
        · rename_i k e1 e2
          subst h
          have k3 := cI_en G C he h1 e2
          have e3 := enumVar_inv e2
          subst e3
          exact ss_forsE C.hW C.own C.calm k1 k3 (cTg_ok C h2) (hs h3) k2
        · subst h
          exact ss_fors C.own C.calm k1 (cTg_ok C h2) (hs h3) k2
    | _ => cases h
/-! ### all defs of a module -/
/-- a def stands in K at f, and has that code -/
def DefK (W : Wd) (g : Gs) (fn : Fn) (f : Addr) : Prop := ∃ (name qual : Str) (params : Arguments) (body : List Stmt) (scope : Scope) (dV kV doc pm cdv ct oc : Value) (an od : Option Addr) (osl : Array (Option Value)) (N ps : List Str) (k m : Nat),
  W.K.lookup f = some ⟨oc, od, .func (PySem.W.fnOf name qual params body scope dV kV doc pm an cdv ct), osl⟩ ∧ PySem.W.codeIn W.K cdv qual = true ∧ FnScope N ps scope ∧ N.length = fn.ns ∧ ps.length = fn.np ∧
  cSs (cS g k m ⟨N, scope.names⟩) body = some fn.body ∧ Binds W.K (PySem.W.fnOf name qual params body scope dV kV doc pm an cdv ct) ps []
def wx0 : WX := fun _ _ _ _ => False
/-- what the head leaves, of one module -/
structure ModOk (W : Wd) (mg : Str → Option Value) (g : Gs) (tab : Nat → Option Fn) (ad : Nat → Addr) : Prop where
  con : ∀ x d, g.cs.lookup x = some d → ∃ u v, mg x = some u ∧ RelV v u ∧ Rp W (fun _ => none) v d
  blt : ∀ x, g.bs.contains x = true → mg x = none
  defs : ∀ i fn, tab i = some fn → fn.kls = none → DefK W g fn (ad i)
  glo : ∀ x i, g.fs.lookup x = some i → (∃ fn, tab i = some fn ∧ fn.kls = none) ∧ mg x = some (.ref (ad i)) ∧ PySem.W.keepIn W.K (.ref (ad i)) = true
  kls : ∀ x c C, g.ks.lookup x = some (c, C) → ∃ fn gI fnI, tab c = some fn ∧ fn.kls = some (C, gI) ∧ tab gI = some fnI ∧ fnI.kls = none ∧ mg x = some (.ref (ca W C)) ∧ KlsOk W.K (ca W C) ∧ Mk W.K (ca W C) (ad gI) ∧
    (∀ t : String, t ∈ ["NoneType", "str", "int", "bool", "tuple", "list", "dict"] → PySem.W.kitOne W.K (.type t) (.ref (ca W C)) = some false) ∧ (∀ C' ∈ g.ks.map (·.2.2), PySem.W.kitOne W.K (.ref (ca W C')) (.ref (ca W C)) = some (C' == C))
  fld : ∀ f Cs, g.fl.lookup f = some Cs → ∀ C ∈ Cs, NoAttr W.K (ca W C) f
  met : ∀ m ms C f, g.ms.lookup m = some ms → ms.lookup C = some f → (∃ fn, tab f = some fn ∧ fn.kls = none) ∧ Cls W.K (ca W C) ∧ Meth W.K (ca W C) m (ad f)
  dun : ∀ C, g.du.contains C = true → DunK W (g.ks.map (·.2.2)) C
theorem ModOk.metf {W : Wd} {mg : Str → Option Value} {g : Gs} {tab : Nat → Option Fn} {ad : Nat → Addr} (M : ModOk W mg g tab ad) : ∀ m ms C f, g.ms.lookup m = some ms → ms.lookup C = some f → ∀ fa, Meth W.K (ca W C) m fa → PySem.W.fnIn W.K fa = true := by
  intro m ms C f h h2 fa hm
  obtain ⟨⟨fn, ht, hk⟩, k1, k2⟩ := M.met m ms C f h h2
  have e := hm.at_
  rw [k2.at_] at e
  cases e
  obtain ⟨name, qual, params, body, scope, dV, kV, doc, pm, cdv, ct, oc, an, od, osl, N, ps, k, m', h1, _⟩ := M.defs f fn ht hk
  unfold PySem.W.fnIn
  rw [h1]
theorem callN_kls {tab : Nat → Option Fn} {c C gI : Nat} {fn : Fn} (h : tab c = some fn) (hk : fn.kls = some (C, gI)) (n : Nat) (ds : List (Bool × D)) : callN tab (n + 1) c ds = made (callN tab n gI ((true, .ins C []) :: ds)) := by
  show (match tab c with
    | some fn => (match fn.kls with
      | none => callFn (callN tab n) fn ds
      | some (C, g) => made (callN tab n g ((true, .ins C []) :: ds)))
    | none => COut.no) = _
  rw [h]
  simp only [hk]
mutual
theorem glo_all {tab : Nat → Option Fn} {ad : Nat → Addr} (M : ModOk W mg g tab ad) : ∀ n, Glo W mg base n (callN tab n) g
  | 0 => ⟨M.con, fun x i h => by
      obtain ⟨⟨fn, ht, hk⟩, h7, h8⟩ := M.glo x i h
      obtain ⟨fd, ps, F, b⟩ := fng_all M 0 i fn ht hk
      exact ⟨ad i, fd, ps, F, h7, h8, b⟩, M.blt, fun x c C h => by
      obtain ⟨fn, gI, fnI, k1, k2, k3, k4, k5, k6, k7, k8, k9⟩ := M.kls x c C h
      exact ⟨k5, k8, k9, .inl fun ds => rfl⟩, M.fld, fun m ms C f h h2 => by
      obtain ⟨⟨fn, ht, hk⟩, k1, k2⟩ := M.met m ms C f h h2
      obtain ⟨fd, ps, F, b⟩ := fng_all M 0 f fn ht hk
      exact ⟨k1, ad f, fd, ps, k2, F, b⟩, M.metf, M.dun⟩
  | n + 1 => ⟨M.con, fun x i h => by
      obtain ⟨⟨fn, ht, hk⟩, h7, h8⟩ := M.glo x i h
      obtain ⟨fd, ps, F, b⟩ := fng_all M (n + 1) i fn ht hk
      exact ⟨ad i, fd, ps, F, h7, h8, b⟩, M.blt, fun x c C h => by
      obtain ⟨fn, gI, fnI, k1, k2, k3, k4, k5, k6, k7, k8, k9⟩ := M.kls x c C h
      obtain ⟨fd, ps, F, b⟩ := fng_all M n gI fnI k3 k4
      exact ⟨k5, k8, k9, .inr ⟨k6, callN tab n, gI, n, ad gI, fd, ps, rfl, callN_kls k1 k2 n, k7, F, b⟩⟩, M.fld, fun m ms C f h h2 => by
      obtain ⟨⟨fn, ht, hk⟩, k1, k2⟩ := M.met m ms C f h h2
      obtain ⟨fd, ps, F, b⟩ := fng_all M (n + 1) f fn ht hk
      exact ⟨k1, ad f, fd, ps, k2, F, b⟩, M.metf, M.dun⟩
theorem fng_all {tab : Nat → Option Fn} {ad : Nat → Addr} (M : ModOk W mg g tab ad) : ∀ n i fn, tab i = some fn → fn.kls = none → ∃ fd ps, FnG W.P W.w W.K mg base n (ad i) fd ps (spF W (callN tab n) i) ∧ Binds W.K fd ps []
  | 0, i, fn, ht, hk => by
    obtain ⟨name, qual, params, body, scope, dV, kV, doc, pm, cdv, ct, oc, an, od, osl, N, ps, k, m, h1, h2, h3, h4, h5, h6, h9⟩ := M.defs i fn ht hk
    exact ⟨_, ps, ⟨fun vs H Q E q => let ⟨_, _, _, z⟩ := q; z.elim, fun A outer s H args us vs Q E _ _ _ _ _ q => let ⟨_, _, _, z⟩ := q; z.elim⟩, h9⟩
  | n + 1, i, fn, ht, hk => by
    obtain ⟨name, qual, params, body, scope, dV, kV, doc, pm, cdv, ct, oc, an, od, osl, N, ps, k, m, h1, h2, h3, h4, h5, h6, h9⟩ := M.defs i fn ht hk
    refine ⟨_, ps, fn_ofG h1 h2 h3 (fun vs H Q E q => by rw [h5]; exact spF_len ht hk q) fun A outer s H vs Q E hr hgd q => ?_, h9⟩
    have hle : fn.np ≤ fn.ns := by
      have := congrArg List.length h3.pre
      rw [List.length_take] at this
      omega
    refine ⟨_, L2.PSs.nox (cSs_ok (wx := wx0) (fun s a h => cS_ok (glo_all M n) ?_ m s a h) h6), body_ok ht hk h4 hle q⟩
    exact ⟨rfl, rfl, rfl, h3.nd, hr, hgd, rfl, h3.kind, fun x => .inl rfl, fun x _ => rfl, rfl, rfl⟩
end
end
end Eg
/-! Eg23: the head's facts. -/
namespace Eg
open PySem PySem.Spec PyProof.Rows L2
theorem bind_names {α : Type} (pre : List (Str × α)) : ∀ (ns : List Str) (us : List α), ns.length = us.length → (∀ n ∈ ns, pre.lookup n = none) → ns.Nodup → ns.filterMap (fun n => ((pre ++ ns.zip us).lookup n).map fun v => (n, v)) = ns.zip us := by
  intro ns
  induction ns generalizing pre with
  | nil => intro us _ _ _; simp
  | cons n ns ih =>
    intro us hl hp hn
    cases us with
    | nil => simp at hl
    | cons u us =>
      rw [List.nodup_cons] at hn
      have e : pre ++ (n :: ns).zip (u :: us) = (pre ++ [(n, u)]) ++ ns.zip us := by simp
      have h0 : (pre ++ (n :: ns).zip (u :: us)).lookup n = some u := by
        rw [List.lookup_append, hp n (by simp)]
        simp [List.lookup_cons]
      rw [List.filterMap_cons, h0]
      simp only [Option.map_some, List.zip_cons_cons, List.cons.injEq, true_and]
      rw [show pre ++ (n, u) :: ns.zip us = (pre ++ [(n, u)]) ++ ns.zip us by simp]
      refine ih (pre ++ [(n, u)]) us (by simpa using hl) (fun m hm => ?_) hn.2
      rw [List.lookup_append, hp m (by simp [hm])]
      have : (m == n) = false := by
        rw [beq_eq_false_iff_ne]
        intro z
        rw [z] at hm
        exact hn.1 hm
      simp [List.lookup_cons, this]
theorem bind_plain {x qual : Str} {params : Arguments} {body : List Stmt} {scope : Scope} {kV doc pm cdv ct : Value} {an : Option Addr} {us : List Value} {ps : List Str} (h1 : params.posonlyargs = []) (h2 : params.vararg = none) (h3 : params.kwonlyargs = []) (h4 : params.kwarg = none) (hp : params.args.map (·.arg) = ps) (hn : ps.Nodup) (hl : us.length = ps.length) :
    bindArgs (PySem.W.fnOf x qual params body scope .none kV doc pm an cdv ct) ⟨us, []⟩ = pure (ps.zip us) := by
  have h := bind_names [] ps us hl.symm (fun _ _ => rfl) hn
  rw [List.nil_append] at h
  have inz : ∀ n ∈ ps, ∃ v, (n, v) ∈ ps.zip us := fun n hn2 => by
    have hi := List.idxOf_lt_length_of_mem hn2
    refine ⟨us[ps.idxOf n]'(by rw [hl]; exact hi), ?_⟩
    rw [List.mem_iff_getElem]
    exact ⟨ps.idxOf n, by simp; omega, by simp [List.getElem_idxOf hi]⟩
  have hs : seqItems? .none = pure none := rfl
  unfold bindArgs
  simp only [show (PySem.W.fnOf x qual params body scope .none kV doc pm an cdv ct).params = params from rfl, show (PySem.W.fnOf x qual params body scope .none kV doc pm an cdv ct).defaults = .none from rfl, h1, h2, h3, h4, hp, List.map_nil, List.nil_append, List.append_nil, hl, hs, pure_bind, List.forIn_nil]
  simp [h]
  intro y hy hz
  obtain ⟨v, e⟩ := inz y hy
  exact absurd e (hz v)
/-! ### facts of the module, read off the heap -/
mutual
/-- the value u is the datum d, by what K has -/
def rpB (K : PySem.W.Frag) : D → Value → Bool
  | .non, .none => true
  | .bl b, .bool c => b == c
  | .int i, .int j _ => decide (i = j)
  | .str x, .str y _ => decide (x = y)
  | .tup ds, .ref a => (match K.lookup a with
    | some ⟨.type c, _, .seq its _, _⟩ => decide (c = "tuple") && (Nat.ble its.size sizeLine && rpBL K ds its.toList)
    | _ => false)
  | .ct ds, .ref a => (match K.lookup a with
    | some ⟨.type c, none, .seq its _, _⟩ => decide (c = "tuple") && (Nat.ble its.size sizeLine && rpBL K ds its.toList)
    | _ => false)
  | _, _ => false
def rpBL (K : PySem.W.Frag) : List D → List Value → Bool
  | [], [] => true
  | d :: ds, u :: us => rpB K d u && rpBL K ds us
  | _, _ => false
end
mutual
theorem rpB_ok {W : Wd} : ∀ {d : D} {u : Value}, rpB W.K d u = true → ∃ v, RelV v u ∧ Rp W (fun _ => none) v d
  | .non, u, h => by
    cases u <;> first | exact ⟨.non, rfl, .non⟩ | cases h
  | .bl b, u, h => by
    cases u with
    | bool c =>
      have e : b = c := eq_of_beq h
      subst e
      exact ⟨.bl b, rfl, .bl b⟩
    | _ => cases h
  | .int i, u, h => by
    cases u with
    | int j t =>
      have e : i = j := of_decide_eq_true h
      subst e
      exact ⟨.int i, ⟨t, rfl⟩, .int i⟩
    | _ => cases h
  | .str i, u, h => by
    cases u with
    | str j t =>
      have e : i = j := of_decide_eq_true h
      subst e
      exact ⟨.str i, ⟨t, rfl⟩, .str i⟩
    | _ => cases h
  | .tup ds, u, h => by
    cases u with
    | ref a =>
      have h : (match W.K.lookup a with
        | some ⟨.type c, _, .seq its _, _⟩ => decide (c = "tuple") && (Nat.ble its.size sizeLine && rpBL W.K ds its.toList)
        | _ => false) = true := h
      cases q : W.K.lookup a with
      | none =>
        rw [q] at h
        cases h
      | some o =>
        obtain ⟨oc, od, dt, osl⟩ := o
        rw [q] at h
        cases oc with
        | type c =>
          cases dt with
          | seq its n =>
            have h : (decide (c = "tuple") && (Nat.ble its.size sizeLine && rpBL W.K ds its.toList)) = true := h
            simp only [Bool.and_eq_true, decide_eq_true_eq] at h
            obtain ⟨rfl, h2, h3⟩ := h
            obtain ⟨vs, r, l⟩ := rpBL_ok h3
            exact ⟨.ref a, rfl, .tup (.inr ⟨_, its, n, q, rfl, rfl, Nat.le_of_ble_eq_true h2, r⟩) l⟩
          | _ => cases h
        | _ => cases dt <;> cases h
    | _ => cases h
  | .ct ds, u, h => by
    cases u with
    | ref a =>
      have h : (match W.K.lookup a with
        | some ⟨.type c, none, .seq its _, _⟩ => decide (c = "tuple") && (Nat.ble its.size sizeLine && rpBL W.K ds its.toList)
        | _ => false) = true := h
      cases q : W.K.lookup a with
      | none =>
        rw [q] at h
        cases h
      | some o =>
        obtain ⟨oc, od, dt, osl⟩ := o
        rw [q] at h
        cases oc with
        | type c =>
          cases od with
          | none =>
            cases dt with
            | seq its n =>
              have h : (decide (c = "tuple") && (Nat.ble its.size sizeLine && rpBL W.K ds its.toList)) = true := h
              simp only [Bool.and_eq_true, decide_eq_true_eq] at h
              obtain ⟨rfl, h2, h3⟩ := h
              obtain ⟨vs, r, l⟩ := rpBL_ok h3
              exact ⟨.ref a, rfl, .ct ⟨_, its, n, q, rfl, rfl, rfl, Nat.le_of_ble_eq_true h2, r⟩ l⟩
            | _ => cases h
          | some b => cases dt <;> cases h
        | _ => cases od <;> cases dt <;> cases h
    | _ => cases h
  | .lst ds, u, h => by cases u <;> cases h
  | .dk ds, u, h => by cases u <;> cases h
  | .dw ds, u, h => by cases u <;> cases h
  | .ins C ds, u, h => by cases u <;> cases h
  | .dn ds, u, h => by cases u <;> cases h
  | .tp ds, u, h => by cases u <;> cases h
theorem rpBL_ok {W : Wd} : ∀ {ds : List D} {us : List Value}, rpBL W.K ds us = true → ∃ vs, Vals vs us ∧ RpL W (fun _ => none) vs ds
  | [], [], _ => ⟨[], .nil, .nil⟩
  | [], _ :: _, h => by cases h
  | _ :: _, [], h => by cases h
  | d :: ds, u :: us, h => by
    have h : (rpB W.K d u && rpBL W.K ds us) = true := h
    simp only [Bool.and_eq_true] at h
    obtain ⟨v, r, q⟩ := rpB_ok h.1
    obtain ⟨vs, rs, qs⟩ := rpBL_ok h.2
    exact ⟨v :: vs, .cons r rs, .cons q qs⟩
end
/-! dicts of the module -/
def dwE (K : PySem.W.Frag) : List (Key × D) → List DictEntry → Bool
  | [], [] => true
  | kv :: r, e :: es => keyIs kv.1 e.key && (rpB K kv.2 e.val && dwE K r es)
  | _, _ => false
def dwB (K : PySem.W.Frag) (kvs : List (Key × D)) (u : Value) : Bool := match u with
  | .ref a => (match K.lookup a with
    | some ⟨.type c, none, .dict es _, sl⟩ => decide (c = "dict") && (sl.isEmpty && (!(a == sysModules) && (Nat.ble kvs.length sizeLine && (dwE K kvs es.toList && decide (kvs.map (·.1)).Nodup))))
    | _ => false)
  | _ => false
def hsO (K : PySem.W.Frag) (u : Value) : List Int := match u with
  | .ref a => (match K.lookup a with
    | some ⟨_, _, .dict es _, _⟩ => es.toList.map (·.hash)
    | _ => [])
  | _ => []
def hK (w : World) : Key → Int
  | .inl k => hashInt k
  | .inr x => PyData.keyHash w.params x
def hsV (w : World) (kvs : List (Key × D)) : List Int := kvs.map fun kv => hK w kv.1
theorem hsV_eq (w : World) (k : Key) : hK w k = keyH w k := by
  cases k <;> rfl
theorem dwE_ok {W : Wd} : ∀ {kvs : List (Key × D)} {es : List DictEntry}, dwE W.K kvs es = true → es.map (·.hash) = hsV W.w kvs →
    ∃ (ks : List (Key × V)) (vs : List (Key × Value)), KV ks vs ∧ RpK W (fun _ => none) ks kvs ∧ Pairs (mixKind W.P W.w) es vs ∧ vs.map (·.1) = kvs.map (·.1) ∧ ∀ e ∈ es, ∃ k, (mixKind W.P W.w).is k e.key = true ∧ e.hash = (mixKind W.P W.w).hash k
  | [], [], _, _ => ⟨[], [], .nil, .nil, .nil, rfl, fun _ h => by cases h⟩
  | [], _ :: _, h, _ => by cases h
  | _ :: _, [], h, _ => by cases h
  | (k, d) :: r, e :: es, h, hh => by
    have h : (keyIs k e.key && (rpB W.K d e.val && dwE W.K r es)) = true := h
    simp only [Bool.and_eq_true] at h
    obtain ⟨h1, h2, h3⟩ := h
    have hh : e.hash :: es.map (·.hash) = hK W.w k :: hsV W.w r := hh
    injection hh with hh1 hh2
    rw [hsV_eq] at hh1
    obtain ⟨v, rv, q⟩ := rpB_ok h2
    obtain ⟨ks, vs, q1, q2, q3, q4, q5⟩ := dwE_ok h3 hh2
    refine ⟨(k, v) :: ks, (k, e.val) :: vs, .cons ⟨rfl, rv⟩ q1, .cons q q2, .cons h1 rfl q3, by simp [q4], fun z hz => ?_⟩
    rcases List.mem_cons.mp hz with rfl | hz
    · exact ⟨k, h1, hh1⟩
    · exact q5 z hz
theorem dwB_ok {W : Wd} {kvs : List (Key × D)} {u : Value} (h : dwB W.K kvs u = true) (hh : hsO W.K u = hsV W.w kvs) : ∃ v, RelV v u ∧ Rp W (fun _ => none) v (.dw kvs) := by
  cases u with
  | ref a =>
    have h : (match W.K.lookup a with
      | some ⟨.type c, none, .dict es _, sl⟩ => decide (c = "dict") && (sl.isEmpty && (!(a == sysModules) && (Nat.ble kvs.length sizeLine && (dwE W.K kvs es.toList && decide (kvs.map (·.1)).Nodup))))
      | _ => false) = true := h
    have hh : (match W.K.lookup a with
      | some ⟨_, _, .dict es _, _⟩ => es.toList.map (·.hash)
      | _ => []) = hsV W.w kvs := hh
    cases q : W.K.lookup a with
    | none =>
      rw [q] at h
      cases h
    | some o =>
      obtain ⟨oc, od, dt, osl⟩ := o
      rw [q] at h hh
      cases oc with
      | type c =>
        cases od with
        | none =>
          cases dt with
          | dict es n =>
            have h : (decide (c = "dict") && (osl.isEmpty && (!(a == sysModules) && (Nat.ble kvs.length sizeLine && (dwE W.K kvs es.toList && decide (kvs.map (·.1)).Nodup))))) = true := h
            simp only [Bool.and_eq_true, decide_eq_true_eq] at h
            obtain ⟨rfl, h2, h3, h4, h5, h6⟩ := h
            have e2 : osl = #[] := Array.isEmpty_iff.mp h2
            subst e2
            obtain ⟨ks, vs, q1, q2, q3, q4, q5⟩ := dwE_ok h5 hh
            refine ⟨.ref a, rfl, .dw ⟨es, n, vs, q, not_true h3, ?_, q1, fun e he => q5 e (by simpa using he), q3, by rw [q4]; exact h6⟩ q2⟩
            rw [q2.length]
            exact Nat.le_of_ble_eq_true h4
          | _ => cases h
        | some b => cases dt <;> cases h
      | _ => cases od <;> cases dt <;> cases h
  | _ => cases h
/-! ### the Hook -/
def isLst (o : Obj) : Bool := match o.cls with
  | .type c => decide (c = "list")
  | _ => false
/-- the objects at the addresses below n, the newest first, no lists -/
def kOf (n : Nat) (g : Addr → Option Obj) : PySem.W.Frag := (List.range n).reverse.filterMap fun a => match g a with
  | some o => if isLst o then none else some (a, o)
  | none => none
theorem mem_lookA {β : Type} {a : Addr} {o : β} : ∀ {l : List (Addr × β)}, l.lookup a = some o → (a, o) ∈ l
  | [], h => by cases h
  | (b, u) :: r, h => by
    rw [List.lookup_cons] at h
    cases e : a == b with
    | true =>
      rw [e] at h
      have e2 : a = b := eq_of_beq e
      cases h
      rw [e2]
      exact List.mem_cons_self
    | false =>
      rw [e] at h
      exact List.mem_cons_of_mem _ (mem_lookA h)
theorem kOf_mem {n : Nat} {g : Addr → Option Obj} {a : Addr} {o : Obj} (h : (kOf n g).lookup a = some o) : g a = some o ∧ isLst o = false := by
  have h1 := mem_lookA h
  unfold kOf at h1
  obtain ⟨b, _, e⟩ := List.mem_filterMap.mp h1
  cases q : g b with
  | none =>
    rw [q] at e
    cases e
  | some u =>
    rw [q] at e
    have e : (if isLst u = true then none else some (b, u)) = some (a, o) := e
    cases hl : isLst u with
    | true =>
      rw [hl] at e
      cases e
    | false =>
      rw [hl] at e
      cases e
      exact ⟨q, hl⟩
def uOf (K : PySem.W.Frag) (x : Str) : Value := match PySem.W.nsIn K mainGlobals x with
  | some (some u) => u
  | _ => .none
def isDw : D → Option (List (Key × D))
  | .dw kvs => some kvs
  | _ => none
def conB (K : PySem.W.Frag) (p : Str × D) : Bool := He.eqO (PySem.W.nsIn K mainGlobals p.1) (some (some (uOf K p.1))) && (match isDw p.2 with
  | some kvs => dwB K kvs (uOf K p.1)
  | none => rpB K p.2 (uOf K p.1))
def conH (K : PySem.W.Frag) (p : Str × D) : List Int := match isDw p.2 with
  | some _ => hsO K (uOf K p.1)
  | none => []
def conV (w : World) (p : Str × D) : List Int := match isDw p.2 with
  | some kvs => hsV w kvs
  | none => []
def tys6 : List String := ["str", "int", "bool", "tuple", "list", "dict"]
def tys7 : List String := ["NoneType", "str", "int", "bool", "tuple", "list", "dict"]
/-- what is asked of a class of the module -/
def klsB (K : PySem.W.Frag) (ks : List Str) (x : Str) : Bool :=
  decide (PySem.W.findIn K (.ref (He.ga K x)) "__class__" = some (some (.builtin "object.__class__"))) && (decide (PySem.W.specialIn K (.builtin "object.__class__") "__get__" = some (some (.builtin "getset_descriptor.__get__"))) &&
  (decide (PySem.W.takesIn K (.builtin "object.__class__") = some true) && (decide (PySem.W.mroIn K (He.ga K x) (.type "object") = some true) &&
  (tys6.all (fun t => decide (PySem.W.kitOne K (.ref (He.ga K x)) (.type t) = some false)) && (tys7.all (fun t => decide (PySem.W.kitOne K (.type t) (.ref (He.ga K x)) = some false)) &&
  ks.all fun y => decide (PySem.W.kitOne K (.ref (He.ga K y)) (.ref (He.ga K x)) = some (y == x)))))))
/-- what is asked of a class with special methods -/
def dunB (K : PySem.W.Frag) (ks : List Str) (x : Str) : Bool :=
  tys7.all (fun t => decide (PySem.W.subIn K (.type t) (.ref (He.ga K x)) = some false)) && (ks.all (fun y => PySem.W.notFirst K (He.ga K x) (.ref (He.ga K y))) &&
  (decide (PySem.W.findIn K (.ref (He.ga K x)) "__ne__" = some (some (.builtin "object.__ne__"))) && decide (PySem.W.subIn K (.ref (He.ga K x)) (.type "object") = some true)))
abbrev Al : Type := He.AlD × Bool × List (List Int)
/-- what is looked at: constants, classes, facts, defs -/
structure Look where
  cs : List (Str × D)
  ks : List Str
  fa : List He.Fa
  fn : List He.DefD
  ds : List Str := []
def obsX (L : Look) (K : PySem.W.Frag) : Al := (He.obsD L.fa L.fn K, L.cs.all (conB K) && (L.ks.all (klsB K L.ks) && L.ds.all (dunB K L.ks)), L.cs.map (conH K))
def valX (L : Look) (w : World) : Al := (He.valD L.fn, true, L.cs.map (conV w))
structure Says (L : Look) (w : World) (K : PySem.W.Frag) : Prop where
  nol : ∀ a o, K.lookup a = some o → isLst o = false
  eq : obsX L K = valX L w
def hook (n : Nat) (L : Look) : PySem.W.Hook where
  α := Al
  obs := fun s => obsX L (kOf n s.heap.get?)
  val := fun w => valX L w
  says := fun w h => ∃ K : PySem.W.Frag, K.In h ∧ Says L w K
  of := fun _ _ e => ⟨_, fun _ _ z => (kOf_mem z).1, fun _ _ z => (kOf_mem z).2, e⟩
  keeps := fun _ _ _ ⟨K, hK, c⟩ k => ⟨K, PySem.W.Frag.In.keeps hK k, c⟩
def obT (n : Nat) (L : Look) (s : PySem.W.SharedT) : Al := obsX L (kOf n (HandSHeadRun.getT s))
theorem obT_eq (n : Nat) (L : Look) (s : PySem.W.SharedT) : obT n L s = (hook n L).obs s.abs := by
  have e : HandSHeadRun.getT s = s.abs.heap.get? := funext (HandSHeadRun.getT_eq s)
  show obsX L (kOf n (HandSHeadRun.getT s)) = obsX L (kOf n s.abs.heap.get?)
  rw [e]
/-! the run's equation, in parts -/
section
open PySem.W HandSHeadRun
def RunA (r : OpenRow) (q : Program) (M : Nat) (loose : List PySem.Str) (w : World) : Prop :=
  ∀ os : OsState, (endF (stepQ (denQ tabQ) r.prog w) M r.prog w os).map (fun s => (looksF r.prog (boot_heap w.params) s.abs, seenQ q loose (importedModules r.prog.main.body) (fun s => xlAt q [] s && recOk r.toRowW.records s) s.abs)) = some (true, openGood q loose)
def RunB (r : OpenRow) (M : Nat) {α : Type} (ob : SharedT → α) (v : α) (w : World) : Prop :=
  ∀ os : OsState, (endF (stepQ (denQ tabQ) r.prog w) M r.prog w os).map ob = some v
theorem run_of {r : OpenRow} {q : Program} {n : Nat} {L : Look} {M : Nat} {loose : List PySem.Str} {w : World} (ha : RunA r q M loose w) (hb : RunB r M (fun s => (obT n L s).1) (valX L w).1 w) (hc : RunB r M (fun s => (obT n L s).2) (valX L w).2 w) : RunEq r q (hook n L) (obT n L) M loose w := by
  intro os
  have a := ha os
  have b := hb os
  have c := hc os
  cases e : endF (stepQ (denQ tabQ) r.prog w) M r.prog w os with
  | none =>
    rw [e] at a
    cases a
  | some s =>
    rw [e] at a b c
    have a1 := Option.some.inj a
    have b1 := Option.some.inj b
    have c1 := Option.some.inj c
    have a2 := congrArg Prod.fst a1
    have a3 := congrArg Prod.snd a1
    have d : obT n L s = valX L w := Prod.ext b1 c1
    show some (looksF r.prog (boot_heap w.params) s.abs, seenQ q loose (importedModules r.prog.main.body) (fun s => xlAt q [] s && recOk r.toRowW.records s) s.abs, obT n L s) = some (true, openGood q loose, valX L w)
    rw [d, show looksF r.prog (boot_heap w.params) s.abs = true from a2, show seenQ q loose (importedModules r.prog.main.body) (fun s => xlAt q [] s && recOk r.toRowW.records s) s.abs = openGood q loose from a3]
end
section
variable {L : Look} {w : World} {K : PySem.W.Frag} {h : Heap} {mg : Str → Option Value}
theorem Says.d (c : Says L w K) : He.SaysD L.fa L.fn K := congrArg (fun z : Al => z.1) c.eq
theorem lookup_mem {α : Type} {l : List (Str × α)} {x : Str} {d : α} (h : l.lookup x = some d) : (x, d) ∈ l := PySem.mem_of_lookup h
theorem Says.con {P : Program} (X : K.In h) (G : h.Ns mainGlobals mg) (c : Says L w K) : ∀ x d, L.cs.lookup x = some d → ∃ u v, mg x = some u ∧ RelV v u ∧ Rp ⟨P, w, K⟩ (fun _ => none) v d := fun x d hx => by
  have hm := lookup_mem hx
  have e1 : (L.cs.all (conB K) && (L.ks.all (klsB K L.ks) && L.ds.all (dunB K L.ks))) = true := congrArg (fun z : Al => z.2.1) c.eq
  have e2 : L.cs.map (conH K) = L.cs.map (conV w) := congrArg (fun z : Al => z.2.2) c.eq
  have b := List.all_eq_true.mp (Bool.and_eq_true_iff.mp e1).1 (x, d) hm
  have hh : conH K (x, d) = conV w (x, d) := by
    obtain ⟨i, hi, e⟩ := List.mem_iff_getElem.mp hm
    have q : (L.cs.map (conH K))[i]? = (L.cs.map (conV w))[i]? := by rw [e2]
    rw [List.getElem?_map, List.getElem?_map, List.getElem?_eq_getElem hi, e] at q
    exact Option.some.inj q
  unfold conB at b
  simp only [Bool.and_eq_true] at b
  have m := PySem.W.mg_of X G (He.eqO_ok b.1)
  have b2 := b.2
  unfold conH conV at hh
  cases hd : isDw d with
  | none =>
    simp only [hd] at b2
    obtain ⟨v, r, q⟩ := rpB_ok (W := ⟨P, w, K⟩) b2
    exact ⟨_, v, m, r, q⟩
  | some kvs =>
    simp only [hd] at b2 hh
    have ed : d = .dw kvs := by
      cases d <;> cases hd
      rfl
    subst ed
    obtain ⟨v, r, q⟩ := dwB_ok (W := ⟨P, w, K⟩) b2 hh
    exact ⟨_, v, m, r, q⟩
/-- a class's facts -/
theorem Says.kls (c : Says L w K) {x : Str} (hx : x ∈ L.ks) (hc : Cls K (He.ga K x)) : KlsOk K (He.ga K x) ∧ (∀ t : String, t ∈ ["NoneType", "str", "int", "bool", "tuple", "list", "dict"] → PySem.W.kitOne K (.type t) (.ref (He.ga K x)) = some false) ∧
    ∀ y ∈ L.ks, PySem.W.kitOne K (.ref (He.ga K y)) (.ref (He.ga K x)) = some (y == x) := by
  have e1 : (L.cs.all (conB K) && (L.ks.all (klsB K L.ks) && L.ds.all (dunB K L.ks))) = true := congrArg (fun z : Al => z.2.1) c.eq
  have b := List.all_eq_true.mp (Bool.and_eq_true_iff.mp (Bool.and_eq_true_iff.mp e1).2).1 x hx
  unfold klsB at b
  simp only [Bool.and_eq_true, decide_eq_true_eq, List.all_eq_true] at b
  obtain ⟨b1, b2, b3, b4, b5, b6, b7⟩ := b
  exact ⟨⟨hc, b1, b2, b3, b4, fun t ht => b5 t ht⟩, fun t ht => b6 t ht, fun y hy => b7 y hy⟩
end
theorem Says.dun {L : Look} {w : World} {K : PySem.W.Frag} (c : Says L w K) {x : Str} (hx : x ∈ L.ds) : (∀ t : String, t ∈ ["NoneType", "str", "int", "bool", "tuple", "list", "dict"] → PySem.W.subIn K (.type t) (.ref (He.ga K x)) = some false) ∧
    (∀ y ∈ L.ks, PySem.W.notFirst K (He.ga K x) (.ref (He.ga K y)) = true) ∧ PySem.W.findIn K (.ref (He.ga K x)) "__ne__" = some (some (.builtin "object.__ne__")) ∧ PySem.W.subIn K (.ref (He.ga K x)) (.type "object") = some true := by
  have e1 : (L.cs.all (conB K) && (L.ks.all (klsB K L.ks) && L.ds.all (dunB K L.ks))) = true := congrArg (fun z : Al => z.2.1) c.eq
  have b := List.all_eq_true.mp (Bool.and_eq_true_iff.mp (Bool.and_eq_true_iff.mp e1).2).2 x hx
  unfold dunB at b
  simp only [Bool.and_eq_true, decide_eq_true_eq, List.all_eq_true] at b
  obtain ⟨b1, b2, b3, b4⟩ := b
  exact ⟨fun t ht => b1 t ht, fun y hy => b2 y hy, b3, b4⟩
def clsBody : Stmt → List Stmt
  | .ClassDef _ _ _ body .. => body
  | _ => []
/-! ### defs, by what is written -/
def plainA (a : Arguments) : Bool := a.posonlyargs.isEmpty && (a.vararg.isNone && (a.kwonlyargs.isEmpty && a.kwarg.isNone))
/-- what is to be looked at of a def: its slots, its parameters -/
def statB (args : Arguments) (sc : Scope) (N : List Str) (fn : Fn) : Bool :=
  plainA args && (decide (sc.kind = .function) && (!sc.isCoroutine && (!sc.isGenerator && (decide N.Nodup && (decide (N.take (args.args.map (·.arg)).length = args.args.map (·.arg)) &&
    ((args.args.map (·.arg)).all (fun x => isLoc (sc.names.lookup x)) && (sc.names.all (fun y => !decide (y.2 = .free)) && (decide (N.length = fn.ns) && decide ((args.args.map (·.arg)).length = fn.np)))))))))
theorem stat_ok {args : Arguments} {sc : Scope} {N : List Str} {fn : Fn} (h : statB args sc N fn = true) : plainA args = true ∧ FnScope N (args.args.map (·.arg)) sc ∧ N.length = fn.ns ∧ (args.args.map (·.arg)).length = fn.np := by
  unfold statB at h
  simp only [Bool.and_eq_true, decide_eq_true_eq, List.all_eq_true] at h
  obtain ⟨h1, h2, h3, h4, h5, h6, h7, h8, h9, h10⟩ := h
  refine ⟨h1, ⟨h2, not_true h3, not_true h4, h5, h6, fun x hx => ?_, fun y hy e => ?_⟩, h9, h10⟩
  · have := h7 x hx
    cases hl : sc.names.lookup x with
    | none =>
      rw [hl] at this
      cases this
    | some k =>
      rw [hl] at this
      cases k <;> first | exact .inl rfl | exact .inr rfl | cases this
  · have := h8 y hy
    rw [e] at this
    simp at this
theorem def_ok {W : Wd} {g : Gs} {x q : Str} {args : Arguments} {body : List Stmt} {sc : Scope} {N : List Str} {fn : Fn} {f : Addr} {fd : FuncData} {k m : Nat} (F : FunD W.K x q args body sc [] [] f fd) (hs : statB args sc N fn = true)
    (hc : cSs (cS g k m ⟨N, sc.names⟩) body = some fn.body) : DefK W g fn f := by
  obtain ⟨s1, s2, s3, s4⟩ := stat_ok hs
  obtain ⟨oc, od, dV, kV, doc, pm, an, cdv, ct, osl, rfl, lk, hcd, hD, hK⟩ := F.ex
  have ed : dV = .none := by
    rcases hD with ⟨_, e⟩ | ⟨e, _⟩
    · exact e
    · exact absurd rfl e
  subst ed
  unfold plainA at s1
  simp only [Bool.and_eq_true, List.isEmpty_iff, Option.isNone_iff_eq_none] at s1
  have nd : (args.args.map (·.arg)).Nodup := by
    have := s2.pre
    rw [← this]
    exact s2.nd.sublist (List.take_sublist _ _)
  exact ⟨x, q, args, body, sc, .none, kV, doc, pm, cdv, ct, oc, an, od, osl, N, _, k, m, lk, hcd, s2, s3, s4, hc, .all fun us hl => bind_plain s1.1 s1.2.1 s1.2.2.1 s1.2.2.2 rfl nd hl⟩
/-! ### a law's end -/
theorem law_callG {P : Program} {w : World} {K : PySem.W.Frag} {mg mb : Str → Option Value} {k : Nat} {fa a : Addr} {sp : Sp} {s₁ : Shared} {vs : List Value} {ns : List Int}
    (KX : K.In s₁.heap) (nol : ∀ a o, K.lookup a = some o → isLst o = false) (hns : s₁.heap.Ns mainGlobals mg) (hb : s₁.heap.Ns builtinsNs mb) (hbb : ∀ x : Str, x ≠ "__name__" → mb x = bootBuiltins x) (hlim : s₁.heap.NoLimit) (hg : s₁.gens = #[])
    (ha : s₁.heap.get? a = some { cls := .type "list", data := .seq vs.toArray }) (hi : IntsAre vs ns) (hl : ns.length ≤ sizeLine) (hr : Room k callerA)
    (F : ∀ base : Heap, ∃ fd ps, FnG P w K mg base k fa fd ps sp ∧ Binds K fd ps [])
    (hsp : ∀ H : Hp, Rd H a (.lst (ns.map V.int)) → sp [.ref a] H (fun v _ => v = .bl true) E0) :
    codeAny (model P w) callerA (.call (.ref fa) ⟨[.ref a], []⟩) (fun r s' => r = .ok (.ret (.bool true)) ∧ OldK s₁.heap s'.heap ∧ s'.os = s₁.os ∧ AllBare s'.gens) s₁ := by
  have rv := vals_ints hi
  have hk : K.lookup a = none := by
    cases q : K.lookup a with
    | none => rfl
    | some o =>
      have e := KX a o q
      rw [ha] at e
      cases e
      cases nol a _ q
  generalize hH : (fun b => if b = a then some (HO.frz { cls := .type "list", data := .seq vs.toArray } (.lst (ns.map V.int))) else none : Hp) = H
  have atA : H a = some (.frz { cls := .type "list", data := .seq vs.toArray } (.lst (ns.map V.int))) := by
    rw [← hH]
    exact if_pos rfl
  have off : ∀ b, b ≠ a → H b = none := fun b hb => by
    rw [← hH]
    exact if_neg hb
  have hok : HOk P w H s₁.heap := fun b u z => by
    by_cases hb : b = a
    · subst hb
      rw [atA] at z
      cases z
      exact ⟨ha, by rw [List.length_map]; exact hl, vs, _, rv, ha⟩
    · rw [off b hb] at z
      cases z
  have noD : ∀ {b : Addr} {o : Obj} {es : Array DictEntry} {ep : Nat}, s₁.heap.get? b = some o → o.data = .dict es ep → H b = none := fun {b o es ep} e d => by
    by_cases hb : b = a
    · subst hb
      rw [ha] at e
      cases e
      have d' : Data.seq vs.toArray _ = Data.dict es ep := d
      cases d'
    · exact off b hb
  have nsK : ∀ {b : Addr} {m : Str → Option Value}, s₁.heap.Ns b m → (hidT s₁.heap H).Ns b m := fun {b m} ⟨o, es, ep, e, d, r⟩ => ⟨o, es, ep, hidT_get e (noD e d), d, r⟩
  have hKb : K.In (hidT s₁.heap H) := fun b o e => hidT_get (KX b o e) (off b fun z => by
    rw [z, hk] at e
    cases e)
  have hM : Mod K mg (hidT s₁.heap H) := ⟨hKb, nsK hns, ⟨mb, nsK hb, hbb⟩, let ⟨mc, h1, h2⟩ := hlim; ⟨mc, nsK h1, h2⟩⟩
  have e0 : Env0 P w K mg (hidT s₁.heap H) callerA [] s₁ H := ⟨rfl, hM, fun b o e => of_hidT e, Nat.le_of_eq (hidT_size _ _), trivial, fun b hb => absurd (show b ∈ ([] : List Addr) from hb) (by simp), hok, .of_eq hg⟩
  obtain ⟨fd, ps, FG, hbind⟩ := F (hidT s₁.heap H)
  have sp1 := hsp H (.inr ⟨_, atA⟩)
  have hps := FG.len _ _ _ _ sp1
  have hb2 := hbind s₁ [.ref a] KX (by simpa using hps)
  rw [List.append_nil] at hb2
  refine codeAny_mono (FG.run callerA [] s₁ H ⟨[.ref a], []⟩ [.ref a] [.ref a] _ _ hr rfl e0 hb2 (.cons rfl .nil) sp1) fun r s' h => ?_
  cases r with
  | error e => exact False.elim h
  | ok fl =>
    cases fl with
    | next => exact False.elim h
    | brk => exact False.elim h
    | cont => exact False.elim h
    | ret u =>
      obtain ⟨v, H', os, bare, un, hok', r', q⟩ := h
      have q' : v = .bl true := q
      subst q'
      obtain rfl : u = Value.bool true := r'
      refine ⟨rfl, OldK.of_keep fun b o e => ?_, os, bare⟩
      by_cases hb : b = a
      · subst hb
        have z2 := un.frzs b _ _ atA
        obtain ⟨e2, _⟩ := hok' b _ z2
        rw [ha] at e
        cases e
        exact e2
      · exact un.keep b o e (off b hb) (by intro z; exact absurd (show b ∈ ([] : List Addr) from z) (by simp)) (by simp)
/-- the law, by the code of its defs -/
theorem walk_eg {l : PySem.W.OpenLaw} {n k i : Nat} {q : Program} {loose : List Str} {XP : (Str → Option Value) → Heap → Prop} {YP : World → Heap → Prop} {d : DefRec} {tab : Nat → Option Fn}
    (hn : l.most = some n) (hn2 : n ≤ sizeLine) (hdf : d.params.defaults = []) (hr : Room k callerA)
    (F : ∀ (w : World) (mg : Str → Option Value) (fa : Addr) (h : Heap), YP w h → h.Ns mainGlobals mg → mg d.name = some (.ref fa) →
      ∃ K : PySem.W.Frag, K.In h ∧ (∀ a o, K.lookup a = some o → isLst o = false) ∧
        ∀ base : Heap, ∃ fd ps, FnG l.prog w K mg base k fa fd ps (spF ⟨l.prog, w, K⟩ (callN tab k) i) ∧ Binds K fd ps [])
    (law : ∀ ns : List Int, ns.length ≤ n → ∃ outs, callN tab k i [(false, .lst (ns.map D.int))] = .ok false (.bl true) outs) :
    PySem.W.WalkO q loose XP YP l.row.toRowW d [] (fun f vs => PySem.call f vs) := by
  refine Att.attach_call hn hdf fun w s₀ s₁ mg mb fa o pm cd doc a vs ns G Y ho hd hcd hmg hobj hints hlen hg => ?_
  obtain ⟨K, KX, nol, hF⟩ := F w mg fa _ Y G.T.g hmg
  refine law_callG KX nol G.T.g G.T.b G.T.builtins G.T.nolimit hg hobj hints (Nat.le_trans hlen hn2) hr hF fun H hR => ?_
  obtain ⟨outs, e⟩ := law ns hlen
  have hl : ∀ ns : List Int, RpL ⟨l.prog, w, K⟩ (mns H fun _ => False) (ns.map V.int) (ns.map D.int) := fun ns => by
    induction ns with
    | nil => exact .nil
    | cons i r ih => exact .cons (.int i) ih
  have sub : Sub H (mns H fun _ => False) := fun a o z => mns_some.mpr ⟨fun y => y, z⟩
  refine ⟨fun _ => False, [(false, .lst (ns.map D.int))], ⟨rfl, fun j v y h1 h2 => ?_, fun j k b d e h1 => ?_, fun _ z => z.elim⟩, ?_⟩
  · match j, h1, h2 with
    | 0, h1, h2 =>
      cases h1
      cases h2
      exact Rp.lst (sub_rd sub hR) (hl ns)
    | j + 1, h1, h2 => simp at h1
  · match j, h1 with
    | 0, h1 => cases h1
    | j + 1, h1 => simp at h1
  · rw [e]
    intro v H' O' _ _ _ q
    have q : Rp ⟨l.prog, w, K⟩ (mns H' O') v (.bl true) := q
    cases q
    rfl
end Eg
/-! Eg25: rows for going through code. -/
namespace Eg
open PySem PySem.Spec PyProof.Rows L2
/-! a continuation that simp leaves as it is -/
structure Kp0 {γ : Sort _} (f : γ) : Type where
def bindP {α β : Type} (f : α → Rho → Out β) (_ : Kp0 f) (x : Out α) : Out β := x.bind f
def stmP {α : Type} (f : α → Rho → SOut) (_ : Kp0 f) (x : Out α) : SOut := x.stm f
def thenP (f : Rho → SOut) (_ : Kp0 f) (x : SOut) : SOut := x.then f
def loopCP (fc : Rho → Out Bool) (fe : Rho → Out D) (_ : Kp0 fc) (_ : Kp0 fe) (tg : Tg) (vs : List Nat) (xs acc : List D) (r : Rho) : Out (List D) := loopC tg vs fc fe xs acc r
def loopFP (fb : Rho → SOut) (_ : Kp0 fb) (tg : Tg) (xs : List D) (r : Rho) : SOut := loopF tg fb xs r
theorem bind_P {α β : Type} {x : Out α} {f : α → Rho → Out β} : x.bind f = bindP f ⟨⟩ x := rfl
theorem stm_P {α : Type} {x : Out α} {f : α → Rho → SOut} : x.stm f = stmP f ⟨⟩ x := rfl
theorem then_P {x : SOut} {f : Rho → SOut} : x.then f = thenP f ⟨⟩ x := rfl
theorem loopC_P {tg : Tg} {vs : List Nat} {fc : Rho → Out Bool} {fe : Rho → Out D} {xs acc : List D} {r : Rho} : loopC tg vs fc fe xs acc r = loopCP fc fe ⟨⟩ ⟨⟩ tg vs xs acc r := rfl
theorem loopF_P {tg : Tg} {fb : Rho → SOut} {xs : List D} {r : Rho} : loopF tg fb xs r = loopFP fb ⟨⟩ tg xs r := rfl
theorem bindP_ok {α β : Type} {a : α} {r : Rho} {f : α → Rho → Out β} {k : Kp0 f} : bindP f k (.ok a r) = f a r := rfl
theorem stmP_ok {α : Type} {a : α} {r : Rho} {f : α → Rho → SOut} {k : Kp0 f} : stmP f k (.ok a r) = f a r := rfl
theorem thenP_nx {r : Rho} {f : Rho → SOut} {k : Kp0 f} : thenP f k (.nx r) = f r := rfl
theorem thenP_rt {b : Bool} {d : D} {r : Rho} {f : Rho → SOut} {k : Kp0 f} : thenP f k (.rt b d r) = .rt b d r := rfl
theorem loopCP_nil {tg : Tg} {vs : List Nat} {fc : Rho → Out Bool} {fe : Rho → Out D} {k : Kp0 fc} {l : Kp0 fe} {acc : List D} {r : Rho} : loopCP fc fe k l tg vs [] acc r = .ok acc r := rfl
theorem loopCP_cons {tg : Tg} {vs : List Nat} {fc : Rho → Out Bool} {fe : Rho → Out D} {k : Kp0 fc} {l : Kp0 fe} {x : D} {xs acc : List D} {r : Rho} : loopCP fc fe k l tg vs (x :: xs) acc r = (lift (tg.put (vs.foldl (fun r i => r.set i none) r) x) r).bind fun r1 _ => (fc r1).bind fun b r2 => match b with
    | true => (fe r2).bind fun y r3 => if Nat.blt acc.length sizeLine then loopCP fc fe k l tg vs xs (acc ++ [y]) r3 else .no
    | false => loopCP fc fe k l tg vs xs acc r2 := rfl
theorem loopFP_nil {tg : Tg} {fb : Rho → SOut} {k : Kp0 fb} {r : Rho} : loopFP fb k tg [] r = .nx r := rfl
theorem loopFP_cons {tg : Tg} {fb : Rho → SOut} {k : Kp0 fb} {x : D} {xs : List D} {r : Rho} : loopFP fb k tg (x :: xs) r = match tg.put r x with
    | some r1 => (fb r1).then fun r2 => loopFP fb k tg xs r2
    | none => .no := rfl
theorem bind_ok {α β : Type} {a : α} {r : Rho} {f : α → Rho → Out β} : (Out.ok a r).bind f = f a r := rfl
theorem stm_ok {α : Type} {a : α} {r : Rho} {f : α → Rho → SOut} : (Out.ok a r).stm f = f a r := rfl
theorem then_nx {r : Rho} {f : Rho → SOut} : (SOut.nx r).then f = f r := rfl
theorem then_rt {b : Bool} {d : D} {r : Rho} {f : Rho → SOut} : (SOut.rt b d r).then f = .rt b d r := rfl
theorem lift_some {α : Type} {a : α} {r : Rho} : lift (some a) r = .ok a r := rfl
theorem tru_ok {b : Bool} {d : D} {r : Rho} : tru (.ok (b, d) r) = (lift d.truth r).bind fun b r => .ok (false, .bl b) r := rfl
theorem fin_val {x : Out (Bool × D)} : fin .val x = x := rfl
theorem fin_bor {x : Out (Bool × D)} : fin .bor x = x := rfl
theorem fin_tst {x : Out (Bool × D)} : fin .tst x = tru x := rfl
theorem truth_bl {b : Bool} : (D.bl b).truth = some b := rfl
theorem truth_int {i : Int} : (D.int i).truth = some (i != 0) := rfl
theorem two_late {i : Nat} {fa fb : Rho → Out (Bool × D)} {r : Rho} : two (some i) fa fb r = (lift (peek r i) r).bind fun _ r => (fb r).bind fun y r => (lift (peek r i) r).bind fun x r => .ok (x, y.2) r := rfl
theorem two_none {fa fb : Rho → Out (Bool × D)} {r : Rho} : two none fa fb r = (fa r).bind fun x r => (fb r).bind fun y r => .ok (x.2, y.2) r := rfl
theorem peek_0 {f : Fl} {d : D} {r : Rho} : peek (some (f, d) :: r) 0 = some d := rfl
theorem peek_s {x : Option (Fl × D)} {i : Nat} {r : Rho} : peek (x :: r) (i + 1) = peek r i := rfl
theorem slot_0 {f : Fl} {d : D} {r : Rho} : slotOf (some (f, d) :: r) 0 = some (f, d) := rfl
theorem slot_s {x : Option (Fl × D)} {i : Nat} {r : Rho} : slotOf (x :: r) (i + 1) = slotOf r i := rfl
theorem eq_int (a b : Int) : cmpD .eq (.int a) (.int b) = some (decide (a = b)) := by
  show some (PyData.eqv (.int a) (.int b)) = _
  unfold PyData.eqv
  rfl
theorem ofS_inj (a b : String) : (Str.ofString a = Str.ofString b) = (a = b) := by
  rw [Str.ofString_eq_toList, Str.ofString_eq_toList]
  refine propext ⟨fun h => ?_, fun h => by rw [h]⟩
  have h1 : (a.toList.map Char.toNat) = (b.toList.map Char.toNat) := by
    have := congrArg Str.cps h
    simpa using this
  have inj : ∀ x y : Char, x.toNat = y.toNat → x = y := fun x y e => Char.ext (UInt32.toNat_inj.mp e)
  have : a.toList = b.toList := (List.map_inj_right inj).mp h1
  exact String.toList_inj.mp this
theorem sh_str (a : String) : SeqAt.shaped (.str (Str.ofString a)) = true := by
  have h : PyData.strOk (Str.ofString a) = true := by
    rw [Str.ofString_eq_toList]
    unfold PyData.strOk
    simp only [List.all_toArray, List.all_map, List.all_eq_true, Function.comp_apply, decide_eq_true_eq]
    intro c _
    have := c.valid
    rcases this with h | h
    · show c.val.toNat < _
      have : c.val.toNat < 0xd800 := h
      omega
    · show c.val.toNat < _
      have : c.val.toNat < 0x110000 := h.2
      omega
  unfold SeqAt.shaped PyData.canLay0
  rw [h]
  rfl
theorem eq_str (a b : String) : cmpD .eq (.str (Str.ofString a)) (.str (Str.ofString b)) = some (decide (a = b)) := by
  have e : cmpD .eq (.str (Str.ofString a)) (.str (Str.ofString b)) = if SeqAt.shaped (.str (Str.ofString a)) && SeqAt.shaped (.str (Str.ofString b)) then some (PyData.eqv (.str (Str.ofString a)) (.str (Str.ofString b))) else none := rfl
  rw [e, sh_str, sh_str]
  unfold PyData.eqv
  simp only [Bool.and_self, if_true, Option.some.injEq]
  by_cases h : a = b
  · simp [h]
  · have h2 : ¬ Str.ofString a = Str.ofString b := by
      rw [ofS_inj]
      exact h
    simp [h, h2]
theorem ne_str (a b : String) : cmpD .ne (.str (Str.ofString a)) (.str (Str.ofString b)) = some (!decide (a = b)) := by
  show Option.map (!·) (cmpD .eq (.str (Str.ofString a)) (.str (Str.ofString b))) = _
  rw [eq_str]
  rfl
theorem eq_bl (a b : Bool) : cmpD .eq (.bl a) (.bl b) = some (a == b) := by
  cases a <;> cases b <;> rfl
theorem idx_last (xs : List D) (d : D) : idxD (.lst (xs ++ [d])) (.int (-1)) = some d := by
  show L2.atI (xs ++ [d]) (-1) = some d
  unfold L2.atI L2.ixN
  rw [if_neg (by omega), if_pos (by simp; omega)]
  have e : ((-1 : Int) + ((xs ++ [d]).length : Nat)).toNat = xs.length := by
    simp
    omega
  show ((xs ++ [d])[((-1 : Int) + ((xs ++ [d]).length : Nat)).toNat]?) = some d
  rw [e]
  simp
/-- a slot that may be stored to -/
def okS : Option (Fl × D) → Bool
  | some (.bo, _) => false
  | some (.bs, _) => false
  | _ => true
theorem store_0 {s : Option (Fl × D)} {r : Rho} {fr : Bool} {d : D} (h : okS s = true) : store (s :: r) 0 fr d = some (some (if fr then .ow else .sh, d) :: r) := by
  match s, h with
  | none, _ => rfl
  | some (.sh, _), _ => rfl
  | some (.ow, _), _ => rfl
theorem store_s {s : Option (Fl × D)} {r : Rho} {i : Nat} {fr : Bool} {d : D} : store (s :: r) (i + 1) fr d = (store r i fr d).map (s :: ·) := by
  unfold store
  simp only [List.getElem?_cons_succ, List.set_cons_succ]
  split <;> simp_all
theorem unown_0 {f : Fl} {d : D} {r : Rho} : unown (some (f, d) :: r) 0 = some (d, some (f.shared, d) :: r) := rfl
theorem unown_s {x : Option (Fl × D)} {i : Nat} {r : Rho} : unown (x :: r) (i + 1) = (unown r i).map fun p => (p.1, x :: p.2) := by
  unfold unown
  simp only [List.getElem?_cons_succ, List.set_cons_succ]
  split <;> simp_all
theorem okS_none : okS none = true := rfl
theorem okS_sh {d : D} : okS (some (.sh, d)) = true := rfl
theorem okS_ow {d : D} : okS (some (.ow, d)) = true := rfl
theorem loopF_nil {tg : Tg} {fb : Rho → SOut} {r : Rho} : loopF tg fb [] r = .nx r := rfl
theorem loopF_cons {tg : Tg} {fb : Rho → SOut} {x : D} {xs : List D} {r r1 : Rho} (h : tg.put r x = some r1) : loopF tg fb (x :: xs) r = (fb r1).then fun r2 => loopF tg fb xs r2 := by
  show (match tg.put r x with
    | some r1 => (fb r1).then fun r2 => loopF tg fb xs r2
    | none => .no) = _
  rw [h]
theorem loopF_all {tg : Tg} {fb : Rho → SOut} {I : Rho → Prop} : ∀ (xs : List D) (r : Rho), I r → (∀ x ∈ xs, ∀ r, I r → ∃ r1 r2, tg.put r x = some r1 ∧ fb r1 = .nx r2 ∧ I r2) → ∃ r', loopF tg fb xs r = .nx r' ∧ I r'
  | [], r, h, _ => ⟨r, rfl, h⟩
  | x :: xs, r, h, k => by
    obtain ⟨r1, r2, e1, e2, h2⟩ := k x (by simp) r h
    obtain ⟨r', e3, h3⟩ := loopF_all xs r2 h2 fun y hy => k y (by simp [hy])
    exact ⟨r', by rw [loopF_cons e1, e2]; exact e3, h3⟩
theorem put_one {r : Rho} {i : Nat} {d : D} : Tg.put r (.one i) d = store r i false d := rfl
theorem put_many_ {r : Rho} {is : List Nat} {ds : List D} : Tg.put r (.many is) (.tup ds) = storeL r is ds := rfl
theorem loopC_nil {tg : Tg} {vs : List Nat} {fc : Rho → Out Bool} {fe : Rho → Out D} {acc : List D} {r : Rho} : loopC tg vs fc fe [] acc r = .ok acc r := rfl
theorem loopC_cons {tg : Tg} {vs : List Nat} {fc : Rho → Out Bool} {fe : Rho → Out D} {x : D} {xs acc : List D} {r : Rho} : loopC tg vs fc fe (x :: xs) acc r = (lift (tg.put (vs.foldl (fun r i => r.set i none) r) x) r).bind fun r1 _ => (fc r1).bind fun b r2 => match b with
    | true => (fe r2).bind fun y r3 => if Nat.blt acc.length sizeLine then loopC tg vs fc fe xs (acc ++ [y]) r3 else .no
    | false => loopC tg vs fc fe xs acc r2 := rfl
theorem calm_ok {α : Type} {a : α} {r : Rho} : calm (.ok a r) = .ok a r := rfl
theorem oneOf_1 {i : Nat} : oneOf [i] = .one i := rfl
theorem oneOf_2 {i j : Nat} {is : List Nat} : oneOf (i :: j :: is) = .many (i :: j :: is) := rfl
theorem storeL_nil {r : Rho} : storeL r [] [] = some r := rfl
theorem storeL_cons {r r1 : Rho} {i : Nat} {is : List Nat} {d : D} {ds : List D} (h : store r i false d = some r1) : storeL r (i :: is) (d :: ds) = storeL r1 is ds := by
  show (match store r i false d with
    | some r' => storeL r' is ds
    | none => none) = _
  rw [h]
theorem blt_int_b {b : Bool} : bltD .int [.bl b] = some (false, .int (if b then 1 else 0)) := rfl
theorem blt_int_i {i : Int} : bltD .int [.int i] = some (false, .int i) := rfl
theorem blt_len_l {xs : List D} : bltD .len [.lst xs] = some (false, .int xs.length) := rfl
theorem blt_len_t {xs : List D} : bltD .len [.tup xs] = some (false, .int xs.length) := rfl
theorem blt_min {a b : Int} : bltD .min [.int a, .int b] = some (false, .int (if b < a then b else a)) := rfl
theorem blt_dict {k : List (L2.Key × D)} : bltD .dict [.dk k] = some (true, .dk k) := rfl
theorem bin_add {a b : Int} : binD .add (.int a) (.int b) = some (false, .int (a + b)) := rfl
theorem bin_sub {a b : Int} : binD .sub (.int a) (.int b) = some (false, .int (a - b)) := rfl
theorem bin_addL {a b : List D} (h : a.length + b.length ≤ sizeLine) : binD .add (.lst a) (.lst b) = some (true, .lst (a ++ b)) := by
  show (if small (a.length + b.length) then some (true, D.lst (a ++ b)) else none) = _
  rw [if_pos (show small (a.length + b.length) = true from Nat.ble_eq_true_of_le h)]
theorem bin_mod {a b : Int} (h : 0 < b) : binD .mod (.int a) (.int b) = some (false, .int (a % b)) := by
  show (if 0 < b then some (false, D.int (a % b)) else none) = _
  rw [if_pos h]
theorem bin_fdiv {a b : Int} (h : 0 < b) (h2 : b < 1073741824) : binD .fdiv (.int a) (.int b) = some (false, .int (a / b)) := by
  show (if 0 < b ∧ b < 1073741824 then some (false, D.int (a / b)) else none) = _
  rw [if_pos ⟨h, h2⟩]
theorem bin_mul {a b : Int} (h : (-(2 ^ 64) < a ∧ a < 2 ^ 64) ∨ (-(2 ^ 64) < b ∧ b < 2 ^ 64)) : binD .mul (.int a) (.int b) = some (false, .int (a * b)) := by
  show (if (-(2 ^ 64) < a ∧ a < 2 ^ 64) ∨ (-(2 ^ 64) < b ∧ b < 2 ^ 64) then some (false, D.int (a * b)) else none) = _
  rw [if_pos h]
theorem cmp_gt {a b : Int} : cmpD .gt (.int a) (.int b) = some (decide (b < a)) := rfl
theorem cmp_ge {a b : Int} : cmpD .ge (.int a) (.int b) = some (decide (b ≤ a)) := rfl
theorem cmp_lt {a b : Int} : cmpD .lt (.int a) (.int b) = some (decide (a < b)) := rfl
theorem cmp_le {a b : Int} : cmpD .le (.int a) (.int b) = some (decide (a ≤ b)) := rfl
theorem ix_l0 {x : D} {xs : List D} : idxD (.lst (x :: xs)) (.int 0) = some x := by
  show L2.atI (x :: xs) 0 = some x
  unfold L2.atI L2.ixN
  simp
theorem ix_nat {xs : List D} {i : Nat} {d : D} (h : xs[i]? = some d) : idxD (.lst xs) (.int i) = some d := by
  have hi := (List.getElem?_eq_some_iff.mp h).1
  show L2.atI xs i = some d
  unfold L2.atI L2.ixN
  rw [if_pos (by omega), if_pos (by omega)]
  simpa using h
theorem ix_natT {xs : List D} {i : Nat} {d : D} (h : xs[i]? = some d) : idxD (.tup xs) (.int i) = some d := ix_nat h
theorem ixt (xs : List D) (i : Nat) (hi : i < xs.length) : idxD (.tup xs) (.int i) = xs[i]? := by
  rw [List.getElem?_eq_getElem hi]
  exact ix_nat (List.getElem?_eq_getElem hi)
theorem ixt0 {a : D} {r : List D} : idxD (.tup (a :: r)) (.int 0) = some a := ix_l0
theorem ixt1 {a b : D} {r : List D} : idxD (.tup (a :: b :: r)) (.int 1) = some b := ix_nat (i := 1) rfl
theorem ixt2 {a b c : D} {r : List D} : idxD (.tup (a :: b :: c :: r)) (.int 2) = some c := ix_nat (i := 2) rfl
theorem ixl1 {a b : D} {r : List D} : idxD (.lst (a :: b :: r)) (.int 1) = some b := ix_nat (i := 1) rfl
theorem ixl2 {a b c : D} {r : List D} : idxD (.lst (a :: b :: c :: r)) (.int 2) = some c := ix_nat (i := 2) rfl
theorem st_n {r : Rho} {fr : Bool} {d : D} : store (none :: r) 0 fr d = some (some (if fr then .ow else .sh, d) :: r) := rfl
theorem st_h {e : D} {r : Rho} {fr : Bool} {d : D} : store (some (.sh, e) :: r) 0 fr d = some (some (if fr then .ow else .sh, d) :: r) := rfl
theorem st_w {e : D} {r : Rho} {fr : Bool} {d : D} : store (some (.ow, e) :: r) 0 fr d = some (some (if fr then .ow else .sh, d) :: r) := rfl
theorem putI_w {r : Rho} {d k v : D} : putI (some (.ow, d) :: r) 0 k v = (putD d k v).map fun d' => some (.ow, d') :: r := rfl
theorem putI_b {r : Rho} {d k v : D} : putI (some (.bo, d) :: r) 0 k v = (putD d k v).map fun d' => some (.bo, d') :: r := rfl
theorem putI_s {x : Option (Fl × D)} {r : Rho} {i : Nat} {k v : D} : putI (x :: r) (i + 1) k v = (putI r i k v).map (x :: ·) := by
  unfold putI
  simp only [slot_s, List.set_cons_succ]
  split
  · split
    · simp only [Option.map_map]
      rfl
    · rfl
  · rfl
theorem pairD_2 {a b : D} : pairD (.tup [a, b]) = some (a, b) := rfl
/-! parts of code -/
def nthS : CS → Nat → CS
  | .cons s _, 0 => s
  | .cons _ t, n + 1 => nthS t n
  | c, _ => c
def bodyS : CS → CS
  | .fors _ _ b => b
  | .forsE _ _ b => b
  | .whl _ b => b
  | .ifs _ a _ => a
  | c => c
theorem run_cons {cl : Cal} {s t : CS} {r : Rho} : run cl (.cons s t) r = (run cl s r).then fun r => run cl t r := rfl
theorem run_nil {cl : Cal} {r : Rho} : run cl .nil r = .nx r := rfl
theorem run_fors {cl : Cal} {tg : List Nat} {it : CE} {b : CS} {r r' : Rho} {xs : List D} (h : evI cl it r = .ok xs r') : run cl (.fors tg it b) r = loopF (oneOf tg) (run cl b) xs r' := by
  show (evI cl it r).stm _ = _
  rw [h]
  rfl
theorem okS_case {s : Option (Fl × D)} (h : okS s = true) : s = none ∨ (∃ d, s = some (.sh, d)) ∨ ∃ d, s = some (.ow, d) := by
  match s, h with
  | none, _ => exact .inl rfl
  | some (.sh, d), _ => exact .inr (.inl ⟨d, rfl⟩)
  | some (.ow, d), _ => exact .inr (.inr ⟨d, rfl⟩)
theorem callFn_rt {cl : Cal} {f : Fn} {as : List (Bool × D)} {fr : Bool} {d : D} {r : Rho} (hl : as.length = f.np) (e : run cl f.body (startR f as) = .rt fr d r) : callFn cl f as = .ok fr d (outsOf f.np r) := by
  unfold callFn
  rw [if_pos hl, e]
theorem bin_mulM {x y : Int} : binD .mul (.int (x % 2147483647)) (.int y) = some (false, .int (x % 2147483647 * y)) := bin_mul (.inl (by omega))
theorem ix_mod {ns : List Int} (h : ns ≠ []) (p : Int) : ∃ c : Int, idxD (.lst (ns.map D.int)) (.int (p % (ns.length : Int))) = some (.int c) := by
  have hl : 0 < ns.length := by
    cases ns with
    | nil => exact absurd rfl h
    | cons => simp
  have h1 : 0 ≤ p % (ns.length : Int) := Int.emod_nonneg _ (by omega)
  have h2 : p % (ns.length : Int) < ns.length := Int.emod_lt_of_pos _ (by omega)
  obtain ⟨i, hi⟩ : ∃ i : Nat, p % (ns.length : Int) = i := ⟨(p % (ns.length : Int)).toNat, by omega⟩
  rw [hi] at h2 ⊢
  have hi2 : i < ns.length := by omega
  refine ⟨ns[i], ix_nat ?_⟩
  rw [List.getElem?_map, List.getElem?_eq_getElem hi2]
  rfl
theorem loopF_ix {tg : Tg} {fb : Rho → SOut} {I : Nat → Rho → Prop} : ∀ (xs : List D) (i : Nat) (r : Rho), I i r → (∀ x ∈ xs, ∀ j r, i ≤ j → j < i + xs.length → I j r → ∃ r1 r2, tg.put r x = some r1 ∧ fb r1 = .nx r2 ∧ I (j + 1) r2) → ∃ r', loopF tg fb xs r = .nx r' ∧ I (i + xs.length) r'
  | [], i, r, h, _ => ⟨r, rfl, h⟩
  | x :: xs, i, r, h, k => by
    obtain ⟨r1, r2, e1, e2, h2⟩ := k x (by simp) i r (Nat.le_refl _) (by simp) h
    obtain ⟨r', e3, h3⟩ := loopF_ix xs (i + 1) r2 h2 fun y hy j r hj hj2 => k y (by simp [hy]) j r (by omega) (by simp; omega)
    refine ⟨r', by rw [loopF_cons e1, e2]; exact e3, ?_⟩
    rw [show i + (x :: xs).length = i + 1 + xs.length by simp; omega]
    exact h3
theorem loopC_all {tg : Tg} {vs : List Nat} {fc : Rho → Out Bool} {fe : Rho → Out D} {I : Rho → Prop} {P : D → Prop} : ∀ (xs acc : List D) (r : Rho), I r → (∀ a ∈ acc, P a) → acc.length + xs.length ≤ sizeLine →
    (∀ x ∈ xs, ∀ r, I r → ∃ r1 b r2, tg.put (vs.foldl (fun r i => r.set i none) r) x = some r1 ∧ fc r1 = .ok b r2 ∧ (b = false → I r2) ∧ (b = true → ∃ y r3, fe r2 = .ok y r3 ∧ P y ∧ I r3)) → ∃ ys r', loopC tg vs fc fe xs acc r = .ok ys r' ∧ I r' ∧ (∀ y ∈ ys, P y) ∧ ys.length ≤ acc.length + xs.length
  | [], acc, r, h, ha, _, _ => ⟨acc, r, rfl, h, ha, by simp⟩
  | x :: xs, acc, r, h, ha, hl, k => by
    obtain ⟨r1, b, r2, e1, e2, k0, k1⟩ := k x (by simp) r h
    rw [loopC_cons, e1, lift_some, bind_ok, e2, bind_ok]
    simp only [List.length_cons] at hl
    cases b with
    | false =>
      obtain ⟨ys, r', e3, h3, h4, h5⟩ := loopC_all xs acc r2 (k0 rfl) ha (by omega) fun y hy => k y (by simp [hy])
      exact ⟨ys, r', e3, h3, h4, by simp only [List.length_cons]; omega⟩
    | true =>
      obtain ⟨y, r3, e3, hy, h3⟩ := k1 rfl
      obtain ⟨ys, r', e4, h4, h5, h6⟩ := loopC_all xs (acc ++ [y]) r3 h3 (fun a h => by
        rcases List.mem_append.mp h with h | h
        · exact ha a h
        · rw [List.mem_singleton.mp h]
          exact hy) (by simp; omega) fun y hy => k y (by simp [hy])
      refine ⟨ys, r', ?_, h4, h5, by simp at h6; simp only [List.length_cons]; omega⟩
      show (fe r2).bind _ = _
      rw [e3, bind_ok, if_pos (show Nat.blt acc.length sizeLine = true from Nat.ble_eq_true_of_le (by omega))]
      exact e4
theorem ne_int (a b : Int) : cmpD .ne (.int a) (.int b) = some (!decide (a = b)) := by
  show Option.map (!·) (cmpD .eq (.int a) (.int b)) = _
  rw [eq_int]
  rfl
theorem ixt3 {a b c d : D} {r : List D} : idxD (.tup (a :: b :: c :: d :: r)) (.int 3) = some d := ix_nat (i := 3) rfl
theorem ixt4 {a b c d e : D} {r : List D} : idxD (.tup (a :: b :: c :: d :: e :: r)) (.int 4) = some e := ix_nat (i := 4) rfl
theorem ixt5 {a b c d e f : D} {r : List D} : idxD (.tup (a :: b :: c :: d :: e :: f :: r)) (.int 5) = some f := ix_nat (i := 5) rfl
theorem ixt6 {a b c d e f g : D} {r : List D} : idxD (.tup (a :: b :: c :: d :: e :: f :: g :: r)) (.int 6) = some g := ix_nat (i := 6) rfl
theorem in_str {a : String} {ds : List D} : cmpD .isIn (.str (Str.ofString a)) (.tup ds) = D.anyEq (.str (Str.ofString a)) ds := by
  show (if SeqAt.shaped (.str (Str.ofString a)) then D.anyEq (.str (Str.ofString a)) ds else none) = _
  rw [sh_str]
  rfl
theorem nin_str {a : String} {ds : List D} : cmpD .notIn (.str (Str.ofString a)) (.tup ds) = (D.anyEq (.str (Str.ofString a)) ds).map (!·) := by
  show (cmpD .isIn (.str (Str.ofString a)) (.tup ds)).map (!·) = _
  rw [in_str]
theorem anyEq_nil {x : PyData} : D.anyEq x [] = some false := rfl
theorem anyEq_str {a b : String} {ds : List D} : D.anyEq (.str (Str.ofString a)) (.str (Str.ofString b) :: ds) = (D.anyEq (.str (Str.ofString a)) ds).map fun t => decide (b = a) || t := by
  show (match (D.str (Str.ofString b)).py, D.anyEq (.str (Str.ofString a)) ds with
    | some y, some t => if SeqAt.shaped y then some (PyData.eqv y (.str (Str.ofString a)) || t) else none
    | _, _ => none) = _
  have e := eq_str b a
  have e0 : cmpD .eq (.str (Str.ofString b)) (.str (Str.ofString a)) = if SeqAt.shaped (.str (Str.ofString b)) && SeqAt.shaped (.str (Str.ofString a)) then some (PyData.eqv (.str (Str.ofString b)) (.str (Str.ofString a))) else none := rfl
  rw [e0, sh_str, sh_str] at e
  simp only [Bool.and_self, if_true, Option.some.injEq] at e
  cases h : D.anyEq (.str (Str.ofString a)) ds with
  | none => rfl
  | some t =>
    show (if SeqAt.shaped (.str (Str.ofString b)) = true then some (PyData.eqv (.str (Str.ofString b)) (.str (Str.ofString a)) || t) else none) = _
    rw [sh_str, e]
    rfl
theorem bin_addT {a b : List D} (h : a.length + b.length ≤ sizeLine) : binD .add (.tup a) (.tup b) = some (false, .tup (a ++ b)) := by
  show (if small (a.length + b.length) then some (false, D.tup (a ++ b)) else none) = _
  rw [if_pos (show small (a.length + b.length) = true from Nat.ble_eq_true_of_le h)]
theorem fld_1 {C : Nat} {f : Str} {d : D} : fldD [C] f (.ins C [(f, d)]) = some d := by
  show (if [C].contains C then getF [(f, d)] f else none) = _
  simp [getF]
/-- a loop of a comprehension, exactly -/
theorem loopC_eq {tg : Tg} {vs : List Nat} {fc : Rho → Out Bool} {fe : Rho → Out D} {I : Rho → Prop} {p : D → Bool} {f : D → D} : ∀ (xs acc : List D) (r : Rho), I r → acc.length + xs.length ≤ sizeLine →
    (∀ x ∈ xs, ∀ r, I r → ∃ r1 r2, tg.put (vs.foldl (fun r i => r.set i none) r) x = some r1 ∧ fc r1 = .ok (p x) r2 ∧ (p x = false → I r2) ∧ (p x = true → ∃ r3, fe r2 = .ok (f x) r3 ∧ I r3)) →
    ∃ r', loopC tg vs fc fe xs acc r = .ok (acc ++ (xs.filter p).map f) r' ∧ I r'
  | [], acc, r, h, _, _ => ⟨r, by simp [loopC_nil], h⟩
  | x :: xs, acc, r, h, hl, k => by
    obtain ⟨r1, r2, e1, e2, e3, e4⟩ := k x (by simp) r h
    rw [loopC_cons, e1, lift_some, bind_ok, e2, bind_ok]
    cases hp : p x with
    | false =>
      obtain ⟨r', e, h'⟩ := loopC_eq xs acc r2 (e3 hp) (by simp at hl; omega) fun y hy => k y (by simp [hy])
      exact ⟨r', by simp only [e, List.filter_cons, hp]; simp, h'⟩
    | true =>
      obtain ⟨r3, e5, h3⟩ := e4 hp
      obtain ⟨r', e, h'⟩ := loopC_eq xs (acc ++ [f x]) r3 h3 (by simp at hl ⊢; omega) fun y hy => k y (by simp [hy])
      refine ⟨r', ?_, h'⟩
      simp only
      rw [e5, bind_ok, if_pos (by rw [Nat.blt_eq]; simp at hl; omega), e]
      simp [List.filter_cons, hp]
theorem fl_f {d : D} : flatR false d = (false, d) := rfl
theorem fl_lst {xs : List D} : flatR true (.lst xs) = (true, .lst xs) := rfl
theorem fl_dk {xs : List (L2.Key × D)} : flatR true (.dk xs) = (true, .dk xs) := rfl
theorem fl_ins {C : Nat} {xs : List (Str × D)} : flatR true (.ins C xs) = (true, .ins C xs) := rfl
theorem fl_tp {ps : List (Bool × D)} : flatR true (.tp ps) = (false, .tup (ps.map (·.2))) := rfl
theorem ev_comp {cl : Cal} {vs : List (Str × Nat)} {tg : List Nat} {it cond elt : CE} {r r0 r' : Rho} {xs ys : List D} (hI : evI cl it r = .ok xs r0) (hw : mayWipe r0 (vs.map (·.2)) = true)
    (hl : loopC (oneOf tg) (vs.map (·.2)) (fun r => if cond.isNil then .ok true r else (ev cl cond .tst r).bind fun x r => lift (isT x.2) r) (fun r => (ev cl elt .val r).bind fun x r => .ok x.2 r) xs [] r0 = .ok ys r') :
    ev cl (.comp vs tg it cond elt) .val r = .ok (true, .lst ys) (restore r0 r' (vs.map (·.2))) := by
  show ((evI cl it r).bind fun xs r => if mayWipe r (vs.map (·.2)) then
      (calm (loopC (oneOf tg) (vs.map (·.2)) (fun r => if cond.isNil then .ok true r else (ev cl cond .tst r).bind fun x r => lift (isT x.2) r)
        (fun r => (ev cl elt .val r).bind fun x r => .ok x.2 r) xs [] r)).bind fun ys r' => Out.ok (true, D.lst ys) (restore r r' (vs.map (·.2)))
    else Out.no) = _
  rw [hI, bind_ok, if_pos hw, hl, calm_ok, bind_ok]
/-- a comprehension with a condition, exactly -/
theorem comp_if {cl : Cal} {vs : List (Str × Nat)} {tg : List Nat} {it cond elt : CE} {r r0 : Rho} {xs : List D} {I : Rho → Prop} {p : D → Bool} {f : D → D} (hI : evI cl it r = .ok xs r0) (hw : mayWipe r0 (vs.map (·.2)) = true)
    (hn : cond.isNil = false) (hl : xs.length ≤ sizeLine) (h0 : I r0)
    (hs : ∀ x ∈ xs, ∀ r, I r → ∃ b r1 r2, (oneOf tg).put ((vs.map (·.2)).foldl (fun r i => r.set i none) r) x = some r1 ∧ ev cl cond .tst r1 = .ok (b, .bl (p x)) r2 ∧ (p x = false → I r2) ∧ (p x = true → ∃ b r3, ev cl elt .val r2 = .ok (b, f x) r3 ∧ I r3))
    (hr : ∀ r', I r' → restore r0 r' (vs.map (·.2)) = r0) : ev cl (.comp vs tg it cond elt) .val r = .ok (true, .lst ((xs.filter p).map f)) r0 := by
  obtain ⟨r', e, h'⟩ := loopC_eq (tg := oneOf tg) (vs := vs.map (·.2)) (fc := fun r => if cond.isNil then .ok true r else (ev cl cond .tst r).bind fun x r => lift (isT x.2) r) (fe := fun r => (ev cl elt .val r).bind fun x r => .ok x.2 r) (I := I) (p := p) (f := f) xs [] r0 h0 (by simpa using hl) (fun x hx r hr => by
    obtain ⟨b, r1, r2, e1, e2, e3, e4⟩ := hs x hx r hr
    refine ⟨r1, r2, e1, ?_, e3, fun h => ?_⟩
    · simp only [hn]
      rw [if_neg (by decide), e2]
      rfl
    · obtain ⟨b, r3, e5, h5⟩ := e4 h
      exact ⟨r3, by rw [e5]; rfl, h5⟩)
  rw [ev_comp hI hw e, hr r' h']
  simp
/-- a comprehension without one -/
theorem comp_all {cl : Cal} {vs : List (Str × Nat)} {tg : List Nat} {it elt : CE} {r r0 : Rho} {xs : List D} {I : Rho → Prop} {f : D → D} (hI : evI cl it r = .ok xs r0) (hw : mayWipe r0 (vs.map (·.2)) = true)
    (hl : xs.length ≤ sizeLine) (h0 : I r0)
    (hs : ∀ x ∈ xs, ∀ r, I r → ∃ b r1 r3, (oneOf tg).put ((vs.map (·.2)).foldl (fun r i => r.set i none) r) x = some r1 ∧ ev cl elt .val r1 = .ok (b, f x) r3 ∧ I r3)
    (hr : ∀ r', I r' → restore r0 r' (vs.map (·.2)) = r0) : ev cl (.comp vs tg it .nil elt) .val r = .ok (true, .lst (xs.map f)) r0 := by
  obtain ⟨r', e, h'⟩ := loopC_eq (tg := oneOf tg) (vs := vs.map (·.2)) (fc := fun r => if CE.nil.isNil then .ok true r else (ev cl CE.nil .tst r).bind fun x r => lift (isT x.2) r) (fe := fun r => (ev cl elt .val r).bind fun x r => .ok x.2 r) (I := I) (p := fun _ => true) (f := f) xs [] r0 h0 (by simpa using hl) (fun x hx r hr => by
    obtain ⟨b, r1, r3, e1, e2, e3⟩ := hs x hx r hr
    exact ⟨r1, r1, e1, rfl, fun h => (Bool.noConfusion h), fun _ => ⟨r3, by rw [e2]; rfl, e3⟩⟩)
  rw [ev_comp hI hw e, hr r' h', List.nil_append, List.filter_eq_self.mpr fun _ _ => rfl]
end Eg
/-! Eg26: data that can be shown. -/
namespace Eg
open PySem PySem.Spec PyProof.Rows L2
theorem sok_app {a b : Str} (h1 : PyData.strOk a = true) (h2 : PyData.strOk b = true) : PyData.strOk (a ++ b) = true := by
  unfold PyData.strOk at *
  rw [Str.cps_append, Array.all_append, h1, h2]
  rfl
theorem sok_of (a : String) : PyData.strOk (Str.ofString a) = true := by
  have h := sh_str a
  unfold SeqAt.shaped PyData.canLay0 at h
  simp only [Bool.and_eq_true] at h
  exact h.1
theorem sok_join {sep : Str} (hs : PyData.strOk sep = true) : ∀ ts : List Str, (∀ t ∈ ts, PyData.strOk t = true) → PyData.strOk (Str.join sep ts) = true
  | [], _ => by simp [Str.join, Str.empty, PyData.strOk]
  | [x], h => h x (by simp)
  | x :: y :: r, h => sok_app (sok_app (h x (by simp)) hs) (sok_join hs (y :: r) fun t ht => h t (by simp at ht ⊢; exact .inr ht))
theorem sok_from : ∀ (ts : List Str) (k : Nat) (acc : Str), PyData.strOk acc = true → (∀ t ∈ ts, PyData.strOk t = true) → PyData.strOk (textFrom k acc ts) = true
  | [], _, _, h, _ => h
  | t :: r, k, acc, h, ht => sok_from r (k + 1) _ (sok_app (sok_app h (sok_of _)) (ht t (by simp))) fun u hu => ht u (by simp [hu])
structure Sh (d : D) (p : PyData) (dp wt : Nat) : Prop where
  py : d.py = some p
  sa : PyData.showable p = true
  cl : PyData.canLay0 p = true
  dd : PyData.depth p ≤ dp
  ww : PyData.weight p ≤ wt
  ii : PyData.intsShort 13 p = true
  so : PyData.strOk p.shown = true
structure ShL (ds : List D) (ps : List PyData) (dp wt : Nat) : Prop where
  py : D.pyL ds = some ps
  sa : PyData.showableAll ps = true
  cl : PyData.canLayAll0 ps = true
  dd : PyData.depthAll ps ≤ dp
  ww : PyData.weightAll ps ≤ wt
  ii : PyData.intsShortAll 13 ps = true
  so : ∀ t ∈ PyData.shownAll ps, PyData.strOk t = true
theorem log_small {n : Nat} (h : n ≤ 999999) : n.log2 < 20 := by
  by_cases h0 : n = 0
  · rw [h0]
    decide
  · exact (Nat.log2_lt h0).mpr (by omega)
theorem sh_int (i : Int) (h0 : -999999 ≤ i) (h1 : i ≤ 999999) : Sh (.int i) (.int i) 0 20 := by
  have hl := log_small (n := i.natAbs) (by omega)
  refine ⟨rfl, ?_, rfl, Nat.le_refl _, ?_, ?_, sok_of _⟩
  · simp only [PyData.showable, decide_eq_true_eq]
    omega
  · simp only [PyData.weight]
    split <;> omega
  · simp only [PyData.intsShort, decide_eq_true_eq]
    exact PyData.shown_int_le2 (by omega) (by omega)
theorem sh_str_ (x : Str) (n : Nat) (h1 : PyData.strOk x = true) (h2 : PyData.strOk (PyData.shown (.str x)) = true) (h3 : x.cps.size ≤ n) : Sh (.str x) (.str x) 0 n :=
  ⟨rfl, rfl, by simpa [PyData.canLay0] using h1, Nat.le_refl _, h3, rfl, h2⟩
theorem shL_nil : ShL [] [] 0 0 := ⟨rfl, rfl, rfl, Nat.le_refl _, Nat.le_refl _, rfl, fun _ h => nomatch h⟩
theorem shL_cons {d : D} {p : PyData} {ds : List D} {ps : List PyData} {a b c e : Nat} (h : Sh d p a b) (hs : ShL ds ps c e) : ShL (d :: ds) (p :: ps) (max a c) (b + 1 + e) := by
  refine ⟨?_, ?_, ?_, ?_, ?_, ?_, ?_⟩
  · show (match D.py d, D.pyL ds with
      | some x, some xs => some (x :: xs)
      | _, _ => none) = _
    rw [h.py, hs.py]
  · simp only [PyData.showableAll, h.sa, hs.sa, Bool.and_self]
  · simp only [PyData.canLayAll0, h.cl, hs.cl, Bool.and_self]
  · simp only [PyData.depthAll]
    have := h.dd
    have := hs.dd
    omega
  · simp only [PyData.weightAll]
    have := h.ww
    have := hs.ww
    omega
  · simp only [PyData.intsShortAll, h.ii, hs.ii, Bool.and_self]
  · intro t ht
    simp only [PyData.shownAll, List.mem_cons] at ht
    rcases ht with rfl | ht
    · exact h.so
    · exact hs.so t ht
theorem sh_tup {ds : List D} {ps : List PyData} {a b : Nat} (h : ShL ds ps a b) : Sh (.tup ds) (.tuple ps) (a + 1) b := by
  refine ⟨?_, ?_, ?_, ?_, ?_, ?_, ?_⟩
  · show (D.pyL ds).map PyData.tuple = _
    rw [h.py]
    rfl
  · simpa [PyData.showable] using h.sa
  · simpa [PyData.canLay0] using h.cl
  · simp only [PyData.depth]
    have := h.dd
    omega
  · simpa [PyData.weight] using h.ww
  · simpa [PyData.intsShort] using h.ii
  · show PyData.strOk (tupleText (PyData.shownAll ps)) = true
    unfold tupleText
    exact sok_app (sok_app (sok_of _) (sok_join (sok_of _) _ h.so)) (sok_of _)
theorem sh_lst {ds : List D} {ps : List PyData} {a b : Nat} (h : ShL ds ps a b) : Sh (.lst ds) (.list ps) (a + 1) b := by
  refine ⟨?_, ?_, ?_, ?_, ?_, ?_, ?_⟩
  · show (D.pyL ds).map PyData.list = _
    rw [h.py]
    rfl
  · simpa [PyData.showable] using h.sa
  · simpa [PyData.canLay0] using h.cl
  · simp only [PyData.depth]
    have := h.dd
    omega
  · simpa [PyData.weight] using h.ww
  · simpa [PyData.intsShort] using h.ii
  · show PyData.strOk (listText (PyData.shownAll ps)) = true
    unfold listText
    exact sok_app (sok_from _ _ _ (sok_of _) h.so) (sok_of _)
/-- repr of data, and what comes of comparing it with itself -/
theorem repr_ok {d : D} {p : PyData} {a b : Nat} (h : Sh d p a b) (ha : a ≤ 60) (hb : b ≤ 1048576) (hd : bltD.isDisplay p = true) :
    bltD .repr [d] = some (false, .str p.shown) ∧ cmpD .ne (.str p.shown) (.str p.shown) = some false ∧ cmpD .eq (.str p.shown) (.str p.shown) = some true := by
  have hdd := h.dd
  have hww := h.ww
  have hl : p.shown.length ≤ 15728653 := by
    refine shown_le13 ?_ h.ii
    show (PyData.canLay0 p && decide (PyData.depth p ≤ 64) && decide (PyData.weight p ≤ 2 ^ 20)) = true
    simp only [h.cl, Bool.true_and, Bool.and_eq_true, decide_eq_true_eq]
    have e : (2 : Nat) ^ 20 = 1048576 := by decide
    omega
  have hh : PyData.hasDict p = false := PyData.hasDict_of_canLay p h.cl
  have e1 : bltD .repr [d] = some (false, .str p.shown) := by
    show (match d.py with
      | some d => if PyData.showable d && !PyData.hasDict d && bltD.isDisplay d && decide (d.depth ≤ 60) && small d.shown.length then some (false, D.str d.shown) else none
      | none => none) = _
    rw [h.py]
    simp only [h.sa, hh, hd]
    rw [if_pos]
    simp only [Bool.not_false, Bool.and_self, Bool.true_and, Bool.and_eq_true, decide_eq_true_eq]
    refine ⟨by omega, Nat.ble_eq_true_of_le ?_⟩
    show _ ≤ 2 ^ 24
    have e : (2 : Nat) ^ 24 = 16777216 := by decide
    omega
  have hs : SeqAt.shaped (.str p.shown) = true := by
    unfold SeqAt.shaped
    simp only [PyData.canLay0, h.so, PyData.depth]
    rfl
  have e2 : cmpD .eq (.str p.shown) (.str p.shown) = some true := by
    show (if SeqAt.shaped (.str p.shown) && SeqAt.shaped (.str p.shown) then some (PyData.eqv (.str p.shown) (.str p.shown)) else none) = _
    rw [hs]
    unfold PyData.eqv
    simp
  refine ⟨e1, ?_, e2⟩
  show (cmpD .eq (.str p.shown) (.str p.shown)).map (!·) = _
  rw [e2]
  rfl
/-- a comprehension without a condition, turn by turn -/
theorem loopC_ix {tg : Tg} {vs : List Nat} {fc : Rho → Out Bool} {fe : Rho → Out D} {I : Nat → Rho → Prop} {P : D → Prop} : ∀ (xs acc : List D) (i : Nat) (r : Rho), I i r → acc.length + xs.length ≤ sizeLine →
    (∀ x ∈ xs, ∀ j r, i ≤ j → j < i + xs.length → I j r → ∃ r1 y r3, tg.put (vs.foldl (fun r i => r.set i none) r) x = some r1 ∧ fc r1 = .ok true r1 ∧ fe r1 = .ok y r3 ∧ P y ∧ I (j + 1) r3) →
    ∃ ys r', loopC tg vs fc fe xs acc r = .ok (acc ++ ys) r' ∧ I (i + xs.length) r' ∧ (∀ y ∈ ys, P y) ∧ ys.length = xs.length
  | [], acc, i, r, h, _, _ => ⟨[], r, by simp [loopC_nil], h, (fun _ h => nomatch h), rfl⟩
  | x :: xs, acc, i, r, h, hl, k => by
    obtain ⟨r1, y, r3, e1, e2, e3, hy, h3⟩ := k x (by simp) i r (Nat.le_refl _) (by simp) h
    obtain ⟨ys, r', e, h', hP, hn⟩ := loopC_ix xs (acc ++ [y]) (i + 1) r3 h3 (by simp at hl ⊢; omega) fun z hz j r hj hj2 => k z (by simp [hz]) j r (by omega) (by simp; omega)
    refine ⟨y :: ys, r', ?_, ?_, ?_, by simp [hn]⟩
    · rw [loopC_cons, e1, lift_some, bind_ok, e2, bind_ok]
      simp only
      rw [e3, bind_ok, if_pos (by rw [Nat.blt_eq]; simp at hl; omega), e]
      simp
    · rw [show i + (x :: xs).length = i + 1 + xs.length by simp; omega]
      exact h'
    · intro z hz
      rcases List.mem_cons.mp hz with rfl | hz
      · exact hy
      · exact hP z hz
end Eg
namespace Law
open PySem PySem.Spec PyProof.Rows L2 Eg
abbrev P0 : Program := PySem.Challenge.pw_putonlyif_k62_whole_texts
def top (i : Nat) : Stmt := P0.main.body.getD i (.Pass ⟨0, 0, 0, 0⟩)
def mth (i j : Nat) : Stmt := (Eg.clsBody (top i)).getD j (.Pass ⟨0, 0, 0, 0⟩)
def v_GREAT : Eg.D := (.str "great")
def v_SMALL : Eg.D := (.str "small")
def v_TAKE : Eg.D := (.str "take")
def v_TICK : Eg.D := (.str "tick")
def v_PLAIN : Eg.D := (.str "plain")
def v_TAG : Eg.D := (.str "tag")
def v_LOOK : Eg.D := (.str "look")
def v_STAMP : Eg.D := (.str "stamp")
def v_IF_THERE : Eg.D := (.str "there")
def v_IF_NONE : Eg.D := (.str "none")
def v_READ_CONDITIONS : Eg.D := (.tup [(.str "look"), (.str "plain"), (.str "stamp"), (.str "tag")])
def v_PUT_CONDITIONS : Eg.D := (.tup [(.str "none"), (.str "plain"), (.str "stamp"), (.str "tag"), (.str "there")])
def v_TAKE_CONDITIONS : Eg.D := (.tup [(.str "plain"), (.str "stamp"), (.str "tag"), (.str "there")])
def v_GOT : Eg.D := (.str "got")
def v_MINE : Eg.D := (.str "mine")
def v_UNCHANGED : Eg.D := (.str "unchanged")
def v_ABSENT : Eg.D := (.str "absent")
def v_YES : Eg.D := (.str "yes")
def v_NO : Eg.D := (.str "no")
def v_MOST_STEPS : Eg.D := (.int (8))
def v_READ : Eg.D := (.str "read")
def v_PUT : Eg.D := (.str "put")
def v_FORGET : Eg.D := (.str "forget")
def v_END : Eg.D := (.str "end")
def v_OPEN : Eg.D := (.str "open")
def v_LOST : Eg.D := (.str "lost")
def v_ENDS : Eg.D := (.tup [(.str "yes"), (.str "no"), (.str "open")])
def v_CONDITIONS : Eg.D := (.dw [(.inr "read", (.tup [(.str "look"), (.str "plain"), (.str "stamp"), (.str "tag")])), (.inr "put", (.tup [(.str "none"), (.str "plain"), (.str "stamp"), (.str "tag"), (.str "there")])), (.inr "take", (.tup [(.str "plain"), (.str "stamp"), (.str "tag"), (.str "there")]))])
def v_ANSWERS : Eg.D := (.dw [(.inr "read", (.tup [(.str "got"), (.str "mine"), (.str "unchanged"), (.str "absent"), (.str "lost")])), (.inr "put", (.tup [(.str "yes"), (.str "no"), (.str "lost")])), (.inr "take", (.tup [(.str "yes"), (.str "no"), (.str "absent"), (.str "lost")]))])
def v_ANSWERED : Eg.D := (.str "answered")
def v_UNHEARD : Eg.D := (.str "unheard")
def v_UNSENT : Eg.D := (.str "unsent")
def v_COME : Eg.D := (.str "come")
def v_EVENTS : Eg.D := (.tup [(.str "great"), (.str "small"), (.str "take"), (.str "tick"), (.str "answered"), (.str "unheard"), (.str "unsent"), (.str "come")])
def v_FEED : Eg.D := (.str "\n")
def v_BLANK : Eg.D := (.str " ")
def v_FIGURES : Eg.D := (.tup [(.str "0"), (.str "1"), (.str "2"), (.str "3"), (.str "4"), (.str "5"), (.str "6"), (.str "7"), (.str "8"), (.str "9")])
def cs : List (Str × Eg.D) := [(("GREAT" : Str), v_GREAT), (("SMALL" : Str), v_SMALL), (("TAKE" : Str), v_TAKE), (("TICK" : Str), v_TICK), (("PLAIN" : Str), v_PLAIN), (("TAG" : Str), v_TAG), (("LOOK" : Str), v_LOOK), (("STAMP" : Str), v_STAMP), (("IF_THERE" : Str), v_IF_THERE), (("IF_NONE" : Str), v_IF_NONE), (("READ_CONDITIONS" : Str), v_READ_CONDITIONS), (("PUT_CONDITIONS" : Str), v_PUT_CONDITIONS), (("TAKE_CONDITIONS" : Str), v_TAKE_CONDITIONS), (("GOT" : Str), v_GOT), (("MINE" : Str), v_MINE), (("UNCHANGED" : Str), v_UNCHANGED), (("ABSENT" : Str), v_ABSENT), (("YES" : Str), v_YES), (("NO" : Str), v_NO), (("MOST_STEPS" : Str), v_MOST_STEPS), (("READ" : Str), v_READ), (("PUT" : Str), v_PUT), (("FORGET" : Str), v_FORGET), (("END" : Str), v_END), (("OPEN" : Str), v_OPEN), (("LOST" : Str), v_LOST), (("ENDS" : Str), v_ENDS), (("CONDITIONS" : Str), v_CONDITIONS), (("ANSWERS" : Str), v_ANSWERS), (("ANSWERED" : Str), v_ANSWERED), (("UNHEARD" : Str), v_UNHEARD), (("UNSENT" : Str), v_UNSENT), (("COME" : Str), v_COME), (("EVENTS" : Str), v_EVENTS), (("FEED" : Str), v_FEED), (("BLANK" : Str), v_BLANK), (("FIGURES" : Str), v_FIGURES)]
def fs : List (Str × Nat) := [(("_wall" : Str), 0), (("is_one_of" : Str), 1), (("is_number" : Str), 2), (("is_step" : Str), 3), (("step_text" : Str), 4), (("script_text" : Str), 5), (("events_text" : Str), 6), (("lines_in" : Str), 7), (("form_of" : Str), 8), (("step_in" : Str), 9), (("read_script" : Str), 10), (("read_events" : Str), 11), (("_law_begun" : Str), 12), (("_law_draw" : Str), 13), (("_law_of" : Str), 14), (("_law_conditions" : Str), 15), (("_law_any_step" : Str), 16), (("_law_any_steps" : Str), 17), (("_law_line" : Str), 18), (("law" : Str), 19)]
def bs : List Str := ["isinstance", "str", "int", "bool", "all", "tuple", "len", "zip", "enumerate", "list", "range", "min"]
def ks : List (Str × Nat × Nat) := [("Script", 27, 41)]
def fl : List (Str × List Nat) := [("steps", [41])]
def ms : List (Str × List (Nat × Nat)) := [("__len__", [(41, 21)]), ("__eq__", [(41, 22)]), ("__getitem__", [(41, 23)]), ("writes", [(41, 25)]), ("with_condition", [(41, 26)])]
def ts : List Str := []
def dx : List Str := ["_law_told[]"]
def du : List Nat := [41]
def g : Gs := ⟨cs, fs, bs, ks, fl, ms, ts, dx, du, true⟩
def N__wall : List Str := ["k"]
def N_is_one_of : List Str := ["value", "words"]
def N_is_number : List Str := ["value", "many"]
def N_is_step : List Str := ["value", "many", "nexts", "one"]
def N_step_text : List Str := ["one", "answers", "nexts", "words", "word", "answer", "number"]
def N_script_text : List Str := ["script", "one"]
def N_events_text : List Str := ["events", "number", "event"]
def N_lines_in : List Str := ["text", "line"]
def N_form_of : List Str := ["word", "found", "answer"]
def N_step_in : List Str := ["line", "words", "form", "place", "some", "begin", "word"]
def N_read_script : List Str := ["text", "lines", "steps", "line", "words"]
def N_read_events : List Str := ["text", "lines", "words", "place", "word"]
def N__law_begun : List Str := ["_law_script", "_law_k", "_law_cells", "_law_great", "_law_cell", "_law_seed"]
def N__law_draw : List Str := ["_law_m", "_law_many", "_law_found", "_law_spot", "_law_cells", "_law_added", "_law_cell", "_law_blend"]
def N__law_of : List Str := ["_law_m", "_law_some"]
def N__law_conditions : List Str := ["_law_kind", "_law_found"]
def N__law_any_step : List Str := ["_law_m", "_law_total", "_law_way", "_law_nexts", "_law_k", "_law_size"]
def N__law_any_steps : List Str := ["_law_m", "_law_most", "_law_total", "_law_found", "_law_k"]
def N__law_line : List Str := ["_law_one", "_law_words", "_law_some", "_law_row", "_law_word", "_law_number"]
def N_law : List Str := ["_law_script", "_law_k", "_law_m", "_law_steps", "_law_text", "_law_told", "_law_words", "_law_row", "_law_line_here", "_law_turn", "_law_one"]
def N_Script___init__ : List Str := ["self", "steps", "number", "one"]
def N_Script___len__ : List Str := ["self"]
def N_Script___eq__ : List Str := ["self", "other"]
def N_Script___getitem__ : List Str := ["self", "number"]
def N_Script___iter__ : List Str := ["self"]
def N_Script_writes : List Str := ["self"]
def N_Script_with_condition : List Str := ["self", "number", "condition"]
def b__wall : CS := (.cons (.whl (.lit (.bl true)) (.cons .pass .nil)) .nil)
def f__wall : Fn := ⟨1, 1, b__wall, none⟩
def b_is_one_of : CS := (.cons (.ret (.and (.isi (.var 0) .str) (.cmp .isIn (.var 0) (.var 1)))) .nil)
def f_is_one_of : Fn := ⟨2, 2, b_is_one_of, none⟩
def b_is_number : CS := (.cons (.ret (.and (.isi (.var 0) .int) (.and (.not (.isi (.var 0) .bool)) (.chn .le .lt (.lit (.int (0))) (.var 0) (.var 1))))) .nil)
def f_is_number : Fn := ⟨2, 2, b_is_number, none⟩
def b_is_step : CS := (.cons (.ifs (.or (.not (.isi (.var 0) .tuple)) (.or (.cmp .lt (.blt .len (.cons (.var 0) .nil)) (.lit (.int (2)))) (.not (.isi (.idx (.var 0) (.lit (.int (0)))) .str)))) (.cons (.ret (.lit (.bl false))) .nil) .nil) (.cons (.ifs (.cmp .eq (.idx (.var 0) (.lit (.int (0)))) (.con "END" v_END)) (.cons (.ret (.and (.cmp .eq (.blt .len (.cons (.var 0) .nil)) (.lit (.int (2)))) (.call 1 "is_one_of" (.cons (.idx (.var 0) (.lit (.int (1)))) (.cons (.con "ENDS" v_ENDS) .nil))))) .nil) .nil) (.cons (.ifs (.cmp .eq (.idx (.var 0) (.lit (.int (0)))) (.con "FORGET" v_FORGET)) (.cons (.ret (.and (.cmp .eq (.blt .len (.cons (.var 0) .nil)) (.lit (.int (2)))) (.call 2 "is_number" (.cons (.idx (.var 0) (.lit (.int (1)))) (.cons (.var 1) .nil))))) .nil) .nil) (.cons (.ifs (.or (.cmp .notIn (.idx (.var 0) (.lit (.int (0)))) (.con "CONDITIONS" v_CONDITIONS)) (.not (.call 1 "is_one_of" (.cons (.idx (.var 0) (.lit (.int (1)))) (.cons (.idx (.con "CONDITIONS" v_CONDITIONS) (.idx (.var 0) (.lit (.int (0))))) .nil))))) (.cons (.ret (.lit (.bl false))) .nil) .nil) (.cons (.set 2 (.slc (.var 0) (.cons (.lit (.int (2))) .nil) .nil)) (.cons (.ifs (.cmp .eq (.idx (.var 0) (.lit (.int (0)))) (.con "PUT" v_PUT)) (.cons (.ifs (.or (.cmp .lt (.blt .len (.cons (.var 0) .nil)) (.lit (.int (3)))) (.not (.call 1 "is_one_of" (.cons (.idx (.var 0) (.lit (.int (2)))) (.cons (.tup (.cons (.con "SMALL" v_SMALL) (.cons (.con "GREAT" v_GREAT) .nil))) .nil))))) (.cons (.ret (.lit (.bl false))) .nil) .nil) (.cons (.set 2 (.slc (.var 0) (.cons (.lit (.int (3))) .nil) .nil)) .nil)) .nil) (.cons (.ret (.and (.cmp .eq (.blt .len (.cons (.var 2) .nil)) (.blt .len (.cons (.idx (.con "ANSWERS" v_ANSWERS) (.idx (.var 0) (.lit (.int (0))))) .nil))) (.blt .all (.cons (.comp [("one", 3)] [3] (.seq (.var 2)) .nil (.call 2 "is_number" (.cons (.var 3) (.cons (.var 1) .nil)))) .nil)))) .nil)))))))
def f_is_step : Fn := ⟨2, 4, b_is_step, none⟩
def b_step_text : CS := (.cons (.ifs (.cmp .isIn (.idx (.var 0) (.lit (.int (0)))) (.tup (.cons (.con "END" v_END) (.cons (.con "FORGET" v_FORGET) .nil)))) (.cons (.ret (.bin .add (.bin .add (.idx (.var 0) (.lit (.int (0)))) (.con "BLANK" v_BLANK)) (.blt .str (.cons (.idx (.var 0) (.lit (.int (1)))) .nil)))) .nil) .nil) (.cons (.set 1 (.idx (.con "ANSWERS" v_ANSWERS) (.idx (.var 0) (.lit (.int (0)))))) (.cons (.set 2 (.slc (.var 0) (.cons (.bin .sub (.blt .len (.cons (.var 0) .nil)) (.blt .len (.cons (.var 1) .nil))) .nil) .nil)) (.cons (.set 3 (.comp [("word", 4)] [4] (.seq (.slc (.var 0) .nil (.cons (.bin .sub (.blt .len (.cons (.var 0) .nil)) (.blt .len (.cons (.var 1) .nil))) .nil))) .nil (.blt .str (.cons (.var 4) .nil)))) (.cons (.ret (.txt .join (.con "BLANK" v_BLANK) (.bin .add (.var 3) (.comp [("answer", 5), ("number", 6)] [5, 6] (.zip (.var 1) (.var 2)) .nil (.bin .add (.bin .add (.var 5) (.con "BLANK" v_BLANK)) (.blt .str (.cons (.var 6) .nil))))))) .nil)))))
def f_step_text : Fn := ⟨1, 7, b_step_text, none⟩
def b_script_text : CS := (.cons (.ret (.txt .join (.con "FEED" v_FEED) (.comp [("one", 1)] [1] (.seq (.fld [41] "steps" (.var 0))) .nil (.call 4 "step_text" (.cons (.var 1) .nil))))) .nil)
def f_script_text : Fn := ⟨1, 2, b_script_text, none⟩
def b_events_text : CS := (.cons (.ifs (.not (.isis (.var 0) [.list, .tuple])) (.cons .never .nil) .nil) (.cons (.forsE [1, 2] 0 (.cons (.ifs (.not (.call 1 "is_one_of" (.cons (.var 2) (.cons (.con "EVENTS" v_EVENTS) .nil)))) (.cons .never .nil) .nil) .nil)) (.cons (.ret (.txt .join (.con "BLANK" v_BLANK) (.blt .list (.cons (.var 0) .nil)))) .nil)))
def f_events_text : Fn := ⟨1, 3, b_events_text, none⟩
def b_lines_in : CS := (.cons (.ifs (.not (.isi (.var 0) .str)) (.cons .never .nil) .nil) (.cons (.ret (.comp [("line", 1)] [1] (.seq (.txt .split (.var 0) (.con "FEED" v_FEED))) .nil (.txt .split (.var 1) (.con "BLANK" v_BLANK)))) .nil))
def f_lines_in : Fn := ⟨1, 2, b_lines_in, none⟩
def b_form_of : CS := (.cons (.ifs (.cmp .eq (.var 0) (.con "END" v_END)) (.cons (.ret (.lst (.cons (.con "ENDS" v_ENDS) .nil))) .nil) .nil) (.cons (.ifs (.cmp .eq (.var 0) (.con "FORGET" v_FORGET)) (.cons (.ret (.lst (.cons (.con "FIGURES" v_FIGURES) .nil))) .nil) .nil) (.cons (.set 1 (.bin .add (.lst (.cons (.idx (.con "CONDITIONS" v_CONDITIONS) (.var 0)) .nil)) (.ife (.cmp .eq (.var 0) (.con "PUT" v_PUT)) (.lst (.cons (.tup (.cons (.con "SMALL" v_SMALL) (.cons (.con "GREAT" v_GREAT) .nil))) .nil)) (.lst .nil)))) (.cons (.fors [2] (.seq (.idx (.con "ANSWERS" v_ANSWERS) (.var 0))) (.cons (.expr (.mut .extend 1 (.cons (.lst (.cons (.tup (.cons (.var 2) .nil)) (.cons (.con "FIGURES" v_FIGURES) .nil))) .nil))) .nil)) (.cons (.ret (.var 1)) .nil)))))
def f_form_of : Fn := ⟨1, 3, b_form_of, none⟩
def b_step_in : CS := (.cons (.ifs (.and (.cmp .notIn (.idx (.var 1) (.lit (.int (0)))) (.con "CONDITIONS" v_CONDITIONS)) (.cmp .notIn (.idx (.var 1) (.lit (.int (0)))) (.tup (.cons (.con "END" v_END) (.cons (.con "FORGET" v_FORGET) .nil))))) (.cons .never .nil) .nil) (.cons (.set 2 (.call 8 "form_of" (.cons (.idx (.var 1) (.lit (.int (0)))) .nil))) (.cons (.forsE [3, 4] 2 (.cons (.ifs (.or (.cmp .ge (.bin .add (.var 3) (.lit (.int (1)))) (.blt .len (.cons (.var 1) .nil))) (.cmp .notIn (.idx (.var 1) (.bin .add (.var 3) (.lit (.int (1))))) (.var 4))) (.cons .never .nil) .nil) .nil)) (.cons (.ifs (.cmp .gt (.blt .len (.cons (.var 1) .nil)) (.bin .add (.blt .len (.cons (.var 2) .nil)) (.lit (.int (1))))) (.cons .never .nil) .nil) (.cons (.ifs (.cmp .eq (.idx (.var 1) (.lit (.int (0)))) (.con "END" v_END)) (.cons (.ret (.tup (.cons (.con "END" v_END) (.cons (.idx (.var 1) (.lit (.int (1)))) .nil)))) .nil) .nil) (.cons (.ifs (.cmp .eq (.idx (.var 1) (.lit (.int (0)))) (.con "FORGET" v_FORGET)) (.cons (.ret (.tup (.cons (.con "FORGET" v_FORGET) (.cons (.blt .int (.cons (.idx (.var 1) (.lit (.int (1)))) .nil)) .nil)))) .nil) .nil) (.cons (.set 5 (.ife (.cmp .eq (.idx (.var 1) (.lit (.int (0)))) (.con "PUT" v_PUT)) (.lit (.int (3))) (.lit (.int (2))))) (.cons (.ret (.blt .tuple (.cons (.bin .add (.slc (.var 1) .nil (.cons (.var 5) .nil)) (.comp [("word", 6)] [6] (.seq (.slc2 (.var 1) (.cons (.bin .add (.var 5) (.lit (.int (1)))) .nil))) .nil (.blt .int (.cons (.var 6) .nil)))) .nil))) .nil))))))))
def f_step_in : Fn := ⟨2, 7, b_step_in, none⟩
def b_read_script : CS := (.cons (.set 1 (.call 7 "lines_in" (.cons (.var 0) .nil))) (.cons (.set 2 (.comp [("line", 3), ("words", 4)] [3, 4] (.enum (.slc (.var 1) .nil (.cons (.con "MOST_STEPS" v_MOST_STEPS) .nil))) .nil (.call 9 "step_in" (.cons (.var 3) (.cons (.var 4) .nil))))) (.cons (.ifs (.cmp .gt (.blt .len (.cons (.var 1) .nil)) (.con "MOST_STEPS" v_MOST_STEPS)) (.cons .never .nil) .nil) (.cons (.ret (.call 27 "Script" (.cons (.var 2) .nil))) .nil))))
def f_read_script : Fn := ⟨1, 5, b_read_script, none⟩
def b_read_events : CS := (.cons (.set 1 (.call 7 "lines_in" (.cons (.var 0) .nil))) (.cons (.set 2 (.ife (.cmp .ne (.idx (.var 1) (.lit (.int (0)))) (.lst (.cons (.lit (.str "")) .nil))) (.idx (.var 1) (.lit (.int (0)))) (.lst .nil))) (.cons (.forsE [3, 4] 2 (.cons (.ifs (.cmp .notIn (.var 4) (.con "EVENTS" v_EVENTS)) (.cons .never .nil) .nil) .nil)) (.cons (.ifs (.cmp .gt (.blt .len (.cons (.var 1) .nil)) (.lit (.int (1)))) (.cons .never .nil) .nil) (.cons (.ret (.blt .tuple (.cons (.var 2) .nil))) .nil)))))
def f_read_events : Fn := ⟨1, 5, b_read_events, none⟩
def b__law_begun : CS := (.cons (.set 2 (.bin .add (.slc (.var 0) (.cons (.var 1) .nil) .nil) (.slc (.var 0) .nil (.cons (.var 1) .nil)))) (.cons (.set 3 (.comp [("_law_cell", 4)] [4] (.seq (.var 2)) (.cmp .ge (.var 4) (.bin .pow (.lit (.int (10))) (.lit (.int (18))))) (.var 4))) (.cons (.set 5 (.bin .add (.lit (.int (97))) (.var 1))) (.cons (.fors [4] (.seq (.var 2)) (.cons (.set 5 (.bin .mod (.blt .int (.cons (.bin .add (.bin .mul (.var 5) (.lit (.int (48271)))) (.var 4)) .nil)) (.lit (.int (2147483647))))) .nil)) (.cons (.ret (.dct (.cons (.lit (.str "left")) (.cons (.ife (.cmp .ne (.var 3) (.lst .nil)) (.idx (.var 3) (.lit (.int (0)))) (.lit (.int (0)))) (.cons (.lit (.str "seed")) (.cons (.var 5) (.cons (.lit (.str "cells")) (.cons (.bin .add (.var 2) (.lst (.cons (.bin .add (.bin .mul (.lit (.int (31))) (.var 1)) (.lit (.int (5)))) .nil))) (.cons (.lit (.str "spot")) (.cons (.lit (.int (0))) .nil)))))))))) .nil)))))
def f__law_begun : Fn := ⟨2, 6, b__law_begun, none⟩
def b__law_draw : CS := (.cons (.ifs (.cmp .gt (.idx (.var 0) (.lit (.str "left"))) (.lit (.int (0)))) (.cons (.set 2 (.bin .mod (.blt .int (.cons (.idx (.var 0) (.lit (.str "left"))) .nil)) (.var 1))) (.cons (.put 0 (.lit (.str "left")) (.bin .fdiv (.idx (.var 0) (.lit (.str "left"))) (.var 1))) (.cons (.ret (.var 2)) .nil))) .nil) (.cons (.set 3 (.idx (.var 0) (.lit (.str "spot")))) (.cons (.put 0 (.lit (.str "spot")) (.bin .add (.var 3) (.lit (.int (1))))) (.cons (.par 4 5 (.idx (.var 0) (.lit (.str "cells"))) (.bin .add (.idx (.var 0) (.lit (.str "seed"))) (.bin .mul (.bin .mul (.lit (.int (40503))) (.var 3)) (.var 3)))) (.cons (.set 6 (.idx (.var 4) (.bin .mod (.blt .int (.cons (.var 3) .nil)) (.blt .len (.cons (.var 4) .nil))))) (.cons (.set 7 (.bin .mod (.blt .int (.cons (.bin .add (.bin .mul (.var 6) (.bin .add (.bin .mul (.lit (.int (2))) (.var 3)) (.lit (.int (3))))) (.var 5)) .nil)) (.lit (.int (2147483647))))) (.cons (.set 7 (.bin .mod (.blt .int (.cons (.bin .add (.bin .add (.bin .mul (.var 7) (.var 7)) (.bin .mul (.lit (.int (69621))) (.var 3))) (.idx (.var 0) (.lit (.str "seed")))) .nil)) (.lit (.int (2147483629))))) (.cons (.ret (.bin .mod (.bin .fdiv (.bin .mod (.blt .int (.cons (.bin .add (.bin .mul (.var 7) (.lit (.int (48271)))) (.var 3)) .nil)) (.lit (.int (2147483647)))) (.lit (.int (11)))) (.var 1))) .nil))))))))
def f__law_draw : Fn := ⟨2, 8, b__law_draw, none⟩
def b__law_of : CS := (.cons (.ret (.idx (.var 1) (.call 13 "_law_draw" (.cons (.var 0) (.cons (.blt .len (.cons (.var 1) .nil)) .nil))))) .nil)
def f__law_of : Fn := ⟨2, 2, b__law_of, none⟩
def b__law_conditions : CS := (.cons (.set 1 (.lst (.cons (.lit (.str "plain")) (.cons (.lit (.str "stamp")) (.cons (.lit (.str "tag")) .nil))))) (.cons (.ret (.bin .add (.var 1) (.idx (.dct (.cons (.lit (.str "read")) (.cons (.lst (.cons (.lit (.str "look")) .nil)) (.cons (.lit (.str "put")) (.cons (.lst (.cons (.lit (.str "there")) (.cons (.lit (.str "none")) .nil))) (.cons (.lit (.str "take")) (.cons (.lst (.cons (.lit (.str "there")) .nil)) .nil))))))) (.var 0)))) .nil))
def f__law_conditions : Fn := ⟨1, 2, b__law_conditions, none⟩
def b__law_any_step : CS := (.cons (.par 2 3 (.call 13 "_law_draw" (.cons (.var 0) (.cons (.lit (.int (9))) .nil))) (.comp [("_law_k", 4)] [4] (.rng1 (.lit (.int (5)))) .nil (.call 13 "_law_draw" (.cons (.var 0) (.cons (.var 1) .nil))))) (.cons (.ifs (.cmp .lt (.var 2) (.lit (.int (3)))) (.cons (.ret (.bin .add (.tup (.cons (.lit (.str "read")) (.cons (.call 14 "_law_of" (.cons (.var 0) (.cons (.call 15 "_law_conditions" (.cons (.lit (.str "read")) .nil)) .nil))) .nil))) (.blt .tuple (.cons (.var 3) .nil)))) .nil) .nil) (.cons (.ifs (.cmp .lt (.var 2) (.lit (.int (6)))) (.cons (.set 5 (.call 14 "_law_of" (.cons (.var 0) (.cons (.lst (.cons (.lit (.str "small")) (.cons (.lit (.str "great")) .nil))) .nil)))) (.cons (.ret (.bin .add (.tup (.cons (.lit (.str "put")) (.cons (.call 14 "_law_of" (.cons (.var 0) (.cons (.call 15 "_law_conditions" (.cons (.lit (.str "put")) .nil)) .nil))) (.cons (.var 5) .nil)))) (.blt .tuple (.cons (.slc (.var 3) .nil (.cons (.lit (.int (3))) .nil)) .nil)))) .nil)) .nil) (.cons (.ifs (.cmp .eq (.var 2) (.lit (.int (6)))) (.cons (.ret (.bin .add (.tup (.cons (.lit (.str "take")) (.cons (.call 14 "_law_of" (.cons (.var 0) (.cons (.call 15 "_law_conditions" (.cons (.lit (.str "take")) .nil)) .nil))) .nil))) (.blt .tuple (.cons (.slc (.var 3) .nil (.cons (.lit (.int (4))) .nil)) .nil)))) .nil) .nil) (.cons (.ret (.ife (.cmp .eq (.var 2) (.lit (.int (7)))) (.tup (.cons (.lit (.str "forget")) (.cons (.idx (.var 3) (.lit (.int (0)))) .nil))) (.tup (.cons (.lit (.str "end")) (.cons (.call 14 "_law_of" (.cons (.var 0) (.cons (.lst (.cons (.lit (.str "yes")) (.cons (.lit (.str "no")) (.cons (.lit (.str "open")) .nil)))) .nil))) .nil))))) .nil)))))
def f__law_any_step : Fn := ⟨2, 6, b__law_any_step, none⟩
def b__law_any_steps : CS := (.cons (.set 2 (.bin .add (.lit (.int (1))) (.call 13 "_law_draw" (.cons (.var 0) (.cons (.var 1) .nil))))) (.cons (.set 3 (.comp [("_law_k", 4)] [4] (.rng1 (.var 2)) .nil (.call 16 "_law_any_step" (.cons (.var 0) (.cons (.var 2) .nil))))) (.cons (.ifs (.cmp .gt (.call 13 "_law_draw" (.cons (.var 0) (.cons (.lit (.int (4))) .nil))) (.lit (.int (0)))) (.cons (.put 3 (.neg (.lit (.int (1)))) (.tup (.cons (.lit (.str "end")) (.cons (.call 14 "_law_of" (.cons (.var 0) (.cons (.lst (.cons (.lit (.str "yes")) (.cons (.lit (.str "no")) (.cons (.lit (.str "open")) .nil)))) .nil))) .nil)))) .nil) .nil) (.cons (.ret (.blt .tuple (.cons (.var 3) .nil))) .nil))))
def f__law_any_steps : Fn := ⟨2, 5, b__law_any_steps, none⟩
def b__law_line : CS := (.cons (.set 1 (.dct (.cons (.lit (.str "read")) (.cons (.lst (.cons (.lit (.str "got")) (.cons (.lit (.str "mine")) (.cons (.lit (.str "unchanged")) (.cons (.lit (.str "absent")) (.cons (.lit (.str "lost")) .nil)))))) (.cons (.lit (.str "put")) (.cons (.lst (.cons (.lit (.str "yes")) (.cons (.lit (.str "no")) (.cons (.lit (.str "lost")) .nil)))) .nil)))))) (.cons (.ifs (.cmp .isIn (.idx (.var 0) (.lit (.int (0)))) (.tup (.cons (.lit (.str "forget")) (.cons (.lit (.str "end")) .nil)))) (.cons (.ret (.bin .add (.bin .add (.idx (.var 0) (.lit (.int (0)))) (.lit (.str " "))) (.blt .str (.cons (.idx (.var 0) (.lit (.int (1)))) .nil)))) .nil) .nil) (.cons (.set 2 (.get2 (.var 1) (.idx (.var 0) (.lit (.int (0)))) (.lst (.cons (.lit (.str "yes")) (.cons (.lit (.str "no")) (.cons (.lit (.str "absent")) (.cons (.lit (.str "lost")) .nil))))))) (.cons (.set 3 (.comp [("_law_word", 4)] [4] (.seq (.slc (.var 0) .nil (.cons (.bin .sub (.blt .len (.cons (.var 0) .nil)) (.blt .len (.cons (.var 2) .nil))) .nil))) .nil (.blt .str (.cons (.var 4) .nil)))) (.cons (.fors [4, 5] (.zip (.var 2) (.slc (.var 0) (.cons (.bin .sub (.blt .len (.cons (.var 0) .nil)) (.blt .len (.cons (.var 2) .nil))) .nil) .nil)) (.cons (.set 3 (.bin .add (.var 3) (.lst (.cons (.var 4) (.cons (.blt .str (.cons (.var 5) .nil)) .nil))))) .nil)) (.cons (.ret (.txt .join (.lit (.str " ")) (.var 3))) .nil))))))
def f__law_line : Fn := ⟨1, 6, b__law_line, none⟩
def b_law : CS := (.cons (.fors [1] (.rng1 (.bin .add (.lit (.int (1))) (.blt .min (.cons (.blt .len (.cons (.var 0) .nil)) (.cons (.lit (.int (9))) .nil))))) (.cons (.set 2 (.call 12 "_law_begun" (.cons (.var 0) (.cons (.var 1) .nil)))) (.cons (.set 3 (.call 17 "_law_any_steps" (.cons (.var 2) (.cons (.lit (.int (8))) .nil)))) (.cons (.set 4 (.txt .join (.lit (.str "\n")) (.comp [("_law_one", 10)] [10] (.seq (.var 3)) .nil (.call 18 "_law_line" (.cons (.var 10) .nil))))) (.cons (.ifs (.cmp .ne (.lst (.cons (.call 5 "script_text" (.cons (.call 27 "Script" (.cons (.var 3) .nil)) .nil)) (.cons (.call 5 "script_text" (.cons (.call 27 "Script" (.cons (.blt .list (.cons (.var 3) .nil)) .nil)) .nil)) .nil))) (.lst (.cons (.var 4) (.cons (.var 4) .nil)))) (.cons (.ret (.lit (.bl false))) .nil) .nil) (.cons (.set 5 (.lst (.cons (.call 10 "read_script" (.cons (.var 4) .nil)) (.cons (.call 10 "read_script" (.cons (.var 4) .nil)) .nil)))) (.cons (.ifs (.or (.dun .ne [41] [(41, 22)] (.cons (.idx (.var 5) (.lit (.int (0)))) (.cons (.call 27 "Script" (.cons (.var 3) .nil)) .nil))) (.cmp .ne (.fld [41] "steps" (.idx (.var 5) (.lit (.int (1))))) (.var 3))) (.cons (.ret (.lit (.bl false))) .nil) .nil) (.cons (.set 6 (.lst (.cons (.lit (.str "great")) (.cons (.lit (.str "small")) (.cons (.lit (.str "take")) (.cons (.lit (.str "tick")) (.cons (.lit (.str "answered")) (.cons (.lit (.str "unheard")) (.cons (.lit (.str "unsent")) (.cons (.lit (.str "come")) .nil)))))))))) (.cons (.set 7 (.comp [("_law_turn", 9)] [9] (.rng1 (.call 13 "_law_draw" (.cons (.var 2) (.cons (.lit (.int (20))) .nil)))) .nil (.call 14 "_law_of" (.cons (.var 2) (.cons (.var 6) .nil))))) (.cons (.set 8 (.txt .join (.lit (.str " ")) (.var 7))) (.cons (.ifs (.or (.cmp .ne (.lst (.cons (.call 6 "events_text" (.cons (.var 7) .nil)) (.cons (.call 6 "events_text" (.cons (.blt .tuple (.cons (.var 7) .nil)) .nil)) .nil))) (.lst (.cons (.var 8) (.cons (.var 8) .nil)))) (.cmp .ne (.call 11 "read_events" (.cons (.var 8) .nil)) (.blt .tuple (.cons (.var 7) .nil)))) (.cons (.ret (.lit (.bl false))) .nil) .nil) .nil))))))))))) (.cons (.set 4 (.lit (.str ("read tag got 1 mine 1 " ++ "unchanged 2 absent 2 " ++ "lost 0\nput stamp small " ++ "yes 2 no 0 lost 0\nend " ++ "open")))) (.cons (.set 3 (.tup (.cons (.tup (.cons (.lit (.str "read")) (.cons (.lit (.str "tag")) (.cons (.lit (.int (1))) (.cons (.lit (.int (1))) (.cons (.lit (.int (2))) (.cons (.lit (.int (2))) (.cons (.lit (.int (0))) .nil)))))))) (.cons (.tup (.cons (.lit (.str "put")) (.cons (.lit (.str "stamp")) (.cons (.lit (.str "small")) (.cons (.lit (.int (2))) (.cons (.lit (.int (0))) (.cons (.lit (.int (0))) .nil))))))) (.cons (.tup (.cons (.lit (.str "end")) (.cons (.lit (.str "open")) .nil))) .nil))))) (.cons (.ifs (.or (.cmp .ne (.fld [41] "steps" (.call 10 "read_script" (.cons (.var 4) .nil))) (.var 3)) (.cmp .ne (.call 5 "script_text" (.cons (.call 27 "Script" (.cons (.var 3) .nil)) .nil)) (.var 4))) (.cons (.ret (.lit (.bl false))) .nil) .nil) (.cons (.ret (.cmp .eq (.lst (.cons (.call 6 "events_text" (.cons (.tup .nil) .nil)) (.cons (.call 11 "read_events" (.cons (.lit (.str "")) .nil)) (.cons (.call 11 "read_events" (.cons (.lit (.str "tick come")) .nil)) .nil)))) (.lst (.cons (.lit (.str "")) (.cons (.tup .nil) (.cons (.tup (.cons (.lit (.str "tick")) (.cons (.lit (.str "come")) .nil))) .nil)))))) .nil)))))
def f_law : Fn := ⟨1, 11, b_law, none⟩
def b_Script___init__ : CS := (.cons (.ifs (.or (.not (.isis (.var 1) [.list, .tuple])) (.not (.chn .le .le (.lit (.int (1))) (.blt .len (.cons (.var 1) .nil)) (.con "MOST_STEPS" v_MOST_STEPS)))) (.cons .never .nil) .nil) (.cons (.forsE [2, 3] 1 (.cons (.ifs (.not (.call 3 "is_step" (.cons (.var 3) (.cons (.blt .len (.cons (.var 1) .nil)) .nil)))) (.cons .never .nil) .nil) .nil)) (.cons (.fput [41] 0 "steps" (.blt .tuple (.cons (.var 1) .nil))) .nil)))
def f_Script___init__ : Fn := ⟨2, 4, b_Script___init__, none⟩
def b_Script___len__ : CS := (.cons (.ret (.blt .len (.cons (.fld [41] "steps" (.var 0)) .nil))) .nil)
def f_Script___len__ : Fn := ⟨1, 1, b_Script___len__, none⟩
def b_Script___eq__ : CS := (.cons (.ret (.and (.isk [41] (.var 1) 41) (.cmp .eq (.fld [41] "steps" (.var 0)) (.fld [41] "steps" (.var 1))))) .nil)
def f_Script___eq__ : Fn := ⟨2, 2, b_Script___eq__, none⟩
def b_Script___getitem__ : CS := (.cons (.ifs (.not (.call 2 "is_number" (.cons (.var 1) (.cons (.blt .len (.cons (.fld [41] "steps" (.var 0)) .nil)) .nil)))) (.cons .never .nil) .nil) (.cons (.ret (.idx (.fld [41] "steps" (.var 0)) (.var 1))) .nil))
def f_Script___getitem__ : Fn := ⟨2, 2, b_Script___getitem__, none⟩
def b_Script___iter__ : CS := (.cons .never .nil)
def f_Script___iter__ : Fn := ⟨1, 1, b_Script___iter__, none⟩
def b_Script_writes : CS := (.cons (.expr (.call 0 "_wall" (.cons (.lit (.int (0))) .nil))) .nil)
def f_Script_writes : Fn := ⟨1, 1, b_Script_writes, none⟩
def b_Script_with_condition : CS := (.cons (.expr (.call 0 "_wall" (.cons (.lit (.int (1))) .nil))) .nil)
def f_Script_with_condition : Fn := ⟨3, 3, b_Script_with_condition, none⟩
def f_Script : Fn := ⟨0, 0, .nil, some (41, 20)⟩
def tabL : List Fn := [f__wall, f_is_one_of, f_is_number, f_is_step, f_step_text, f_script_text, f_events_text, f_lines_in, f_form_of, f_step_in, f_read_script, f_read_events, f__law_begun, f__law_draw, f__law_of, f__law_conditions, f__law_any_step, f__law_any_steps, f__law_line, f_law, f_Script___init__, f_Script___len__, f_Script___eq__, f_Script___getitem__, f_Script___iter__, f_Script_writes, f_Script_with_condition, f_Script]
def tab (i : Nat) : Option Fn := tabL[i]?
end Law
namespace Law
open PySem PySem.Spec PyProof.Rows L2 Eg
theorem c__wall : cSs (cS g 60 60 ⟨N__wall, (defScope (top 0)).names⟩) (defBody (top 0)) = some f__wall.body := by kernel_rfl
theorem s__wall : statB (defArgs (top 0)) (defScope (top 0)) N__wall f__wall = true := by decide +kernel
def d__wall : He.DefD := ⟨(("_wall" : PySem.Str), (none : Option PySem.Str)), "_wall", "_wall", defArgs (top 0), defBody (top 0), defScope (top 0), [], []⟩
theorem c_is_one_of : cSs (cS g 60 60 ⟨N_is_one_of, (defScope (top 12)).names⟩) (defBody (top 12)) = some f_is_one_of.body := by kernel_rfl
theorem s_is_one_of : statB (defArgs (top 12)) (defScope (top 12)) N_is_one_of f_is_one_of = true := by decide +kernel
def d_is_one_of : He.DefD := ⟨(("is_one_of" : PySem.Str), (none : Option PySem.Str)), "is_one_of", "is_one_of", defArgs (top 12), defBody (top 12), defScope (top 12), [], []⟩
theorem c_is_number : cSs (cS g 60 60 ⟨N_is_number, (defScope (top 39)).names⟩) (defBody (top 39)) = some f_is_number.body := by kernel_rfl
theorem s_is_number : statB (defArgs (top 39)) (defScope (top 39)) N_is_number f_is_number = true := by decide +kernel
def d_is_number : He.DefD := ⟨(("is_number" : PySem.Str), (none : Option PySem.Str)), "is_number", "is_number", defArgs (top 39), defBody (top 39), defScope (top 39), [], []⟩
theorem c_is_step : cSs (cS g 60 60 ⟨N_is_step, (defScope (top 40)).names⟩) (defBody (top 40)) = some f_is_step.body := by kernel_rfl
theorem s_is_step : statB (defArgs (top 40)) (defScope (top 40)) N_is_step f_is_step = true := by decide +kernel
def d_is_step : He.DefD := ⟨(("is_step" : PySem.Str), (none : Option PySem.Str)), "is_step", "is_step", defArgs (top 40), defBody (top 40), defScope (top 40), [], []⟩
theorem c_step_text : cSs (cS g 60 60 ⟨N_step_text, (defScope (top 51)).names⟩) (defBody (top 51)) = some f_step_text.body := by kernel_rfl
theorem s_step_text : statB (defArgs (top 51)) (defScope (top 51)) N_step_text f_step_text = true := by decide +kernel
def d_step_text : He.DefD := ⟨(("step_text" : PySem.Str), (none : Option PySem.Str)), "step_text", "step_text", defArgs (top 51), defBody (top 51), defScope (top 51), [], []⟩
theorem c_script_text : cSs (cS g 60 60 ⟨N_script_text, (defScope (top 52)).names⟩) (defBody (top 52)) = some f_script_text.body := by kernel_rfl
theorem s_script_text : statB (defArgs (top 52)) (defScope (top 52)) N_script_text f_script_text = true := by decide +kernel
def d_script_text : He.DefD := ⟨(("script_text" : PySem.Str), (none : Option PySem.Str)), "script_text", "script_text", defArgs (top 52), defBody (top 52), defScope (top 52), [], []⟩
theorem c_events_text : cSs (cS g 60 60 ⟨N_events_text, (defScope (top 53)).names⟩) (defBody (top 53)) = some f_events_text.body := by kernel_rfl
theorem s_events_text : statB (defArgs (top 53)) (defScope (top 53)) N_events_text f_events_text = true := by decide +kernel
def d_events_text : He.DefD := ⟨(("events_text" : PySem.Str), (none : Option PySem.Str)), "events_text", "events_text", defArgs (top 53), defBody (top 53), defScope (top 53), [], []⟩
theorem c_lines_in : cSs (cS g 60 60 ⟨N_lines_in, (defScope (top 54)).names⟩) (defBody (top 54)) = some f_lines_in.body := by kernel_rfl
theorem s_lines_in : statB (defArgs (top 54)) (defScope (top 54)) N_lines_in f_lines_in = true := by decide +kernel
def d_lines_in : He.DefD := ⟨(("lines_in" : PySem.Str), (none : Option PySem.Str)), "lines_in", "lines_in", defArgs (top 54), defBody (top 54), defScope (top 54), [], []⟩
theorem c_form_of : cSs (cS g 60 60 ⟨N_form_of, (defScope (top 55)).names⟩) (defBody (top 55)) = some f_form_of.body := by kernel_rfl
theorem s_form_of : statB (defArgs (top 55)) (defScope (top 55)) N_form_of f_form_of = true := by decide +kernel
def d_form_of : He.DefD := ⟨(("form_of" : PySem.Str), (none : Option PySem.Str)), "form_of", "form_of", defArgs (top 55), defBody (top 55), defScope (top 55), [], []⟩
theorem c_step_in : cSs (cS g 60 60 ⟨N_step_in, (defScope (top 56)).names⟩) (defBody (top 56)) = some f_step_in.body := by kernel_rfl
theorem s_step_in : statB (defArgs (top 56)) (defScope (top 56)) N_step_in f_step_in = true := by decide +kernel
def d_step_in : He.DefD := ⟨(("step_in" : PySem.Str), (none : Option PySem.Str)), "step_in", "step_in", defArgs (top 56), defBody (top 56), defScope (top 56), [], []⟩
theorem c_read_script : cSs (cS g 60 60 ⟨N_read_script, (defScope (top 57)).names⟩) (defBody (top 57)) = some f_read_script.body := by kernel_rfl
theorem s_read_script : statB (defArgs (top 57)) (defScope (top 57)) N_read_script f_read_script = true := by decide +kernel
def d_read_script : He.DefD := ⟨(("read_script" : PySem.Str), (none : Option PySem.Str)), "read_script", "read_script", defArgs (top 57), defBody (top 57), defScope (top 57), [], []⟩
theorem c_read_events : cSs (cS g 60 60 ⟨N_read_events, (defScope (top 58)).names⟩) (defBody (top 58)) = some f_read_events.body := by kernel_rfl
theorem s_read_events : statB (defArgs (top 58)) (defScope (top 58)) N_read_events f_read_events = true := by decide +kernel
def d_read_events : He.DefD := ⟨(("read_events" : PySem.Str), (none : Option PySem.Str)), "read_events", "read_events", defArgs (top 58), defBody (top 58), defScope (top 58), [], []⟩
theorem c__law_begun : cSs (cS g 60 60 ⟨N__law_begun, (defScope (top 60)).names⟩) (defBody (top 60)) = some f__law_begun.body := by kernel_rfl
theorem s__law_begun : statB (defArgs (top 60)) (defScope (top 60)) N__law_begun f__law_begun = true := by decide +kernel
def d__law_begun : He.DefD := ⟨(("_law_begun" : PySem.Str), (none : Option PySem.Str)), "_law_begun", "_law_begun", defArgs (top 60), defBody (top 60), defScope (top 60), [], []⟩
theorem c__law_draw : cSs (cS g 60 60 ⟨N__law_draw, (defScope (top 61)).names⟩) (defBody (top 61)) = some f__law_draw.body := by kernel_rfl
theorem s__law_draw : statB (defArgs (top 61)) (defScope (top 61)) N__law_draw f__law_draw = true := by decide +kernel
def d__law_draw : He.DefD := ⟨(("_law_draw" : PySem.Str), (none : Option PySem.Str)), "_law_draw", "_law_draw", defArgs (top 61), defBody (top 61), defScope (top 61), [], []⟩
theorem c__law_of : cSs (cS g 60 60 ⟨N__law_of, (defScope (top 62)).names⟩) (defBody (top 62)) = some f__law_of.body := by kernel_rfl
theorem s__law_of : statB (defArgs (top 62)) (defScope (top 62)) N__law_of f__law_of = true := by decide +kernel
def d__law_of : He.DefD := ⟨(("_law_of" : PySem.Str), (none : Option PySem.Str)), "_law_of", "_law_of", defArgs (top 62), defBody (top 62), defScope (top 62), [], []⟩
theorem c__law_conditions : cSs (cS g 60 60 ⟨N__law_conditions, (defScope (top 63)).names⟩) (defBody (top 63)) = some f__law_conditions.body := by kernel_rfl
theorem s__law_conditions : statB (defArgs (top 63)) (defScope (top 63)) N__law_conditions f__law_conditions = true := by decide +kernel
def d__law_conditions : He.DefD := ⟨(("_law_conditions" : PySem.Str), (none : Option PySem.Str)), "_law_conditions", "_law_conditions", defArgs (top 63), defBody (top 63), defScope (top 63), [], []⟩
theorem c__law_any_step : cSs (cS g 60 60 ⟨N__law_any_step, (defScope (top 64)).names⟩) (defBody (top 64)) = some f__law_any_step.body := by kernel_rfl
theorem s__law_any_step : statB (defArgs (top 64)) (defScope (top 64)) N__law_any_step f__law_any_step = true := by decide +kernel
def d__law_any_step : He.DefD := ⟨(("_law_any_step" : PySem.Str), (none : Option PySem.Str)), "_law_any_step", "_law_any_step", defArgs (top 64), defBody (top 64), defScope (top 64), [], []⟩
theorem c__law_any_steps : cSs (cS g 60 60 ⟨N__law_any_steps, (defScope (top 65)).names⟩) (defBody (top 65)) = some f__law_any_steps.body := by kernel_rfl
theorem s__law_any_steps : statB (defArgs (top 65)) (defScope (top 65)) N__law_any_steps f__law_any_steps = true := by decide +kernel
def d__law_any_steps : He.DefD := ⟨(("_law_any_steps" : PySem.Str), (none : Option PySem.Str)), "_law_any_steps", "_law_any_steps", defArgs (top 65), defBody (top 65), defScope (top 65), [], []⟩
theorem c__law_line : cSs (cS g 60 60 ⟨N__law_line, (defScope (top 66)).names⟩) (defBody (top 66)) = some f__law_line.body := by kernel_rfl
theorem s__law_line : statB (defArgs (top 66)) (defScope (top 66)) N__law_line f__law_line = true := by decide +kernel
def d__law_line : He.DefD := ⟨(("_law_line" : PySem.Str), (none : Option PySem.Str)), "_law_line", "_law_line", defArgs (top 66), defBody (top 66), defScope (top 66), [], []⟩
theorem c_law : cSs (cS g 60 60 ⟨N_law, (defScope (top 67)).names⟩) (defBody (top 67)) = some f_law.body := by kernel_rfl
theorem s_law : statB (defArgs (top 67)) (defScope (top 67)) N_law f_law = true := by decide +kernel
def d_law : He.DefD := ⟨(("law" : PySem.Str), (none : Option PySem.Str)), "law", "law", defArgs (top 67), defBody (top 67), defScope (top 67), [], []⟩
theorem c_Script___init__ : cSs (cS g 60 60 ⟨N_Script___init__, (defScope (mth 41 0)).names⟩) (defBody (mth 41 0)) = some f_Script___init__.body := by kernel_rfl
theorem s_Script___init__ : statB (defArgs (mth 41 0)) (defScope (mth 41 0)) N_Script___init__ f_Script___init__ = true := by decide +kernel
def d_Script___init__ : He.DefD := ⟨(("Script" : PySem.Str), some ("__init__" : PySem.Str)), "__init__", "Script.__init__", defArgs (mth 41 0), defBody (mth 41 0), defScope (mth 41 0), [], []⟩
theorem c_Script___len__ : cSs (cS g 60 60 ⟨N_Script___len__, (defScope (mth 41 1)).names⟩) (defBody (mth 41 1)) = some f_Script___len__.body := by kernel_rfl
theorem s_Script___len__ : statB (defArgs (mth 41 1)) (defScope (mth 41 1)) N_Script___len__ f_Script___len__ = true := by decide +kernel
def d_Script___len__ : He.DefD := ⟨(("Script" : PySem.Str), some ("__len__" : PySem.Str)), "__len__", "Script.__len__", defArgs (mth 41 1), defBody (mth 41 1), defScope (mth 41 1), [], []⟩
theorem c_Script___eq__ : cSs (cS g 60 60 ⟨N_Script___eq__, (defScope (mth 41 2)).names⟩) (defBody (mth 41 2)) = some f_Script___eq__.body := by kernel_rfl
theorem s_Script___eq__ : statB (defArgs (mth 41 2)) (defScope (mth 41 2)) N_Script___eq__ f_Script___eq__ = true := by decide +kernel
def d_Script___eq__ : He.DefD := ⟨(("Script" : PySem.Str), some ("__eq__" : PySem.Str)), "__eq__", "Script.__eq__", defArgs (mth 41 2), defBody (mth 41 2), defScope (mth 41 2), [], []⟩
theorem c_Script___getitem__ : cSs (cS g 60 60 ⟨N_Script___getitem__, (defScope (mth 41 3)).names⟩) (defBody (mth 41 3)) = some f_Script___getitem__.body := by kernel_rfl
theorem s_Script___getitem__ : statB (defArgs (mth 41 3)) (defScope (mth 41 3)) N_Script___getitem__ f_Script___getitem__ = true := by decide +kernel
def d_Script___getitem__ : He.DefD := ⟨(("Script" : PySem.Str), some ("__getitem__" : PySem.Str)), "__getitem__", "Script.__getitem__", defArgs (mth 41 3), defBody (mth 41 3), defScope (mth 41 3), [], []⟩
theorem c_Script___iter__ : cSs (cS g 60 60 ⟨N_Script___iter__, (defScope (mth 41 4)).names⟩) (defBody (mth 41 4)) = some f_Script___iter__.body := by kernel_rfl
theorem s_Script___iter__ : statB (defArgs (mth 41 4)) (defScope (mth 41 4)) N_Script___iter__ f_Script___iter__ = true := by decide +kernel
def d_Script___iter__ : He.DefD := ⟨(("Script" : PySem.Str), some ("__iter__" : PySem.Str)), "__iter__", "Script.__iter__", defArgs (mth 41 4), defBody (mth 41 4), defScope (mth 41 4), [], []⟩
theorem c_Script_writes : cSs (cS g 60 60 ⟨N_Script_writes, (defScope (mth 41 5)).names⟩) (defBody (mth 41 5)) = some f_Script_writes.body := by kernel_rfl
theorem s_Script_writes : statB (defArgs (mth 41 5)) (defScope (mth 41 5)) N_Script_writes f_Script_writes = true := by decide +kernel
def d_Script_writes : He.DefD := ⟨(("Script" : PySem.Str), some ("writes" : PySem.Str)), "writes", "Script.writes", defArgs (mth 41 5), defBody (mth 41 5), defScope (mth 41 5), [], []⟩
theorem c_Script_with_condition : cSs (cS g 60 60 ⟨N_Script_with_condition, (defScope (mth 41 6)).names⟩) (defBody (mth 41 6)) = some f_Script_with_condition.body := by kernel_rfl
theorem s_Script_with_condition : statB (defArgs (mth 41 6)) (defScope (mth 41 6)) N_Script_with_condition f_Script_with_condition = true := by decide +kernel
def d_Script_with_condition : He.DefD := ⟨(("Script" : PySem.Str), some ("with_condition" : PySem.Str)), "with_condition", "Script.with_condition", defArgs (mth 41 6), defBody (mth 41 6), defScope (mth 41 6), [], []⟩
end Law
namespace Law
open PySem PySem.Spec PyProof.Rows L2 Eg
def dl : List He.DefD := [d__wall, d_is_one_of, d_is_number, d_is_step, d_step_text, d_script_text, d_events_text, d_lines_in, d_form_of, d_step_in, d_read_script, d_read_events, d__law_begun, d__law_draw, d__law_of, d__law_conditions, d__law_any_step, d__law_any_steps, d__law_line, d_law, d_Script___init__, d_Script___len__, d_Script___eq__, d_Script___getitem__, d_Script___iter__, d_Script_writes, d_Script_with_condition]
def fa_0 : List He.Fa := [.glo "_wall", .glo "is_one_of", .glo "is_number", .glo "is_step", .glo "step_text", .glo "script_text", .glo "events_text", .glo "lines_in", .glo "form_of", .glo "step_in", .glo "read_script", .glo "read_events", .glo "_law_begun", .glo "_law_draw", .glo "_law_of", .glo "_law_conditions", .glo "_law_any_step", .glo "_law_any_steps", .glo "_law_line", .glo "law", .free "isinstance", .free "str", .free "int", .free "bool", .free "all", .free "tuple", .free "len", .free "zip", .free "enumerate", .free "list", .free "range", .free "min", .glo "Script", .cls "Script", .mkr "Script", .noat "Script" "steps", .meth "Script" "__len__", .meth "Script" "__eq__", .meth "Script" "__getitem__", .meth "Script" "writes"]
def fa_1 : List He.Fa := [.meth "Script" "with_condition"]
def fa : List He.Fa := fa_0 ++ fa_1
def kn : List PySem.Str := ["Script"]
def loose_0 : List PySem.Str := [("_wall" : PySem.Str), ("PutError" : PySem.Str), ("BadScript" : PySem.Str), ("BadEvent" : PySem.Str), ("BadNumber" : PySem.Str), ("BadText" : PySem.Str), ("GREAT" : PySem.Str), ("SMALL" : PySem.Str), ("TAKE" : PySem.Str), ("TICK" : PySem.Str), ("is_one_of" : PySem.Str), ("PLAIN" : PySem.Str), ("TAG" : PySem.Str), ("LOOK" : PySem.Str), ("STAMP" : PySem.Str), ("IF_THERE" : PySem.Str), ("IF_NONE" : PySem.Str), ("READ_CONDITIONS" : PySem.Str), ("PUT_CONDITIONS" : PySem.Str), ("TAKE_CONDITIONS" : PySem.Str), ("GOT" : PySem.Str), ("MINE" : PySem.Str), ("UNCHANGED" : PySem.Str), ("ABSENT" : PySem.Str), ("YES" : PySem.Str), ("NO" : PySem.Str), ("MOST_STEPS" : PySem.Str), ("READ" : PySem.Str), ("PUT" : PySem.Str), ("FORGET" : PySem.Str), ("END" : PySem.Str), ("OPEN" : PySem.Str), ("LOST" : PySem.Str), ("ENDS" : PySem.Str), ("CONDITIONS" : PySem.Str), ("ANSWERS" : PySem.Str), ("is_number" : PySem.Str), ("is_step" : PySem.Str), ("Script" : PySem.Str), ("ANSWERED" : PySem.Str)]
def loose_1 : List PySem.Str := [("UNHEARD" : PySem.Str), ("UNSENT" : PySem.Str), ("COME" : PySem.Str), ("EVENTS" : PySem.Str), ("FEED" : PySem.Str), ("BLANK" : PySem.Str), ("FIGURES" : PySem.Str), ("step_text" : PySem.Str), ("script_text" : PySem.Str), ("events_text" : PySem.Str), ("lines_in" : PySem.Str), ("form_of" : PySem.Str), ("step_in" : PySem.Str), ("read_script" : PySem.Str), ("read_events" : PySem.Str), ("_law_begun" : PySem.Str), ("_law_draw" : PySem.Str), ("_law_of" : PySem.Str), ("_law_conditions" : PySem.Str), ("_law_any_step" : PySem.Str), ("_law_any_steps" : PySem.Str), ("_law_line" : PySem.Str)]
def loose : List PySem.Str := loose_0 ++ loose_1
def dsn : List PySem.Str := ["Script"]
def look : Eg.Look := ⟨cs, kn, fa, dl, dsn⟩
abbrev R : PySem.W.OpenRow := PySem.W.OpenLaw.row PySem.Challenge.rw_putonlyif_k62_whole_texts
abbrev qv : Program := PySem.W.view R.prog [67]
abbrev hk : PySem.W.Hook := Eg.hook 1200 look
def ob (s : PySem.W.SharedT) : Eg.Al := Eg.obT 1200 look s
theorem ob_eq (s : PySem.W.SharedT) : ob s = hk.obs s.abs := Eg.obT_eq 1200 look s
end Law
namespace Law
open PySem PySem.Spec PyProof.Rows L2 Eg
theorem runA_false (w : World) : Eg.RunA R qv 8000 loose (w.withFollow "special-get-raises" false) := by
  intro os
  kernel_rfl
end Law
namespace Law
open PySem PySem.Spec PyProof.Rows L2 Eg
theorem runB_false (w : World) : Eg.RunB R 8000 (fun s => (Eg.obT 1200 look s).1) (Eg.valX look (w.withFollow "special-get-raises" false)).1 (w.withFollow "special-get-raises" false) := by
  intro os
  kernel_rfl
end Law
namespace Law
open PySem PySem.Spec PyProof.Rows L2 Eg
theorem runC_false (w : World) : Eg.RunB R 8000 (fun s => (Eg.obT 1200 look s).2) (Eg.valX look (w.withFollow "special-get-raises" false)).2 (w.withFollow "special-get-raises" false) := by
  intro os
  kernel_rfl
end Law
namespace Law
open PySem PySem.Spec PyProof.Rows L2 Eg
theorem runA_true (w : World) : Eg.RunA R qv 8000 loose (w.withFollow "special-get-raises" true) := by
  intro os
  kernel_rfl
end Law
namespace Law
open PySem PySem.Spec PyProof.Rows L2 Eg
theorem runB_true (w : World) : Eg.RunB R 8000 (fun s => (Eg.obT 1200 look s).1) (Eg.valX look (w.withFollow "special-get-raises" true)).1 (w.withFollow "special-get-raises" true) := by
  intro os
  kernel_rfl
end Law
namespace Law
open PySem PySem.Spec PyProof.Rows L2 Eg
theorem runC_true (w : World) : Eg.RunB R 8000 (fun s => (Eg.obT 1200 look s).2) (Eg.valX look (w.withFollow "special-get-raises" true)).2 (w.withFollow "special-get-raises" true) := by
  intro os
  kernel_rfl
end Law
namespace Law
open PySem PySem.Spec PyProof.Rows L2 Eg
theorem run (w : World) : HandSHeadRun.RunEq R qv hk ob 8000 loose w :=
  PySem.W.byRow2 "special-get-raises" (P := fun w => HandSHeadRun.RunEq R qv hk ob 8000 loose w) (fun w => Eg.run_of (runA_false w) (runB_false w) (runC_false w)) (fun w => Eg.run_of (runA_true w) (runB_true w) (runC_true w)) w
end Law
namespace Law
open PySem PySem.Spec PyProof.Rows L2 Eg
def keys : List (PySem.Str × Option PySem.Str) := [(("_wall" : PySem.Str), (none : Option PySem.Str)), (("is_one_of" : PySem.Str), (none : Option PySem.Str)), (("is_number" : PySem.Str), (none : Option PySem.Str)), (("is_step" : PySem.Str), (none : Option PySem.Str)), (("step_text" : PySem.Str), (none : Option PySem.Str)), (("script_text" : PySem.Str), (none : Option PySem.Str)), (("events_text" : PySem.Str), (none : Option PySem.Str)), (("lines_in" : PySem.Str), (none : Option PySem.Str)), (("form_of" : PySem.Str), (none : Option PySem.Str)), (("step_in" : PySem.Str), (none : Option PySem.Str)), (("read_script" : PySem.Str), (none : Option PySem.Str)), (("read_events" : PySem.Str), (none : Option PySem.Str)), (("_law_begun" : PySem.Str), (none : Option PySem.Str)), (("_law_draw" : PySem.Str), (none : Option PySem.Str)), (("_law_of" : PySem.Str), (none : Option PySem.Str)), (("_law_conditions" : PySem.Str), (none : Option PySem.Str)), (("_law_any_step" : PySem.Str), (none : Option PySem.Str)), (("_law_any_steps" : PySem.Str), (none : Option PySem.Str)), (("_law_line" : PySem.Str), (none : Option PySem.Str)), (("law" : PySem.Str), (none : Option PySem.Str)), (("Script" : PySem.Str), some ("__init__" : PySem.Str)), (("Script" : PySem.Str), some ("__len__" : PySem.Str)), (("Script" : PySem.Str), some ("__eq__" : PySem.Str)), (("Script" : PySem.Str), some ("__getitem__" : PySem.Str)), (("Script" : PySem.Str), some ("__iter__" : PySem.Str)), (("Script" : PySem.Str), some ("writes" : PySem.Str)), (("Script" : PySem.Str), some ("with_condition" : PySem.Str))]
def ad (K : PySem.W.Frag) (i : Nat) : Addr := He.fAd K ((keys[i]?).getD ("", none))
theorem cn_Script : Eg.clsName P0 41 = ("Script" : PySem.Str) := by kernel_rfl
section
variable {w : World} {K : PySem.W.Frag} {h : Heap} {mg : Str → Option Value}
theorem modOk (X : K.In h) (G : h.Ns mainGlobals mg) (c : Says look w K) : ModOk ⟨P0, w, K⟩ mg g tab (ad K) := by
    have cd := c.d
    have D0 : DefK ⟨P0, w, K⟩ g f__wall (ad K 0) := by
      obtain ⟨fd, F⟩ := cd.def_ 0 (d := d__wall) rfl
      exact def_ok F s__wall c__wall
    have G0 : (∃ fn, tab 0 = some fn ∧ fn.kls = none) ∧ mg "_wall" = some (.ref (ad K 0)) ∧ PySem.W.keepIn K (.ref (ad K 0)) = true := by
      obtain ⟨fd, F⟩ := cd.def_ 0 (d := d__wall) rfl
      exact ⟨⟨f__wall, rfl, rfl⟩, He.glo_ok X G (cd.fact 0 (f := .glo "_wall") rfl), F.kp⟩
    have D1 : DefK ⟨P0, w, K⟩ g f_is_one_of (ad K 1) := by
      obtain ⟨fd, F⟩ := cd.def_ 1 (d := d_is_one_of) rfl
      exact def_ok F s_is_one_of c_is_one_of
    have G1 : (∃ fn, tab 1 = some fn ∧ fn.kls = none) ∧ mg "is_one_of" = some (.ref (ad K 1)) ∧ PySem.W.keepIn K (.ref (ad K 1)) = true := by
      obtain ⟨fd, F⟩ := cd.def_ 1 (d := d_is_one_of) rfl
      exact ⟨⟨f_is_one_of, rfl, rfl⟩, He.glo_ok X G (cd.fact 1 (f := .glo "is_one_of") rfl), F.kp⟩
    have D2 : DefK ⟨P0, w, K⟩ g f_is_number (ad K 2) := by
      obtain ⟨fd, F⟩ := cd.def_ 2 (d := d_is_number) rfl
      exact def_ok F s_is_number c_is_number
    have G2 : (∃ fn, tab 2 = some fn ∧ fn.kls = none) ∧ mg "is_number" = some (.ref (ad K 2)) ∧ PySem.W.keepIn K (.ref (ad K 2)) = true := by
      obtain ⟨fd, F⟩ := cd.def_ 2 (d := d_is_number) rfl
      exact ⟨⟨f_is_number, rfl, rfl⟩, He.glo_ok X G (cd.fact 2 (f := .glo "is_number") rfl), F.kp⟩
    have D3 : DefK ⟨P0, w, K⟩ g f_is_step (ad K 3) := by
      obtain ⟨fd, F⟩ := cd.def_ 3 (d := d_is_step) rfl
      exact def_ok F s_is_step c_is_step
    have G3 : (∃ fn, tab 3 = some fn ∧ fn.kls = none) ∧ mg "is_step" = some (.ref (ad K 3)) ∧ PySem.W.keepIn K (.ref (ad K 3)) = true := by
      obtain ⟨fd, F⟩ := cd.def_ 3 (d := d_is_step) rfl
      exact ⟨⟨f_is_step, rfl, rfl⟩, He.glo_ok X G (cd.fact 3 (f := .glo "is_step") rfl), F.kp⟩
    have D4 : DefK ⟨P0, w, K⟩ g f_step_text (ad K 4) := by
      obtain ⟨fd, F⟩ := cd.def_ 4 (d := d_step_text) rfl
      exact def_ok F s_step_text c_step_text
    have G4 : (∃ fn, tab 4 = some fn ∧ fn.kls = none) ∧ mg "step_text" = some (.ref (ad K 4)) ∧ PySem.W.keepIn K (.ref (ad K 4)) = true := by
      obtain ⟨fd, F⟩ := cd.def_ 4 (d := d_step_text) rfl
      exact ⟨⟨f_step_text, rfl, rfl⟩, He.glo_ok X G (cd.fact 4 (f := .glo "step_text") rfl), F.kp⟩
    have D5 : DefK ⟨P0, w, K⟩ g f_script_text (ad K 5) := by
      obtain ⟨fd, F⟩ := cd.def_ 5 (d := d_script_text) rfl
      exact def_ok F s_script_text c_script_text
    have G5 : (∃ fn, tab 5 = some fn ∧ fn.kls = none) ∧ mg "script_text" = some (.ref (ad K 5)) ∧ PySem.W.keepIn K (.ref (ad K 5)) = true := by
      obtain ⟨fd, F⟩ := cd.def_ 5 (d := d_script_text) rfl
      exact ⟨⟨f_script_text, rfl, rfl⟩, He.glo_ok X G (cd.fact 5 (f := .glo "script_text") rfl), F.kp⟩
    have D6 : DefK ⟨P0, w, K⟩ g f_events_text (ad K 6) := by
      obtain ⟨fd, F⟩ := cd.def_ 6 (d := d_events_text) rfl
      exact def_ok F s_events_text c_events_text
    have G6 : (∃ fn, tab 6 = some fn ∧ fn.kls = none) ∧ mg "events_text" = some (.ref (ad K 6)) ∧ PySem.W.keepIn K (.ref (ad K 6)) = true := by
      obtain ⟨fd, F⟩ := cd.def_ 6 (d := d_events_text) rfl
      exact ⟨⟨f_events_text, rfl, rfl⟩, He.glo_ok X G (cd.fact 6 (f := .glo "events_text") rfl), F.kp⟩
    have D7 : DefK ⟨P0, w, K⟩ g f_lines_in (ad K 7) := by
      obtain ⟨fd, F⟩ := cd.def_ 7 (d := d_lines_in) rfl
      exact def_ok F s_lines_in c_lines_in
    have G7 : (∃ fn, tab 7 = some fn ∧ fn.kls = none) ∧ mg "lines_in" = some (.ref (ad K 7)) ∧ PySem.W.keepIn K (.ref (ad K 7)) = true := by
      obtain ⟨fd, F⟩ := cd.def_ 7 (d := d_lines_in) rfl
      exact ⟨⟨f_lines_in, rfl, rfl⟩, He.glo_ok X G (cd.fact 7 (f := .glo "lines_in") rfl), F.kp⟩
    have D8 : DefK ⟨P0, w, K⟩ g f_form_of (ad K 8) := by
      obtain ⟨fd, F⟩ := cd.def_ 8 (d := d_form_of) rfl
      exact def_ok F s_form_of c_form_of
    have G8 : (∃ fn, tab 8 = some fn ∧ fn.kls = none) ∧ mg "form_of" = some (.ref (ad K 8)) ∧ PySem.W.keepIn K (.ref (ad K 8)) = true := by
      obtain ⟨fd, F⟩ := cd.def_ 8 (d := d_form_of) rfl
      exact ⟨⟨f_form_of, rfl, rfl⟩, He.glo_ok X G (cd.fact 8 (f := .glo "form_of") rfl), F.kp⟩
    have D9 : DefK ⟨P0, w, K⟩ g f_step_in (ad K 9) := by
      obtain ⟨fd, F⟩ := cd.def_ 9 (d := d_step_in) rfl
      exact def_ok F s_step_in c_step_in
    have G9 : (∃ fn, tab 9 = some fn ∧ fn.kls = none) ∧ mg "step_in" = some (.ref (ad K 9)) ∧ PySem.W.keepIn K (.ref (ad K 9)) = true := by
      obtain ⟨fd, F⟩ := cd.def_ 9 (d := d_step_in) rfl
      exact ⟨⟨f_step_in, rfl, rfl⟩, He.glo_ok X G (cd.fact 9 (f := .glo "step_in") rfl), F.kp⟩
    have D10 : DefK ⟨P0, w, K⟩ g f_read_script (ad K 10) := by
      obtain ⟨fd, F⟩ := cd.def_ 10 (d := d_read_script) rfl
      exact def_ok F s_read_script c_read_script
    have G10 : (∃ fn, tab 10 = some fn ∧ fn.kls = none) ∧ mg "read_script" = some (.ref (ad K 10)) ∧ PySem.W.keepIn K (.ref (ad K 10)) = true := by
      obtain ⟨fd, F⟩ := cd.def_ 10 (d := d_read_script) rfl
      exact ⟨⟨f_read_script, rfl, rfl⟩, He.glo_ok X G (cd.fact 10 (f := .glo "read_script") rfl), F.kp⟩
    have D11 : DefK ⟨P0, w, K⟩ g f_read_events (ad K 11) := by
      obtain ⟨fd, F⟩ := cd.def_ 11 (d := d_read_events) rfl
      exact def_ok F s_read_events c_read_events
    have G11 : (∃ fn, tab 11 = some fn ∧ fn.kls = none) ∧ mg "read_events" = some (.ref (ad K 11)) ∧ PySem.W.keepIn K (.ref (ad K 11)) = true := by
      obtain ⟨fd, F⟩ := cd.def_ 11 (d := d_read_events) rfl
      exact ⟨⟨f_read_events, rfl, rfl⟩, He.glo_ok X G (cd.fact 11 (f := .glo "read_events") rfl), F.kp⟩
    have D12 : DefK ⟨P0, w, K⟩ g f__law_begun (ad K 12) := by
      obtain ⟨fd, F⟩ := cd.def_ 12 (d := d__law_begun) rfl
      exact def_ok F s__law_begun c__law_begun
    have G12 : (∃ fn, tab 12 = some fn ∧ fn.kls = none) ∧ mg "_law_begun" = some (.ref (ad K 12)) ∧ PySem.W.keepIn K (.ref (ad K 12)) = true := by
      obtain ⟨fd, F⟩ := cd.def_ 12 (d := d__law_begun) rfl
      exact ⟨⟨f__law_begun, rfl, rfl⟩, He.glo_ok X G (cd.fact 12 (f := .glo "_law_begun") rfl), F.kp⟩
    have D13 : DefK ⟨P0, w, K⟩ g f__law_draw (ad K 13) := by
      obtain ⟨fd, F⟩ := cd.def_ 13 (d := d__law_draw) rfl
      exact def_ok F s__law_draw c__law_draw
    have G13 : (∃ fn, tab 13 = some fn ∧ fn.kls = none) ∧ mg "_law_draw" = some (.ref (ad K 13)) ∧ PySem.W.keepIn K (.ref (ad K 13)) = true := by
      obtain ⟨fd, F⟩ := cd.def_ 13 (d := d__law_draw) rfl
      exact ⟨⟨f__law_draw, rfl, rfl⟩, He.glo_ok X G (cd.fact 13 (f := .glo "_law_draw") rfl), F.kp⟩
    have D14 : DefK ⟨P0, w, K⟩ g f__law_of (ad K 14) := by
      obtain ⟨fd, F⟩ := cd.def_ 14 (d := d__law_of) rfl
      exact def_ok F s__law_of c__law_of
    have G14 : (∃ fn, tab 14 = some fn ∧ fn.kls = none) ∧ mg "_law_of" = some (.ref (ad K 14)) ∧ PySem.W.keepIn K (.ref (ad K 14)) = true := by
      obtain ⟨fd, F⟩ := cd.def_ 14 (d := d__law_of) rfl
      exact ⟨⟨f__law_of, rfl, rfl⟩, He.glo_ok X G (cd.fact 14 (f := .glo "_law_of") rfl), F.kp⟩
    have D15 : DefK ⟨P0, w, K⟩ g f__law_conditions (ad K 15) := by
      obtain ⟨fd, F⟩ := cd.def_ 15 (d := d__law_conditions) rfl
      exact def_ok F s__law_conditions c__law_conditions
    have G15 : (∃ fn, tab 15 = some fn ∧ fn.kls = none) ∧ mg "_law_conditions" = some (.ref (ad K 15)) ∧ PySem.W.keepIn K (.ref (ad K 15)) = true := by
      obtain ⟨fd, F⟩ := cd.def_ 15 (d := d__law_conditions) rfl
      exact ⟨⟨f__law_conditions, rfl, rfl⟩, He.glo_ok X G (cd.fact 15 (f := .glo "_law_conditions") rfl), F.kp⟩
    have D16 : DefK ⟨P0, w, K⟩ g f__law_any_step (ad K 16) := by
      obtain ⟨fd, F⟩ := cd.def_ 16 (d := d__law_any_step) rfl
      exact def_ok F s__law_any_step c__law_any_step
    have G16 : (∃ fn, tab 16 = some fn ∧ fn.kls = none) ∧ mg "_law_any_step" = some (.ref (ad K 16)) ∧ PySem.W.keepIn K (.ref (ad K 16)) = true := by
      obtain ⟨fd, F⟩ := cd.def_ 16 (d := d__law_any_step) rfl
      exact ⟨⟨f__law_any_step, rfl, rfl⟩, He.glo_ok X G (cd.fact 16 (f := .glo "_law_any_step") rfl), F.kp⟩
    have D17 : DefK ⟨P0, w, K⟩ g f__law_any_steps (ad K 17) := by
      obtain ⟨fd, F⟩ := cd.def_ 17 (d := d__law_any_steps) rfl
      exact def_ok F s__law_any_steps c__law_any_steps
    have G17 : (∃ fn, tab 17 = some fn ∧ fn.kls = none) ∧ mg "_law_any_steps" = some (.ref (ad K 17)) ∧ PySem.W.keepIn K (.ref (ad K 17)) = true := by
      obtain ⟨fd, F⟩ := cd.def_ 17 (d := d__law_any_steps) rfl
      exact ⟨⟨f__law_any_steps, rfl, rfl⟩, He.glo_ok X G (cd.fact 17 (f := .glo "_law_any_steps") rfl), F.kp⟩
    have D18 : DefK ⟨P0, w, K⟩ g f__law_line (ad K 18) := by
      obtain ⟨fd, F⟩ := cd.def_ 18 (d := d__law_line) rfl
      exact def_ok F s__law_line c__law_line
    have G18 : (∃ fn, tab 18 = some fn ∧ fn.kls = none) ∧ mg "_law_line" = some (.ref (ad K 18)) ∧ PySem.W.keepIn K (.ref (ad K 18)) = true := by
      obtain ⟨fd, F⟩ := cd.def_ 18 (d := d__law_line) rfl
      exact ⟨⟨f__law_line, rfl, rfl⟩, He.glo_ok X G (cd.fact 18 (f := .glo "_law_line") rfl), F.kp⟩
    have D19 : DefK ⟨P0, w, K⟩ g f_law (ad K 19) := by
      obtain ⟨fd, F⟩ := cd.def_ 19 (d := d_law) rfl
      exact def_ok F s_law c_law
    have G19 : (∃ fn, tab 19 = some fn ∧ fn.kls = none) ∧ mg "law" = some (.ref (ad K 19)) ∧ PySem.W.keepIn K (.ref (ad K 19)) = true := by
      obtain ⟨fd, F⟩ := cd.def_ 19 (d := d_law) rfl
      exact ⟨⟨f_law, rfl, rfl⟩, He.glo_ok X G (cd.fact 19 (f := .glo "law") rfl), F.kp⟩
    have D20 : DefK ⟨P0, w, K⟩ g f_Script___init__ (ad K 20) := by
      obtain ⟨fd, F⟩ := cd.def_ 20 (d := d_Script___init__) rfl
      exact def_ok F s_Script___init__ c_Script___init__
    have D21 : DefK ⟨P0, w, K⟩ g f_Script___len__ (ad K 21) := by
      obtain ⟨fd, F⟩ := cd.def_ 21 (d := d_Script___len__) rfl
      exact def_ok F s_Script___len__ c_Script___len__
    have D22 : DefK ⟨P0, w, K⟩ g f_Script___eq__ (ad K 22) := by
      obtain ⟨fd, F⟩ := cd.def_ 22 (d := d_Script___eq__) rfl
      exact def_ok F s_Script___eq__ c_Script___eq__
    have D23 : DefK ⟨P0, w, K⟩ g f_Script___getitem__ (ad K 23) := by
      obtain ⟨fd, F⟩ := cd.def_ 23 (d := d_Script___getitem__) rfl
      exact def_ok F s_Script___getitem__ c_Script___getitem__
    have D24 : DefK ⟨P0, w, K⟩ g f_Script___iter__ (ad K 24) := by
      obtain ⟨fd, F⟩ := cd.def_ 24 (d := d_Script___iter__) rfl
      exact def_ok F s_Script___iter__ c_Script___iter__
    have D25 : DefK ⟨P0, w, K⟩ g f_Script_writes (ad K 25) := by
      obtain ⟨fd, F⟩ := cd.def_ 25 (d := d_Script_writes) rfl
      exact def_ok F s_Script_writes c_Script_writes
    have D26 : DefK ⟨P0, w, K⟩ g f_Script_with_condition (ad K 26) := by
      obtain ⟨fd, F⟩ := cd.def_ 26 (d := d_Script_with_condition) rfl
      exact def_ok F s_Script_with_condition c_Script_with_condition
    have ca_Script : ca ⟨P0, w, K⟩ 41 = He.ga K "Script" := by
      show He.ga K (Eg.clsName P0 41) = _
      rw [cn_Script]
    have K_Script := He.cls_ok (cd.fact 33 (f := .cls "Script") rfl)
    have L_Script := c.kls (x := "Script") (by decide) K_Script
    have defs : ∀ i fn, tab i = some fn → fn.kls = none → DefK ⟨P0, w, K⟩ g fn (ad K i) := by
      intro i fn hi hn
      have hl : i < 28 := by
        have := (List.getElem?_eq_some_iff.mp (show tabL[i]? = some fn from hi)).1
        exact this
      have all : ∀ j, j < 28 → ∀ fn, tab j = some fn → fn.kls = none → DefK ⟨P0, w, K⟩ g fn (ad K j) := by
        intro j hj
        match j, hj with
        | 0, _ => intro fn hf _; cases hf; exact D0
        | 1, _ => intro fn hf _; cases hf; exact D1
        | 2, _ => intro fn hf _; cases hf; exact D2
        | 3, _ => intro fn hf _; cases hf; exact D3
        | 4, _ => intro fn hf _; cases hf; exact D4
        | 5, _ => intro fn hf _; cases hf; exact D5
        | 6, _ => intro fn hf _; cases hf; exact D6
        | 7, _ => intro fn hf _; cases hf; exact D7
        | 8, _ => intro fn hf _; cases hf; exact D8
        | 9, _ => intro fn hf _; cases hf; exact D9
        | 10, _ => intro fn hf _; cases hf; exact D10
        | 11, _ => intro fn hf _; cases hf; exact D11
        | 12, _ => intro fn hf _; cases hf; exact D12
        | 13, _ => intro fn hf _; cases hf; exact D13
        | 14, _ => intro fn hf _; cases hf; exact D14
        | 15, _ => intro fn hf _; cases hf; exact D15
        | 16, _ => intro fn hf _; cases hf; exact D16
        | 17, _ => intro fn hf _; cases hf; exact D17
        | 18, _ => intro fn hf _; cases hf; exact D18
        | 19, _ => intro fn hf _; cases hf; exact D19
        | 20, _ => intro fn hf _; cases hf; exact D20
        | 21, _ => intro fn hf _; cases hf; exact D21
        | 22, _ => intro fn hf _; cases hf; exact D22
        | 23, _ => intro fn hf _; cases hf; exact D23
        | 24, _ => intro fn hf _; cases hf; exact D24
        | 25, _ => intro fn hf _; cases hf; exact D25
        | 26, _ => intro fn hf _; cases hf; exact D26
        | 27, _ => intro fn hf hn; cases hf; cases hn
        | n + 28, hj => exact absurd hj (by omega)
      exact all i hl fn hi hn
    have glo : ∀ p ∈ fs, (∃ fn, tab p.2 = some fn ∧ fn.kls = none) ∧ mg p.1 = some (.ref (ad K p.2)) ∧ PySem.W.keepIn K (.ref (ad K p.2)) = true := by
      unfold fs
      exact List.forall_mem_cons.mpr ⟨G0, List.forall_mem_cons.mpr ⟨G1, List.forall_mem_cons.mpr ⟨G2, List.forall_mem_cons.mpr ⟨G3, List.forall_mem_cons.mpr ⟨G4, List.forall_mem_cons.mpr ⟨G5, List.forall_mem_cons.mpr ⟨G6, List.forall_mem_cons.mpr ⟨G7, List.forall_mem_cons.mpr ⟨G8, List.forall_mem_cons.mpr ⟨G9, List.forall_mem_cons.mpr ⟨G10, List.forall_mem_cons.mpr ⟨G11, List.forall_mem_cons.mpr ⟨G12, List.forall_mem_cons.mpr ⟨G13, List.forall_mem_cons.mpr ⟨G14, List.forall_mem_cons.mpr ⟨G15, List.forall_mem_cons.mpr ⟨G16, List.forall_mem_cons.mpr ⟨G17, List.forall_mem_cons.mpr ⟨G18, List.forall_mem_cons.mpr ⟨G19, fun _ z => nomatch z⟩⟩⟩⟩⟩⟩⟩⟩⟩⟩⟩⟩⟩⟩⟩⟩⟩⟩⟩⟩
    have blt : ∀ p ∈ bs, mg p = none := by
      unfold bs
      exact List.forall_mem_cons.mpr ⟨He.free_ok X G (cd.fact 20 (f := .free "isinstance") rfl), List.forall_mem_cons.mpr ⟨He.free_ok X G (cd.fact 21 (f := .free "str") rfl), List.forall_mem_cons.mpr ⟨He.free_ok X G (cd.fact 22 (f := .free "int") rfl), List.forall_mem_cons.mpr ⟨He.free_ok X G (cd.fact 23 (f := .free "bool") rfl), List.forall_mem_cons.mpr ⟨He.free_ok X G (cd.fact 24 (f := .free "all") rfl), List.forall_mem_cons.mpr ⟨He.free_ok X G (cd.fact 25 (f := .free "tuple") rfl), List.forall_mem_cons.mpr ⟨He.free_ok X G (cd.fact 26 (f := .free "len") rfl), List.forall_mem_cons.mpr ⟨He.free_ok X G (cd.fact 27 (f := .free "zip") rfl), List.forall_mem_cons.mpr ⟨He.free_ok X G (cd.fact 28 (f := .free "enumerate") rfl), List.forall_mem_cons.mpr ⟨He.free_ok X G (cd.fact 29 (f := .free "list") rfl), List.forall_mem_cons.mpr ⟨He.free_ok X G (cd.fact 30 (f := .free "range") rfl), List.forall_mem_cons.mpr ⟨He.free_ok X G (cd.fact 31 (f := .free "min") rfl), fun _ z => nomatch z⟩⟩⟩⟩⟩⟩⟩⟩⟩⟩⟩⟩
    have k_Script : ∃ fn gI fnI, tab 27 = some fn ∧ fn.kls = some (41, gI) ∧ tab gI = some fnI ∧ fnI.kls = none ∧ mg "Script" = some (.ref (ca (⟨P0, w, K⟩ : Eg.Wd) 41)) ∧ KlsOk K (ca (⟨P0, w, K⟩ : Eg.Wd) 41) ∧ Mk K (ca (⟨P0, w, K⟩ : Eg.Wd) 41) (ad K gI) ∧ (∀ t : String, t ∈ ["NoneType", "str", "int", "bool", "tuple", "list", "dict"] → PySem.W.kitOne K (.type t) (.ref (ca (⟨P0, w, K⟩ : Eg.Wd) 41)) = some false) ∧ (∀ C' ∈ g.ks.map (·.2.2), PySem.W.kitOne K (.ref (ca (⟨P0, w, K⟩ : Eg.Wd) C')) (.ref (ca (⟨P0, w, K⟩ : Eg.Wd) 41)) = some (C' == 41)) := by
      rw [ca_Script]
      refine ⟨f_Script, 20, f_Script___init__, rfl, rfl, rfl, rfl, He.glo_ok X G (cd.fact 32 (f := .glo "Script") rfl), L_Script.1, He.mkr_ok (cd.fact 34 (f := .mkr "Script") rfl), L_Script.2.1, ?_⟩
      exact List.forall_mem_cons.mpr ⟨by rw [ca_Script]; exact L_Script.2.2 "Script" (by decide), fun _ z => nomatch z⟩
    have kl : ∀ p ∈ ks, ∃ fn gI fnI, tab p.2.1 = some fn ∧ fn.kls = some (p.2.2, gI) ∧ tab gI = some fnI ∧ fnI.kls = none ∧ mg p.1 = some (.ref (ca (⟨P0, w, K⟩ : Eg.Wd) p.2.2)) ∧ KlsOk K (ca (⟨P0, w, K⟩ : Eg.Wd) p.2.2) ∧ Mk K (ca (⟨P0, w, K⟩ : Eg.Wd) p.2.2) (ad K gI) ∧ (∀ t : String, t ∈ ["NoneType", "str", "int", "bool", "tuple", "list", "dict"] → PySem.W.kitOne K (.type t) (.ref (ca (⟨P0, w, K⟩ : Eg.Wd) p.2.2)) = some false) ∧ (∀ C' ∈ g.ks.map (·.2.2), PySem.W.kitOne K (.ref (ca (⟨P0, w, K⟩ : Eg.Wd) C')) (.ref (ca (⟨P0, w, K⟩ : Eg.Wd) p.2.2)) = some (C' == p.2.2)) := by
      unfold ks
      exact List.forall_mem_cons.mpr ⟨k_Script, fun _ z => nomatch z⟩
    have fd : ∀ p ∈ fl, ∀ C ∈ p.2, NoAttr K (ca (⟨P0, w, K⟩ : Eg.Wd) C) p.1 := by
      unfold fl
      exact List.forall_mem_cons.mpr ⟨by exact List.forall_mem_cons.mpr ⟨by rw [ca_Script]; exact He.noat_ok (cd.fact 35 (f := .noat "Script" "steps") rfl), fun _ z => nomatch z⟩, fun _ z => nomatch z⟩
    have me : ∀ p ∈ ms, ∀ q ∈ p.2, (∃ fn, tab q.2 = some fn ∧ fn.kls = none) ∧ Cls K (ca (⟨P0, w, K⟩ : Eg.Wd) q.1) ∧ Meth K (ca (⟨P0, w, K⟩ : Eg.Wd) q.1) p.1 (ad K q.2) := by
      unfold ms
      exact List.forall_mem_cons.mpr ⟨by exact List.forall_mem_cons.mpr ⟨by rw [ca_Script]; exact ⟨⟨f_Script___len__, rfl, rfl⟩, K_Script, He.meth_ok (cd.fact 36 (f := .meth "Script" "__len__") rfl)⟩, fun _ z => nomatch z⟩, List.forall_mem_cons.mpr ⟨by exact List.forall_mem_cons.mpr ⟨by rw [ca_Script]; exact ⟨⟨f_Script___eq__, rfl, rfl⟩, K_Script, He.meth_ok (cd.fact 37 (f := .meth "Script" "__eq__") rfl)⟩, fun _ z => nomatch z⟩, List.forall_mem_cons.mpr ⟨by exact List.forall_mem_cons.mpr ⟨by rw [ca_Script]; exact ⟨⟨f_Script___getitem__, rfl, rfl⟩, K_Script, He.meth_ok (cd.fact 38 (f := .meth "Script" "__getitem__") rfl)⟩, fun _ z => nomatch z⟩, List.forall_mem_cons.mpr ⟨by exact List.forall_mem_cons.mpr ⟨by rw [ca_Script]; exact ⟨⟨f_Script_writes, rfl, rfl⟩, K_Script, He.meth_ok (cd.fact 39 (f := .meth "Script" "writes") rfl)⟩, fun _ z => nomatch z⟩, List.forall_mem_cons.mpr ⟨by exact List.forall_mem_cons.mpr ⟨by rw [ca_Script]; exact ⟨⟨f_Script_with_condition, rfl, rfl⟩, K_Script, He.meth_ok (cd.fact 40 (f := .meth "Script" "with_condition") rfl)⟩, fun _ z => nomatch z⟩, fun _ z => nomatch z⟩⟩⟩⟩⟩
    have dun : ∀ p ∈ du, DunK (⟨P0, w, K⟩ : Eg.Wd) (g.ks.map (·.2.2)) p := by
      unfold du
      exact List.forall_mem_cons.mpr ⟨⟨by rw [ca_Script]; exact (c.dun (x := "Script") (by decide)).1, List.forall_mem_cons.mpr ⟨by rw [ca_Script]; exact (c.dun (x := "Script") (by decide)).2.1 "Script" (by decide), fun _ z => nomatch z⟩, by rw [ca_Script]; exact (c.dun (x := "Script") (by decide)).2.2.1, by rw [ca_Script]; exact (c.dun (x := "Script") (by decide)).2.2.2⟩, fun _ z => nomatch z⟩
    exact ⟨c.con X G, fun x hx => blt x (List.contains_iff_mem.mp hx), defs, fun x i hx => glo (x, i) (Eg.lookup_mem hx), fun x c C hx => kl (x, c, C) (Eg.lookup_mem hx), fun f Cs hx => fd (f, Cs) (Eg.lookup_mem hx), fun m ms C f hx hy => me (m, ms) (Eg.lookup_mem hx) (C, f) (Eg.mem_lookA hy), fun C hC => dun C (List.contains_iff_mem.mp hC)⟩
end
theorem holds_of (law : ∀ ns : List Int, ns.length ≤ 63 → ∃ outs, callN tab 14 19 [(false, .lst (ns.map Eg.D.int))] = .ok false (.bl true) outs) : PySem.Challenge.rw_putonlyif_k62_whole_texts.Holds := by
  w_on; o_law
  refine HandSHeadRun.head_any (r := PySem.W.OpenLaw.row PySem.Challenge.rw_putonlyif_k62_whole_texts) (q := qv) (H := hk) (ob := ob) (M := 8000) (loose := loose) (d := HandSHeadRun.topDef (PySem.W.OpenLaw.row PySem.Challenge.rw_putonlyif_k62_whole_texts).prog 67) (kwd := []) ob_eq
    (by kernel_rfl) (fun s => by kernel_rfl) run (by kernel_rfl) (by kernel_rfl) (by kernel_rfl) (by rfl) (by first | assumption | decide +kernel) (by decide +kernel) ⟨rfl, rfl, rfl, rfl, rfl, by decide +kernel⟩ ?hw ?hc
  case hw => w_witness2
  case hc =>
    refine Eg.walk_eg (l := PySem.Challenge.rw_putonlyif_k62_whole_texts) (n := 63) (k := 14) (i := 19) (tab := tab) rfl (by decide) (by kernel_rfl) ⟨rfl, by decide, by decide⟩ ?F law
    intro w mg f h Y G hmg0
    obtain ⟨K, KX, c⟩ := Y
    have hmg : mg ("law" : PySem.Str) = some (.ref f) := by
      have e : (HandSHeadRun.topDef (PySem.W.OpenLaw.row PySem.Challenge.rw_putonlyif_k62_whole_texts).prog 67).name = ("law" : PySem.Str) := by kernel_rfl
      rw [← e]
      exact hmg0
    refine ⟨K, KX, c.nol, fun base => ?_⟩
    obtain ⟨f2, fd2, ps, FG, m2, _, hb⟩ := (Eg.glo_all (W := ⟨P0, w, K⟩) (base := base) (mg := mg) (g := g) (tab := tab) (modOk KX G c) 14).fn "law" 19 rfl
    rw [hmg] at m2
    cases m2
    exact ⟨fd2, ps, FG, hb⟩
end Law
namespace Law
open PySem Eg
inductive Cd | plain | stamp | tag | look | there | none
  deriving DecidableEq
def Cd.s : Cd → String
  | .plain => "plain" | .stamp => "stamp" | .tag => "tag" | .look => "look" | .there => "there" | .none => "none"
inductive Kd | read | put | take
  deriving DecidableEq
def Kd.s : Kd → String
  | .read => "read" | .put => "put" | .take => "take"
/-- which conditions a request may have -/
def Kd.may : Kd → Cd → Bool
  | .read, .there => false
  | .read, .none => false
  | .put, .look => false
  | .take, .look => false
  | .take, .none => false
  | _, _ => true
inductive En | yes | no | open_
  deriving DecidableEq
def En.s : En → String
  | .yes => "yes" | .no => "no" | .open_ => "open"
inductive St where
  | read (k : Cd) (a b c d e : Nat)
  | put (k : Cd) (g : Bool) (a b c : Nat)
  | take (k : Cd) (a b c d : Nat)
  | forget (a : Nat)
  | fin (w : En)
def sizeS (g : Bool) : String := if g then "great" else "small"
def St.d : St → Eg.D
  | .read k a b c d e => .tup [.str (Str.ofString "read"), .str (Str.ofString k.s), .int a, .int b, .int c, .int d, .int e]
  | .put k g a b c => .tup [.str (Str.ofString "put"), .str (Str.ofString k.s), .str (Str.ofString (sizeS g)), .int a, .int b, .int c]
  | .take k a b c d => .tup [.str (Str.ofString "take"), .str (Str.ofString k.s), .int a, .int b, .int c, .int d]
  | .forget a => .tup [.str (Str.ofString "forget"), .int a]
  | .fin w => .tup [.str (Str.ofString "end"), .str (Str.ofString w.s)]
/-- a step of a script with so many steps -/
def St.ok (m : Nat) : St → Prop
  | .read k a b c d e => Kd.may .read k = true ∧ a < m ∧ b < m ∧ c < m ∧ d < m ∧ e < m
  | .put k _ a b c => Kd.may .put k = true ∧ a < m ∧ b < m ∧ c < m
  | .take k a b c d => Kd.may .take k = true ∧ a < m ∧ b < m ∧ c < m ∧ d < m
  | .forget a => a < m
  | .fin _ => True
def St.wr : St → Bool
  | .put .. => true
  | .take .. => true
  | _ => false
def scD (ss : List St) : Eg.D := .ins 41 [(Str.ofString "steps", .tup (ss.map St.d))]
theorem sc_fld (ss : List St) : fldD [41] (Str.ofString "steps") (scD ss) = some (.tup (ss.map St.d)) := fld_1
theorem sc_ix {ss : List St} {i : Nat} {s : St} (h : ss[i]? = some s) : idxD (.tup (ss.map St.d)) (.int i) = some s.d := by
  refine ix_natT ?_
  rw [List.getElem?_map, h]
  rfl
theorem ty_int (i : Int) : tyO [.int] (.int i) = some true := rfl
theorem ty_intB (i : Int) : tyO [.bool] (.int i) = some false := rfl
theorem ty_str (i : Str) : tyO [.str] (.str i) = some true := rfl
theorem ty_tup (i : List Eg.D) : tyO [.tuple] (.tup i) = some true := rfl
theorem is_number (n : Nat) (i m : Int) (h0 : 0 ≤ i) (h : i < m) : callN tab (n + 1) 2 [(false, .int i), (false, .int m)] = .ok false (.bl true) [(false, .int i), (false, .int m)] := by
  show callFn (callN tab n) f_is_number [_, _] = _
  unfold callFn f_is_number b_is_number
  simp -dsimp -implicitDefEqProofs [Eg.run, ev, evL, evB, evA, evI, evO, evF, startR, two_late, two_none, CE.late, CE.isNil, peek_0, peek_s, slot_0, slot_s, unown_0, unown_s, Fl.shared, st_n, st_h, st_w, store_s, nxO, lift_some, fin_val, fin_bor, fin_tst, Eg.tru_ok, truth_bl, truth_int, subOf, Eg.eq_int, eq_str, ne_str, ne_int, eq_bl, outsOf, Fl.own, small, sizeLine, isT, ↓loopC_P, ↓loopF_P, loopCP_nil, loopCP_cons, loopFP_nil, loopFP_cons, ↓bind_P, ↓stm_P, ↓then_P, bindP_ok, stmP_ok, thenP_nx, thenP_rt, calm_ok, oneOf_1, oneOf_2, storeL, storeF, put_one, put_many_, blt_int_b, blt_int_i, blt_len_l, blt_len_t, blt_min, bin_add, bin_sub, Eg.cmp_gt, cmp_ge, cmp_lt, cmp_le, ix_l0, ixt0, ixt1, ixt2, ixt3, ixt4, ixt5, ixt6, ixl1, ixl2, mayWipe, restore, zipD, itemsD, callA, callB, fl_f, fl_lst, fl_dk, fl_ins, fl_tp, argD, djA, back, lentOf, D.isNon, isMu, muTy, putI_w, putI_b, putI_s, pairD_2, in_str, nin_str, anyEq_nil, anyEq_str, bin_addT, fld_1, ty_int, ty_intB, h0, h]
def OkSs (ss : List St) : Prop := ∀ (i : Nat) (one : St), ss[i]? = some one → one.ok ss.length
def ssD (ss : List St) : Eg.D := .tup (ss.map St.d)
theorem ss_ix {ss : List St} {i : Nat} {s : St} (h : ss[i]? = some s) : idxD (ssD ss) (.int i) = some s.d := sc_ix h
end Law
namespace Law
open PySem Eg
def mK (l s : Int) (c : List Int) (p : Int) : List (L2.Key × Eg.D) := [(.inr "left", .int l), (.inr "seed", .int s), (.inr "cells", .lst (c.map Eg.D.int)), (.inr "spot", .int p)]
def mD (l s : Int) (c : List Int) (p : Int) : Eg.D := .dk (mK l s c p)
section
variable (l s : Int) (c : List Int) (p x : Int)
theorem m_left : idxD (mD l s c p) (.str "left") = some (.int l) := by rfl
theorem m_seed : idxD (mD l s c p) (.str "seed") = some (.int s) := by rfl
theorem m_cells : idxD (mD l s c p) (.str "cells") = some (.lst (c.map Eg.D.int)) := by rfl
theorem m_spot : idxD (mD l s c p) (.str "spot") = some (.int p) := by rfl
theorem m_pleft : putD (mD l s c p) (.str "left") (.int x) = some (mD x s c p) := by rfl
theorem m_pspot : putD (mD l s c p) (.str "spot") (.int x) = some (mD l s c x) := by rfl
end
theorem draw (n : Nat) {l s : Int} {c : List Int} {p many : Int} (hc : c ≠ []) (hp : 0 ≤ p) (hp2 : p < 1000000) (hm : 0 < many) (hm2 : many < 1000000) :
    ∃ v l' p', callN tab (n + 1) 13 [(true, mD l s c p), (false, .int many)] = .ok false (.int v) [(true, mD l' s c p'), (false, .int many)] ∧ 0 ≤ v ∧ v < many ∧ p ≤ p' ∧ p' ≤ p + 1 := by
  by_cases hl : 0 < l
  · refine ⟨l % many, l / many, p, ?_, Int.emod_nonneg _ (by omega), Int.emod_lt_of_pos _ hm, Int.le_refl _, by omega⟩
    show callFn (callN tab n) f__law_draw [(true, mD _ _ _ _), _] = _
    have hm3 : many < 1073741824 := by omega
    unfold callFn f__law_draw b__law_draw
    simp -dsimp -implicitDefEqProofs [Eg.run, ev, evL, evB, evA, evI, evO, evF, startR, two_late, two_none, CE.late, CE.isNil, peek_0, peek_s, slot_0, slot_s, unown_0, unown_s, Fl.shared, st_n, st_h, st_w, store_s, nxO, lift_some, fin_val, fin_bor, fin_tst, Eg.tru_ok, truth_bl, truth_int, subOf, Eg.eq_int, eq_str, ne_str, ne_int, eq_bl, outsOf, Fl.own, small, sizeLine, isT, ↓loopC_P, ↓loopF_P, loopCP_nil, loopCP_cons, loopFP_nil, loopFP_cons, ↓bind_P, ↓stm_P, ↓then_P, bindP_ok, stmP_ok, thenP_nx, thenP_rt, calm_ok, oneOf_1, oneOf_2, storeL, storeF, put_one, put_many_, blt_int_b, blt_int_i, blt_len_l, blt_len_t, blt_min, bin_add, bin_sub, Eg.cmp_gt, cmp_ge, cmp_lt, cmp_le, ix_l0, ixt0, ixt1, ixt2, ixt3, ixt4, ixt5, ixt6, ixl1, ixl2, mayWipe, restore, zipD, itemsD, callA, callB, fl_f, fl_lst, fl_dk, fl_ins, fl_tp, argD, djA, back, lentOf, D.isNon, isMu, muTy, putI_w, putI_b, putI_s, pairD_2, in_str, nin_str, anyEq_nil, anyEq_str, bin_addT, fld_1, m_left, hl, bin_mod, hm, bin_fdiv, hm3, m_pleft]
  · obtain ⟨ci, hci⟩ := ix_mod hc p
    have hcl : 0 < (c.length : Int) := by
      cases c with
      | nil => exact absurd rfl hc
      | cons => simp
    have b0 : binD .mod (.int p) (.int (c.length : Int)) = some (false, .int (p % (c.length : Int))) := bin_mod hcl
    have b1 : binD .mul (.int 40503) (.int p) = some (false, .int (40503 * p)) := bin_mul (.inl (by omega))
    have b2 : binD .mul (.int (40503 * p)) (.int p) = some (false, .int (40503 * p * p)) := bin_mul (.inr (by omega))
    have b3 : binD .mul (.int 2) (.int p) = some (false, .int (2 * p)) := bin_mul (.inl (by omega))
    have b4 : binD .mul (.int ci) (.int (2 * p + 3)) = some (false, .int (ci * (2 * p + 3))) := bin_mul (.inr (by omega))
    have b5 : binD .mul (.int 69621) (.int p) = some (false, .int (69621 * p)) := bin_mul (.inl (by omega))
    have b6 : ∀ x : Int, binD .mul (.int x) (.int 48271) = some (false, .int (x * 48271)) := fun x => bin_mul (.inr (by omega))
    refine ⟨((((ci * (2 * p + 3) + (s + 40503 * p * p)) % 2147483647 * ((ci * (2 * p + 3) + (s + 40503 * p * p)) % 2147483647) + 69621 * p + s) % 2147483629 * 48271 + p) % 2147483647 / 11) % many, l, p + 1, ?_, Int.emod_nonneg _ (by omega), Int.emod_lt_of_pos _ hm, by omega, Int.le_refl _⟩
    show callFn (callN tab n) f__law_draw [(true, mD _ _ _ _), _] = _
    unfold callFn f__law_draw b__law_draw
    simp -dsimp -implicitDefEqProofs [Eg.run, ev, evL, evB, evA, evI, evO, evF, startR, two_late, two_none, CE.late, CE.isNil, peek_0, peek_s, slot_0, slot_s, unown_0, unown_s, Fl.shared, st_n, st_h, st_w, store_s, nxO, lift_some, fin_val, fin_bor, fin_tst, Eg.tru_ok, truth_bl, truth_int, subOf, Eg.eq_int, eq_str, ne_str, ne_int, eq_bl, outsOf, Fl.own, small, sizeLine, isT, ↓loopC_P, ↓loopF_P, loopCP_nil, loopCP_cons, loopFP_nil, loopFP_cons, ↓bind_P, ↓stm_P, ↓then_P, bindP_ok, stmP_ok, thenP_nx, thenP_rt, calm_ok, oneOf_1, oneOf_2, storeL, storeF, put_one, put_many_, blt_int_b, blt_int_i, blt_len_l, blt_len_t, blt_min, bin_add, bin_sub, Eg.cmp_gt, cmp_ge, cmp_lt, cmp_le, ix_l0, ixt0, ixt1, ixt2, ixt3, ixt4, ixt5, ixt6, ixl1, ixl2, mayWipe, restore, zipD, itemsD, callA, callB, fl_f, fl_lst, fl_dk, fl_ins, fl_tp, argD, djA, back, lentOf, D.isNon, isMu, muTy, putI_w, putI_b, putI_s, pairD_2, in_str, nin_str, anyEq_nil, anyEq_str, bin_addT, fld_1, m_left, hl, m_spot, m_pspot, m_cells, m_seed, b1, b2, b3, b4, b5, b6, bin_mulM, b0, bin_mod, bin_fdiv, hci, hm]
/-- one of some things -/
theorem of_ (n : Nat) {l s : Int} {c : List Int} {p : Int} {xs : List Eg.D} (b : Bool) (hc : c ≠ []) (hp : 0 ≤ p) (hp2 : p < 1000000) (hx : xs ≠ []) (hx2 : xs.length < 1000000) :
    ∃ d l' p', callN tab (n + 2) 14 [(true, mD l s c p), (b, .lst xs)] = .ok false d [(true, mD l' s c p'), (b, .lst xs)] ∧ d ∈ xs ∧ p ≤ p' ∧ p' ≤ p + 1 := by
  have hl : 0 < (xs.length : Int) := by
    cases xs with
    | nil => exact absurd rfl hx
    | cons => simp
  obtain ⟨v, l', p', e, h1, h2, h3, h4⟩ := draw n (l := l) (s := s) hc hp hp2 hl (by omega)
  obtain ⟨i, rfl⟩ : ∃ i : Nat, v = i := ⟨v.toNat, by omega⟩
  have hi : i < xs.length := by omega
  refine ⟨xs[i], l', p', ?_, List.getElem_mem hi, h3, h4⟩
  have ei : idxD (.lst xs) (.int (i : Int)) = some xs[i] := ix_nat (List.getElem?_eq_getElem hi)
  show callFn (callN tab (n + 1)) f__law_of [(true, mD _ _ _ _), _] = _
  unfold callFn f__law_of b__law_of
  cases b <;> simp -dsimp -implicitDefEqProofs [Eg.run, ev, evL, evB, evA, evI, evO, evF, startR, two_late, two_none, CE.late, CE.isNil, peek_0, peek_s, slot_0, slot_s, unown_0, unown_s, Fl.shared, st_n, st_h, st_w, store_s, nxO, lift_some, fin_val, fin_bor, fin_tst, Eg.tru_ok, truth_bl, truth_int, subOf, Eg.eq_int, eq_str, ne_str, ne_int, eq_bl, outsOf, Fl.own, small, sizeLine, isT, ↓loopC_P, ↓loopF_P, loopCP_nil, loopCP_cons, loopFP_nil, loopFP_cons, ↓bind_P, ↓stm_P, ↓then_P, bindP_ok, stmP_ok, thenP_nx, thenP_rt, calm_ok, oneOf_1, oneOf_2, storeL, storeF, put_one, put_many_, blt_int_b, blt_int_i, blt_len_l, blt_len_t, blt_min, bin_add, bin_sub, Eg.cmp_gt, cmp_ge, cmp_lt, cmp_le, ix_l0, ixt0, ixt1, ixt2, ixt3, ixt4, ixt5, ixt6, ixl1, ixl2, mayWipe, restore, zipD, itemsD, callA, callB, fl_f, fl_lst, fl_dk, fl_ins, fl_tp, argD, djA, back, lentOf, D.isNon, isMu, muTy, putI_w, putI_b, putI_s, pairD_2, in_str, nin_str, anyEq_nil, anyEq_str, bin_addT, fld_1, e, ei]
end Law
namespace Law
open PySem Eg
theorem cut_int (ns : List Int) (lo hi : Option Int) : ∃ ms : List Int, cutD (ns.map Eg.D.int) lo hi = ms.map Eg.D.int ∧ ms.length ≤ ns.length := by
  unfold cutD
  refine ⟨(ns.drop (HT.sIx (ns.map Eg.D.int).length 0 lo)).take (HT.sIx (ns.map Eg.D.int).length (ns.map Eg.D.int).length hi - HT.sIx (ns.map Eg.D.int).length 0 lo), by rw [List.map_take, List.map_drop], ?_⟩
  rw [List.length_take, List.length_drop]
  omega
theorem all_int : ∀ {ys : List Eg.D}, (∀ y ∈ ys, ∃ i : Int, y = .int i) → ∃ g : List Int, ys = g.map Eg.D.int
  | [], _ => ⟨[], rfl⟩
  | y :: ys, h => by
    obtain ⟨i, rfl⟩ := h y (by simp)
    obtain ⟨g, rfl⟩ := all_int (ys := ys) fun z hz => h z (by simp [hz])
    exact ⟨i :: g, rfl⟩
theorem py_ints : ∀ g : List Int, D.pyL (g.map Eg.D.int) = some (g.map PyData.int)
  | [] => rfl
  | i :: g => by
    have ih := py_ints g
    show (match D.py (.int i), D.pyL (g.map Eg.D.int) with
      | some x, some xs => some (x :: xs)
      | _, _ => none) = _
    rw [ih]
    rfl
theorem lay_ints : ∀ g : List Int, PyData.canLayAll0 (g.map PyData.int) = true ∧ PyData.depthAll (g.map PyData.int) ≤ 1
  | [] => ⟨rfl, by decide⟩
  | i :: g => by
    obtain ⟨h1, h2⟩ := lay_ints g
    constructor
    · show (PyData.canLay0 (.int i) && PyData.canLayAll0 (g.map PyData.int)) = true
      rw [h1]
      rfl
    · simp only [List.map_cons, PyData.depthAll]
      have : (PyData.int i).depth ≤ 1 := by simp [PyData.depth]
      omega
theorem ne_ints (g : List Int) : cmpD .ne (.lst (g.map Eg.D.int)) (.lst []) = some (!g.isEmpty) := by
  have hs : SeqAt.shaped (.list (g.map PyData.int)) = true := by
    obtain ⟨h1, h2⟩ := lay_ints g
    unfold SeqAt.shaped
    simp only [Bool.and_eq_true, decide_eq_true_eq]
    refine ⟨by simpa [PyData.canLay0] using h1, ?_⟩
    simp only [PyData.depth]
    omega
  have hn : SeqAt.shaped (.list []) = true := by decide
  have e : D.eqq (.lst (g.map Eg.D.int)) (.lst []) = some g.isEmpty := by
    unfold D.eqq
    have e1 : (Eg.D.lst (g.map Eg.D.int)).py = some (.list (g.map PyData.int)) := by
      show (D.pyL (g.map Eg.D.int)).map PyData.list = _
      rw [py_ints]
      rfl
    have e2 : (Eg.D.lst []).py = some (.list []) := rfl
    rw [e1, e2]
    simp only [hs, hn, Bool.and_self, if_true]
    cases g with
    | nil => rfl
    | cons i g => simp [PyData.eqv, PyData.eqvAll]
  show (D.eqq _ _).map (!·) = _
  rw [e]
  rfl
theorem dct_m (a b c d : Eg.D) : pairsK [.str "left", a, .str "seed", b, .str "cells", c, .str "spot", d] = some [(.inr "left", a), (.inr "seed", b), (.inr "cells", c), (.inr "spot", d)] := by rfl
theorem mrg_m (a b c d : Eg.D) : mergeD [] [(.inr "left", a), (.inr "seed", b), (.inr "cells", c), (.inr "spot", d)] = [(.inr "left", a), (.inr "seed", b), (.inr "cells", c), (.inr "spot", d)] := by rfl
theorem pow18 : binD .pow (.int 10) (.int 18) = some (false, .int 1000000000000000000) := by rfl
theorem slc_l (xs : List Eg.D) (lo hi : Option Int) : slcD (.lst xs) lo hi = some (true, .lst (cutD xs lo hi)) := rfl
abbrev bB : CS := b__law_begun
theorem begun (n : Nat) (ns : List Int) (k : Int) (hn : ns.length ≤ 63) : ∃ l s c, callN tab (n + 1) 12 [(false, .lst (ns.map Eg.D.int)), (false, .int k)] = .ok true (mD l s c 0) [(false, .lst (ns.map Eg.D.int)), (false, .int k)] ∧ c ≠ [] := by
  obtain ⟨a, ea, la⟩ := cut_int ns (some k) none
  obtain ⟨b, eb, lb⟩ := cut_int ns none (some k)
  have eab : binD .add (.lst (a.map Eg.D.int)) (.lst (b.map Eg.D.int)) = some (true, .lst ((a ++ b).map Eg.D.int)) := by
    rw [bin_addL (by simp [sizeLine]; omega), List.map_append]
  have lc : (a ++ b).length ≤ 126 := by
    rw [List.length_append]
    omega
  generalize hcs : a ++ b = cs at eab lc
  let S : Eg.D := .lst (ns.map Eg.D.int)
  let C : Eg.D := .lst (cs.map Eg.D.int)
  have st0 : Eg.run (callN tab n) (nthS bB 0) [some (.sh, S), some (.sh, .int k), none, none, none, none] = .nx [some (.sh, S), some (.sh, .int k), some (.ow, C), none, none, none] := by
    simp only [nthS, bB, b__law_begun]
    simp -dsimp -implicitDefEqProofs [Eg.run, ev, evL, evB, evA, evI, evO, evF, startR, two_late, two_none, CE.late, CE.isNil, peek_0, peek_s, slot_0, slot_s, unown_0, unown_s, Fl.shared, st_n, st_h, st_w, store_s, nxO, lift_some, fin_val, fin_bor, fin_tst, Eg.tru_ok, truth_bl, truth_int, subOf, Eg.eq_int, eq_str, ne_str, ne_int, eq_bl, outsOf, Fl.own, small, sizeLine, isT, ↓loopC_P, ↓loopF_P, loopCP_nil, loopCP_cons, loopFP_nil, loopFP_cons, ↓bind_P, ↓stm_P, ↓then_P, bindP_ok, stmP_ok, thenP_nx, thenP_rt, calm_ok, oneOf_1, oneOf_2, storeL, storeF, put_one, put_many_, blt_int_b, blt_int_i, blt_len_l, blt_len_t, blt_min, bin_add, bin_sub, Eg.cmp_gt, cmp_ge, cmp_lt, cmp_le, ix_l0, ixt0, ixt1, ixt2, ixt3, ixt4, ixt5, ixt6, ixl1, ixl2, mayWipe, restore, zipD, itemsD, callA, callB, fl_f, fl_lst, fl_dk, fl_ins, fl_tp, argD, djA, back, lentOf, D.isNon, isMu, muTy, putI_w, putI_b, putI_s, pairD_2, in_str, nin_str, anyEq_nil, anyEq_str, bin_addT, fld_1, S, C, slc_l, ea, eb, eab]
  have st1 : ∃ g : List Int, Eg.run (callN tab n) (nthS bB 1) [some (.sh, S), some (.sh, .int k), some (.ow, C), none, none, none] = .nx [some (.sh, S), some (.sh, .int k), some (.sh, C), some (.ow, .lst (g.map Eg.D.int)), none, none] := by
    obtain ⟨ys, r', e, ⟨x4, hx4, hr⟩, hP, _⟩ := loopC_all (tg := .one 4) (vs := [4]) (fc := fun r => (ev (callN tab n) (.cmp .ge (.var 4) (.bin .pow (.lit (.int 10)) (.lit (.int 18)))) .tst r).bind fun x r => lift (isT x.2) r) (fe := fun r => (ev (callN tab n) (.var 4) .val r).bind fun x r => .ok x.2 r)
      (I := fun r => ∃ x4, okS x4 = true ∧ r = [some (.sh, S), some (.sh, .int k), some (.sh, C), none, x4, none]) (P := fun y => ∃ i : Int, y = .int i) (cs.map Eg.D.int) [] [some (.sh, S), some (.sh, .int k), some (.sh, C), none, none, none] ⟨none, rfl, rfl⟩ (fun a h => by cases h) (by simp [sizeLine]; omega) (fun x hx r hr => by
        obtain ⟨i, _, rfl⟩ := List.mem_map.mp hx
        obtain ⟨x4, hx4, rfl⟩ := hr
        refine ⟨[some (.sh, S), some (.sh, .int k), some (.sh, C), none, some (.sh, .int i), none], decide (1000000000000000000 ≤ i), [some (.sh, S), some (.sh, .int k), some (.sh, C), none, some (.sh, .int i), none], ?_, ?_, fun _ => ⟨_, rfl, rfl⟩, fun _ => ⟨.int i, [some (.sh, S), some (.sh, .int k), some (.sh, C), none, some (.sh, .int i), none], ?_, ⟨i, rfl⟩, _, rfl, rfl⟩⟩
        · simp -dsimp -implicitDefEqProofs [Eg.run, ev, evL, evB, evA, evI, evO, evF, startR, two_late, two_none, CE.late, CE.isNil, peek_0, peek_s, slot_0, slot_s, unown_0, unown_s, Fl.shared, st_n, st_h, st_w, store_s, nxO, lift_some, fin_val, fin_bor, fin_tst, Eg.tru_ok, truth_bl, truth_int, subOf, Eg.eq_int, eq_str, ne_str, ne_int, eq_bl, outsOf, Fl.own, small, sizeLine, isT, ↓loopC_P, ↓loopF_P, loopCP_nil, loopCP_cons, loopFP_nil, loopFP_cons, ↓bind_P, ↓stm_P, ↓then_P, bindP_ok, stmP_ok, thenP_nx, thenP_rt, calm_ok, oneOf_1, oneOf_2, storeL, storeF, put_one, put_many_, blt_int_b, blt_int_i, blt_len_l, blt_len_t, blt_min, bin_add, bin_sub, Eg.cmp_gt, cmp_ge, cmp_lt, cmp_le, ix_l0, ixt0, ixt1, ixt2, ixt3, ixt4, ixt5, ixt6, ixl1, ixl2, mayWipe, restore, zipD, itemsD, callA, callB, fl_f, fl_lst, fl_dk, fl_ins, fl_tp, argD, djA, back, lentOf, D.isNon, isMu, muTy, putI_w, putI_b, putI_s, pairD_2, in_str, nin_str, anyEq_nil, anyEq_str, bin_addT, fld_1]
        · simp -dsimp -implicitDefEqProofs [Eg.run, ev, evL, evB, evA, evI, evO, evF, startR, two_late, two_none, CE.late, CE.isNil, peek_0, peek_s, slot_0, slot_s, unown_0, unown_s, Fl.shared, st_n, st_h, st_w, store_s, nxO, lift_some, fin_val, fin_bor, fin_tst, Eg.tru_ok, truth_bl, truth_int, subOf, Eg.eq_int, eq_str, ne_str, ne_int, eq_bl, outsOf, Fl.own, small, sizeLine, isT, ↓loopC_P, ↓loopF_P, loopCP_nil, loopCP_cons, loopFP_nil, loopFP_cons, ↓bind_P, ↓stm_P, ↓then_P, bindP_ok, stmP_ok, thenP_nx, thenP_rt, calm_ok, oneOf_1, oneOf_2, storeL, storeF, put_one, put_many_, blt_int_b, blt_int_i, blt_len_l, blt_len_t, blt_min, bin_add, bin_sub, Eg.cmp_gt, cmp_ge, cmp_lt, cmp_le, ix_l0, ixt0, ixt1, ixt2, ixt3, ixt4, ixt5, ixt6, ixl1, ixl2, mayWipe, restore, zipD, itemsD, callA, callB, fl_f, fl_lst, fl_dk, fl_ins, fl_tp, argD, djA, back, lentOf, D.isNon, isMu, muTy, putI_w, putI_b, putI_s, pairD_2, in_str, nin_str, anyEq_nil, anyEq_str, bin_addT, fld_1, pow18]
        · simp -dsimp -implicitDefEqProofs [Eg.run, ev, evL, evB, evA, evI, evO, evF, startR, two_late, two_none, CE.late, CE.isNil, peek_0, peek_s, slot_0, slot_s, unown_0, unown_s, Fl.shared, st_n, st_h, st_w, store_s, nxO, lift_some, fin_val, fin_bor, fin_tst, Eg.tru_ok, truth_bl, truth_int, subOf, Eg.eq_int, eq_str, ne_str, ne_int, eq_bl, outsOf, Fl.own, small, sizeLine, isT, ↓loopC_P, ↓loopF_P, loopCP_nil, loopCP_cons, loopFP_nil, loopFP_cons, ↓bind_P, ↓stm_P, ↓then_P, bindP_ok, stmP_ok, thenP_nx, thenP_rt, calm_ok, oneOf_1, oneOf_2, storeL, storeF, put_one, put_many_, blt_int_b, blt_int_i, blt_len_l, blt_len_t, blt_min, bin_add, bin_sub, Eg.cmp_gt, cmp_ge, cmp_lt, cmp_le, ix_l0, ixt0, ixt1, ixt2, ixt3, ixt4, ixt5, ixt6, ixl1, ixl2, mayWipe, restore, zipD, itemsD, callA, callB, fl_f, fl_lst, fl_dk, fl_ins, fl_tp, argD, djA, back, lentOf, D.isNon, isMu, muTy, putI_w, putI_b, putI_s, pairD_2, in_str, nin_str, anyEq_nil, anyEq_str, bin_addT, fld_1])
    obtain ⟨g, rfl⟩ := all_int hP
    subst hr
    refine ⟨g, ?_⟩
    have e2 : loopC (.one 4) [4] (fun r => (ev (callN tab n) (.cmp .ge (.var 4) (.bin .pow (.lit (.int 10)) (.lit (.int 18)))) .tst r).bind fun x r => lift (isT x.2) r) (fun r => (ev (callN tab n) (.var 4) .val r).bind fun x r => .ok x.2 r) (cs.map Eg.D.int) [] [some (.sh, S), some (.sh, .int k), some (.sh, C), none, none, none] = .ok (g.map Eg.D.int) [some (.sh, S), some (.sh, .int k), some (.sh, C), none, x4, none] := e
    have e3 : ev (callN tab n) (.comp [("_law_cell", 4)] [4] (.seq (.var 2)) (.cmp .ge (.var 4) (.bin .pow (.lit (.int 10)) (.lit (.int 18)))) (.var 4)) .val [some (.sh, S), some (.sh, .int k), some (.ow, C), none, none, none] = .ok (true, .lst (g.map Eg.D.int)) [some (.sh, S), some (.sh, .int k), some (.sh, C), none, none, none] := by
      show ((lift (some (cs.map Eg.D.int)) [some (.sh, S), some (.sh, .int k), some (.sh, C), none, none, none]).bind fun xs r => if mayWipe r [4] then (calm (loopC (.one 4) [4] (fun r => (ev (callN tab n) (.cmp .ge (.var 4) (.bin .pow (.lit (.int 10)) (.lit (.int 18)))) .tst r).bind fun x r => lift (isT x.2) r) (fun r => (ev (callN tab n) (.var 4) .val r).bind fun x r => .ok x.2 r) xs [] r)).bind fun ys r' => Out.ok (true, Eg.D.lst ys) (restore r r' [4]) else Out.no) = _
      rw [lift_some, bind_ok, e2]
      rfl
    show (ev (callN tab n) (.comp [("_law_cell", 4)] [4] (.seq (.var 2)) (.cmp .ge (.var 4) (.bin .pow (.lit (.int 10)) (.lit (.int 18)))) (.var 4)) .val _).stm _ = _
    rw [e3]
    rfl
  obtain ⟨g, st1⟩ := st1
  have st2 : Eg.run (callN tab n) (nthS bB 2) [some (.sh, S), some (.sh, .int k), some (.sh, C), some (.ow, .lst (g.map Eg.D.int)), none, none] = .nx [some (.sh, S), some (.sh, .int k), some (.sh, C), some (.ow, .lst (g.map Eg.D.int)), none, some (.sh, .int (97 + k))] := by
    simp only [nthS, bB, b__law_begun]
    simp -dsimp -implicitDefEqProofs [Eg.run, ev, evL, evB, evA, evI, evO, evF, startR, two_late, two_none, CE.late, CE.isNil, peek_0, peek_s, slot_0, slot_s, unown_0, unown_s, Fl.shared, st_n, st_h, st_w, store_s, nxO, lift_some, fin_val, fin_bor, fin_tst, Eg.tru_ok, truth_bl, truth_int, subOf, Eg.eq_int, eq_str, ne_str, ne_int, eq_bl, outsOf, Fl.own, small, sizeLine, isT, ↓loopC_P, ↓loopF_P, loopCP_nil, loopCP_cons, loopFP_nil, loopFP_cons, ↓bind_P, ↓stm_P, ↓then_P, bindP_ok, stmP_ok, thenP_nx, thenP_rt, calm_ok, oneOf_1, oneOf_2, storeL, storeF, put_one, put_many_, blt_int_b, blt_int_i, blt_len_l, blt_len_t, blt_min, bin_add, bin_sub, Eg.cmp_gt, cmp_ge, cmp_lt, cmp_le, ix_l0, ixt0, ixt1, ixt2, ixt3, ixt4, ixt5, ixt6, ixl1, ixl2, mayWipe, restore, zipD, itemsD, callA, callB, fl_f, fl_lst, fl_dk, fl_ins, fl_tp, argD, djA, back, lentOf, D.isNon, isMu, muTy, putI_w, putI_b, putI_s, pairD_2, in_str, nin_str, anyEq_nil, anyEq_str, bin_addT, fld_1]
  have st3 : ∃ (x4 : Option (Fl × Eg.D)) (sd : Int), Eg.run (callN tab n) (nthS bB 3) [some (.sh, S), some (.sh, .int k), some (.sh, C), some (.ow, .lst (g.map Eg.D.int)), none, some (.sh, .int (97 + k))] = .nx [some (.sh, S), some (.sh, .int k), some (.sh, C), some (.ow, .lst (g.map Eg.D.int)), x4, some (.sh, .int sd)] := by
    have eI : evI (callN tab n) (.seq (.var 2)) [some (.sh, S), some (.sh, .int k), some (.sh, C), some (.ow, .lst (g.map Eg.D.int)), none, some (.sh, .int (97 + k))] = .ok (cs.map Eg.D.int) [some (.sh, S), some (.sh, .int k), some (.sh, C), some (.ow, .lst (g.map Eg.D.int)), none, some (.sh, .int (97 + k))] := by
      simp -dsimp -implicitDefEqProofs [Eg.run, ev, evL, evB, evA, evI, evO, evF, startR, two_late, two_none, CE.late, CE.isNil, peek_0, peek_s, slot_0, slot_s, unown_0, unown_s, Fl.shared, st_n, st_h, st_w, store_s, nxO, lift_some, fin_val, fin_bor, fin_tst, Eg.tru_ok, truth_bl, truth_int, subOf, Eg.eq_int, eq_str, ne_str, ne_int, eq_bl, outsOf, Fl.own, small, sizeLine, isT, ↓loopC_P, ↓loopF_P, loopCP_nil, loopCP_cons, loopFP_nil, loopFP_cons, ↓bind_P, ↓stm_P, ↓then_P, bindP_ok, stmP_ok, thenP_nx, thenP_rt, calm_ok, oneOf_1, oneOf_2, storeL, storeF, put_one, put_many_, blt_int_b, blt_int_i, blt_len_l, blt_len_t, blt_min, bin_add, bin_sub, Eg.cmp_gt, cmp_ge, cmp_lt, cmp_le, ix_l0, ixt0, ixt1, ixt2, ixt3, ixt4, ixt5, ixt6, ixl1, ixl2, mayWipe, restore, zipD, itemsD, callA, callB, fl_f, fl_lst, fl_dk, fl_ins, fl_tp, argD, djA, back, lentOf, D.isNon, isMu, muTy, putI_w, putI_b, putI_s, pairD_2, in_str, nin_str, anyEq_nil, anyEq_str, bin_addT, fld_1, C]
    have e := run_fors (tg := [4]) (b := bodyS (nthS bB 3)) eI
    obtain ⟨r', e2, x4, sd, _, hr⟩ := loopF_all (tg := oneOf [4]) (fb := Eg.run (callN tab n) (bodyS (nthS bB 3))) (I := fun r => ∃ x4 sd, okS x4 = true ∧ r = [some (.sh, S), some (.sh, .int k), some (.sh, C), some (.ow, .lst (g.map Eg.D.int)), x4, some (.sh, .int sd)]) (cs.map Eg.D.int) _ ⟨none, 97 + k, rfl, rfl⟩ (fun x hx r hr => by
      obtain ⟨i, _, rfl⟩ := List.mem_map.mp hx
      obtain ⟨x4, sd, hx4, rfl⟩ := hr
      have b6 : binD .mul (.int sd) (.int 48271) = some (false, .int (sd * 48271)) := bin_mul (.inr (by omega))
      refine ⟨[some (.sh, S), some (.sh, .int k), some (.sh, C), some (.ow, .lst (g.map Eg.D.int)), some (.sh, .int i), some (.sh, .int sd)], [some (.sh, S), some (.sh, .int k), some (.sh, C), some (.ow, .lst (g.map Eg.D.int)), some (.sh, .int i), some (.sh, .int ((sd * 48271 + i) % 2147483647))], ?_, ?_, _, _, rfl, rfl⟩
      · simp -dsimp -implicitDefEqProofs [Eg.run, ev, evL, evB, evA, evI, evO, evF, startR, two_late, two_none, CE.late, CE.isNil, peek_0, peek_s, slot_0, slot_s, unown_0, unown_s, Fl.shared, st_n, st_h, st_w, store_s, nxO, lift_some, fin_val, fin_bor, fin_tst, Eg.tru_ok, truth_bl, truth_int, subOf, Eg.eq_int, eq_str, ne_str, ne_int, eq_bl, outsOf, Fl.own, small, sizeLine, isT, ↓loopC_P, ↓loopF_P, loopCP_nil, loopCP_cons, loopFP_nil, loopFP_cons, ↓bind_P, ↓stm_P, ↓then_P, bindP_ok, stmP_ok, thenP_nx, thenP_rt, calm_ok, oneOf_1, oneOf_2, storeL, storeF, put_one, put_many_, blt_int_b, blt_int_i, blt_len_l, blt_len_t, blt_min, bin_add, bin_sub, Eg.cmp_gt, cmp_ge, cmp_lt, cmp_le, ix_l0, ixt0, ixt1, ixt2, ixt3, ixt4, ixt5, ixt6, ixl1, ixl2, mayWipe, restore, zipD, itemsD, callA, callB, fl_f, fl_lst, fl_dk, fl_ins, fl_tp, argD, djA, back, lentOf, D.isNon, isMu, muTy, putI_w, putI_b, putI_s, pairD_2, in_str, nin_str, anyEq_nil, anyEq_str, bin_addT, fld_1, store_0, hx4]
      · simp only [nthS, bodyS, bB, b__law_begun]
        simp -dsimp -implicitDefEqProofs [Eg.run, ev, evL, evB, evA, evI, evO, evF, startR, two_late, two_none, CE.late, CE.isNil, peek_0, peek_s, slot_0, slot_s, unown_0, unown_s, Fl.shared, st_n, st_h, st_w, store_s, nxO, lift_some, fin_val, fin_bor, fin_tst, Eg.tru_ok, truth_bl, truth_int, subOf, Eg.eq_int, eq_str, ne_str, ne_int, eq_bl, outsOf, Fl.own, small, sizeLine, isT, ↓loopC_P, ↓loopF_P, loopCP_nil, loopCP_cons, loopFP_nil, loopFP_cons, ↓bind_P, ↓stm_P, ↓then_P, bindP_ok, stmP_ok, thenP_nx, thenP_rt, calm_ok, oneOf_1, oneOf_2, storeL, storeF, put_one, put_many_, blt_int_b, blt_int_i, blt_len_l, blt_len_t, blt_min, bin_add, bin_sub, Eg.cmp_gt, cmp_ge, cmp_lt, cmp_le, ix_l0, ixt0, ixt1, ixt2, ixt3, ixt4, ixt5, ixt6, ixl1, ixl2, mayWipe, restore, zipD, itemsD, callA, callB, fl_f, fl_lst, fl_dk, fl_ins, fl_tp, argD, djA, back, lentOf, D.isNon, isMu, muTy, putI_w, putI_b, putI_s, pairD_2, in_str, nin_str, anyEq_nil, anyEq_str, bin_addT, fld_1, b6, bin_mod])
    subst hr
    exact ⟨x4, sd, by rw [← e2]; exact e⟩
  obtain ⟨x4, sd, st3⟩ := st3
  have ex : ∃ lf : Int, Eg.run (callN tab n) (nthS bB 4) [some (.sh, S), some (.sh, .int k), some (.sh, C), some (.ow, .lst (g.map Eg.D.int)), x4, some (.sh, .int sd)] = .rt true (mD lf sd (cs ++ [31 * k + 5]) 0) [some (.sh, S), some (.sh, .int k), some (.sh, C), some (.ow, .lst (g.map Eg.D.int)), x4, some (.sh, .int sd)] := by
    have b7 : binD .mul (.int 31) (.int k) = some (false, .int (31 * k)) := bin_mul (.inl (by omega))
    have b8 : binD .add C (.lst [.int (31 * k + 5)]) = some (true, .lst ((cs ++ [31 * k + 5]).map Eg.D.int)) := by
      show binD .add (.lst (cs.map Eg.D.int)) (.lst [.int (31 * k + 5)]) = _
      rw [bin_addL (by simp [sizeLine]; omega), List.map_append]
      rfl
    cases g with
    | nil =>
      refine ⟨0, ?_⟩
      have b9 := ne_ints []
      simp only [nthS, bB, b__law_begun]
      simp at b9
      simp -dsimp -implicitDefEqProofs [Eg.run, ev, evL, evB, evA, evI, evO, evF, startR, two_late, two_none, CE.late, CE.isNil, peek_0, peek_s, slot_0, slot_s, unown_0, unown_s, Fl.shared, st_n, st_h, st_w, store_s, nxO, lift_some, fin_val, fin_bor, fin_tst, Eg.tru_ok, truth_bl, truth_int, subOf, Eg.eq_int, eq_str, ne_str, ne_int, eq_bl, outsOf, Fl.own, small, sizeLine, isT, ↓loopC_P, ↓loopF_P, loopCP_nil, loopCP_cons, loopFP_nil, loopFP_cons, ↓bind_P, ↓stm_P, ↓then_P, bindP_ok, stmP_ok, thenP_nx, thenP_rt, calm_ok, oneOf_1, oneOf_2, storeL, storeF, put_one, put_many_, blt_int_b, blt_int_i, blt_len_l, blt_len_t, blt_min, bin_add, bin_sub, Eg.cmp_gt, cmp_ge, cmp_lt, cmp_le, ix_l0, ixt0, ixt1, ixt2, ixt3, ixt4, ixt5, ixt6, ixl1, ixl2, mayWipe, restore, zipD, itemsD, callA, callB, fl_f, fl_lst, fl_dk, fl_ins, fl_tp, argD, djA, back, lentOf, D.isNon, isMu, muTy, putI_w, putI_b, putI_s, pairD_2, in_str, nin_str, anyEq_nil, anyEq_str, bin_addT, fld_1, b7, b8, b9, dct_m, mrg_m, mD, mK]
    | cons i g =>
      refine ⟨i, ?_⟩
      have b9 := ne_ints (i :: g)
      simp only [nthS, bB, b__law_begun]
      simp at b9
      simp -dsimp -implicitDefEqProofs [Eg.run, ev, evL, evB, evA, evI, evO, evF, startR, two_late, two_none, CE.late, CE.isNil, peek_0, peek_s, slot_0, slot_s, unown_0, unown_s, Fl.shared, st_n, st_h, st_w, store_s, nxO, lift_some, fin_val, fin_bor, fin_tst, Eg.tru_ok, truth_bl, truth_int, subOf, Eg.eq_int, eq_str, ne_str, ne_int, eq_bl, outsOf, Fl.own, small, sizeLine, isT, ↓loopC_P, ↓loopF_P, loopCP_nil, loopCP_cons, loopFP_nil, loopFP_cons, ↓bind_P, ↓stm_P, ↓then_P, bindP_ok, stmP_ok, thenP_nx, thenP_rt, calm_ok, oneOf_1, oneOf_2, storeL, storeF, put_one, put_many_, blt_int_b, blt_int_i, blt_len_l, blt_len_t, blt_min, bin_add, bin_sub, Eg.cmp_gt, cmp_ge, cmp_lt, cmp_le, ix_l0, ixt0, ixt1, ixt2, ixt3, ixt4, ixt5, ixt6, ixl1, ixl2, mayWipe, restore, zipD, itemsD, callA, callB, fl_f, fl_lst, fl_dk, fl_ins, fl_tp, argD, djA, back, lentOf, D.isNon, isMu, muTy, putI_w, putI_b, putI_s, pairD_2, in_str, nin_str, anyEq_nil, anyEq_str, bin_addT, fld_1, b7, b8, b9, dct_m, mrg_m, mD, mK]
  obtain ⟨lf, st4⟩ := ex
  refine ⟨lf, sd, cs ++ [31 * k + 5], ?_, by simp⟩
  show callFn (callN tab n) f__law_begun [(false, S), (false, .int k)] = _
  have e : Eg.run (callN tab n) f__law_begun.body (startR f__law_begun [(false, S), (false, .int k)]) = .rt true (mD lf sd (cs ++ [31 * k + 5]) 0) [some (.sh, S), some (.sh, .int k), some (.sh, C), some (.ow, .lst (g.map Eg.D.int)), x4, some (.sh, .int sd)] := by
    show (Eg.run (callN tab n) (nthS bB 0) _).then (fun r => (Eg.run (callN tab n) (nthS bB 1) r).then fun r => (Eg.run (callN tab n) (nthS bB 2) r).then fun r => (Eg.run (callN tab n) (nthS bB 3) r).then fun r => (Eg.run (callN tab n) (nthS bB 4) r).then fun r => .nx r) = _
    rw [show startR f__law_begun [(false, S), (false, .int k)] = [some (.sh, S), some (.sh, .int k), none, none, none, none] from rfl, st0, then_nx, st1, then_nx, st2, then_nx, st3, then_nx, st4]
    rfl
  exact callFn_rt rfl e
end Law
namespace Law
open PySem Eg
def Mt (B : Int) (m : Eg.D) : Prop := ∃ l s c p, m = mD l s c p ∧ c ≠ [] ∧ 0 ≤ p ∧ p ≤ B
theorem Mt_le {B B' : Int} {m : Eg.D} (h : Mt B m) (hb : B ≤ B') : Mt B' m := by
  obtain ⟨l, s, c, p, e, h1, h2, h3⟩ := h
  exact ⟨l, s, c, p, e, h1, h2, by omega⟩
theorem drawM (n : Nat) {B many : Int} {m : Eg.D} (h : Mt B m) (hB : B < 900000) (hm : 0 < many) (hm2 : many < 1000000) :
    ∃ v m', callN tab (n + 1) 13 [(true, m), (false, .int many)] = .ok false (.int v) [(true, m'), (false, .int many)] ∧ 0 ≤ v ∧ v < many ∧ Mt (B + 1) m' := by
  obtain ⟨l, s, c, p, rfl, h1, h2, h3⟩ := h
  obtain ⟨v, l', p', e, g1, g2, g3, g4⟩ := draw n (l := l) (s := s) h1 h2 (by omega) hm hm2
  exact ⟨v, _, e, g1, g2, l', s, c, p', rfl, h1, by omega, by omega⟩
theorem ofM (n : Nat) {B : Int} {m : Eg.D} {xs : List Eg.D} (b : Bool) (h : Mt B m) (hB : B < 900000) (hx : xs ≠ []) (hx2 : xs.length < 1000000) :
    ∃ d m', callN tab (n + 2) 14 [(true, m), (b, .lst xs)] = .ok false d [(true, m'), (b, .lst xs)] ∧ d ∈ xs ∧ Mt (B + 1) m' := by
  obtain ⟨l, s, c, p, rfl, h1, h2, h3⟩ := h
  obtain ⟨d, l', p', e, g1, g2, g3⟩ := of_ n (l := l) (s := s) b h1 h2 (by omega) hx hx2
  exact ⟨d, _, e, g1, l', s, c, p', rfl, h1, by omega, by omega⟩
def condsL : Kd → List Cd
  | .read => [.plain, .stamp, .tag, .look]
  | .put => [.plain, .stamp, .tag, .there, .none]
  | .take => [.plain, .stamp, .tag, .there]
theorem conds_may {r : Kd} {k : Cd} (h : k ∈ condsL r) : r.may k = true := by
  cases r <;> simp [condsL] at h <;> rcases h with rfl | rfl | rfl | rfl | rfl <;> rfl
def kS (k : Cd) : Eg.D := .str (Str.ofString k.s)
theorem conditions (n : Nat) (r : Kd) : callN tab (n + 1) 15 [(false, .str (Str.ofString r.s))] = .ok true (.lst ((condsL r).map kS)) [(false, .str (Str.ofString r.s))] := by
  cases r <;> kernel_rfl
theorem rng5 : rangeD 0 5 = some [.int 0, .int 1, .int 2, .int 3, .int 4] := by rfl
theorem tupL (xs : List Eg.D) : bltD .tuple [.lst xs] = some (false, .tup xs) := rfl
theorem cond_of (n : Nat) {B : Int} {m : Eg.D} (r : Kd) (h : Mt B m) (hB : B < 900000) : ∃ k m', callN tab (n + 2) 14 [(true, m), (false, .lst ((condsL r).map kS))] = .ok false (kS k) [(true, m'), (false, .lst ((condsL r).map kS))] ∧ r.may k = true ∧ Mt (B + 1) m' := by
  obtain ⟨d, m', e, hd, hm⟩ := ofM n false h hB (xs := (condsL r).map kS) (by cases r <;> simp [condsL]) (by cases r <;> decide)
  obtain ⟨k, hk, rfl⟩ := List.mem_map.mp hd
  exact ⟨k, m', e, conds_may hk, hm⟩
theorem end_of (n : Nat) {B : Int} {m : Eg.D} (h : Mt B m) (hB : B < 900000) : ∃ (w : En) (m' : Eg.D), callN tab (n + 2) 14 [(true, m), (false, .lst [.str (Str.ofString "yes"), .str (Str.ofString "no"), .str (Str.ofString "open")])] = .ok false (.str (Str.ofString w.s)) [(true, m'), (false, .lst [.str (Str.ofString "yes"), .str (Str.ofString "no"), .str (Str.ofString "open")])] ∧ Mt (B + 1) m' := by
  obtain ⟨d, m', e, hd, hm⟩ := ofM n false h hB (xs := [.str (Str.ofString "yes"), .str (Str.ofString "no"), .str (Str.ofString "open")]) (by simp) (by decide)
  simp only [List.mem_cons, List.not_mem_nil, or_false] at hd
  rcases hd with rfl | rfl | rfl
  · exact ⟨.yes, m', e, hm⟩
  · exact ⟨.no, m', e, hm⟩
  · exact ⟨.open_, m', e, hm⟩
theorem size_of (n : Nat) {B : Int} {m : Eg.D} (h : Mt B m) (hB : B < 900000) : ∃ (g : Bool) (m' : Eg.D), callN tab (n + 2) 14 [(true, m), (false, .lst [.str (Str.ofString "small"), .str (Str.ofString "great")])] = .ok false (.str (Str.ofString (sizeS g))) [(true, m'), (false, .lst [.str (Str.ofString "small"), .str (Str.ofString "great")])] ∧ Mt (B + 1) m' := by
  obtain ⟨d, m', e, hd, hm⟩ := ofM n false h hB (xs := [.str (Str.ofString "small"), .str (Str.ofString "great")]) (by simp) (by decide)
  simp only [List.mem_cons, List.not_mem_nil, or_false] at hd
  rcases hd with rfl | rfl
  · exact ⟨false, m', e, hm⟩
  · exact ⟨true, m', e, hm⟩
abbrev bA : CS := b__law_any_step
theorem any_step (n : Nat) {B : Int} {m : Eg.D} (total : Nat) (h : Mt B m) (hB : B < 800000) (h0 : 0 < total) (h8 : total ≤ 8) :
    ∃ s m', callN tab (n + 3) 16 [(true, m), (false, .int total)] = .ok false (St.d s) [(true, m'), (false, .int total)] ∧ s.ok total ∧ Mt (B + 8) m' := by
  obtain ⟨w, m1, e1, w0, w9, hm1⟩ := drawM (n + 1) (many := 9) h (by omega) (by omega) (by omega)
  obtain ⟨a, m2, e2, a0, a9, hm2⟩ := drawM (n + 1) (many := total) hm1 (by omega) (by omega) (by omega)
  obtain ⟨b, m3, e3, b0, b9, hm3⟩ := drawM (n + 1) (many := total) hm2 (by omega) (by omega) (by omega)
  obtain ⟨c, m4, e4, c0, c9, hm4⟩ := drawM (n + 1) (many := total) hm3 (by omega) (by omega) (by omega)
  obtain ⟨d, m5, e5, d0, d9, hm5⟩ := drawM (n + 1) (many := total) hm4 (by omega) (by omega) (by omega)
  obtain ⟨e, m6, e6, f0, f9, hm6⟩ := drawM (n + 1) (many := total) hm5 (by omega) (by omega) (by omega)
  obtain ⟨a, rfl⟩ : ∃ k : Nat, a = k := ⟨a.toNat, by omega⟩
  obtain ⟨b, rfl⟩ : ∃ k : Nat, b = k := ⟨b.toNat, by omega⟩
  obtain ⟨c, rfl⟩ : ∃ k : Nat, c = k := ⟨c.toNat, by omega⟩
  obtain ⟨d, rfl⟩ : ∃ k : Nat, d = k := ⟨d.toNat, by omega⟩
  obtain ⟨e, rfl⟩ : ∃ k : Nat, e = k := ⟨e.toNat, by omega⟩
  let X : Eg.D := .lst [.int a, .int b, .int c, .int d, .int e]
  have st0 : Eg.run (callN tab (n + 2)) (nthS bA 0) [some (.bo, m), some (.sh, .int total), none, none, none, none] = .nx [some (.bo, m6), some (.sh, .int total), some (.sh, .int w), some (.ow, X), none, none] := by
    simp only [nthS, bA, b__law_any_step]
    simp -dsimp -implicitDefEqProofs [Eg.run, ev, evL, evB, evA, evI, evO, evF, startR, two_late, two_none, CE.late, CE.isNil, peek_0, peek_s, slot_0, slot_s, unown_0, unown_s, Fl.shared, st_n, st_h, st_w, store_s, nxO, lift_some, fin_val, fin_bor, fin_tst, Eg.tru_ok, truth_bl, truth_int, subOf, Eg.eq_int, eq_str, ne_str, ne_int, eq_bl, outsOf, Fl.own, small, sizeLine, isT, ↓loopC_P, ↓loopF_P, loopCP_nil, loopCP_cons, loopFP_nil, loopFP_cons, ↓bind_P, ↓stm_P, ↓then_P, bindP_ok, stmP_ok, thenP_nx, thenP_rt, calm_ok, oneOf_1, oneOf_2, storeL, storeF, put_one, put_many_, blt_int_b, blt_int_i, blt_len_l, blt_len_t, blt_min, bin_add, bin_sub, Eg.cmp_gt, cmp_ge, cmp_lt, cmp_le, ix_l0, ixt0, ixt1, ixt2, ixt3, ixt4, ixt5, ixt6, ixl1, ixl2, mayWipe, restore, zipD, itemsD, callA, callB, fl_f, fl_lst, fl_dk, fl_ins, fl_tp, argD, djA, back, lentOf, D.isNon, isMu, muTy, putI_w, putI_b, putI_s, pairD_2, in_str, nin_str, anyEq_nil, anyEq_str, bin_addT, fld_1, e1, e2, e3, e4, e5, e6, rng5, X]
  have sr : startR f__law_any_step [(true, m), (false, .int total)] = [some (.bo, m), some (.sh, .int total), none, none, none, none] := rfl
  have fin : ∀ (s : St) (m' : Eg.D) (x3 x5 : Option (Fl × Eg.D)), Eg.run (callN tab (n + 2)) (.cons (nthS bA 1) (.cons (nthS bA 2) (.cons (nthS bA 3) (.cons (nthS bA 4) .nil)))) [some (.bo, m6), some (.sh, .int total), some (.sh, .int w), some (.ow, X), none, none] = .rt false s.d [some (.bo, m'), some (.sh, .int total), some (.sh, .int w), x3, none, x5] → callN tab (n + 3) 16 [(true, m), (false, .int total)] = .ok false (St.d s) [(true, m'), (false, .int total)] := by
    intro s m' x3 x5 e
    show callFn (callN tab (n + 2)) f__law_any_step [(true, m), (false, .int total)] = _
    refine (callFn_rt (r := [some (.bo, m'), some (.sh, .int total), some (.sh, .int w), x3, none, x5]) rfl ?_).trans rfl
    rw [sr]
    show (Eg.run (callN tab (n + 2)) (nthS bA 0) _).then (fun r => Eg.run (callN tab (n + 2)) (.cons (nthS bA 1) (.cons (nthS bA 2) (.cons (nthS bA 3) (.cons (nthS bA 4) .nil)))) r) = _
    rw [st0, then_nx, e]
  have c1 := conditions (n + 1) .read
  have c2 := conditions (n + 1) .put
  have c3 := conditions (n + 1) .take
  simp only [Kd.s] at c1 c2 c3
  by_cases g1 : w < 3
  · obtain ⟨k, m7, e7, hk, hm7⟩ := cond_of n .read hm6 (by omega)
    refine ⟨.read k a b c d e, m7, fin _ m7 (some (.ow, X)) (none) ?_, ⟨hk, by omega, by omega, by omega, by omega, by omega⟩, Mt_le hm7 (by omega)⟩
    · have ad : binD .add (.tup [.str (Str.ofString "read"), kS k]) (.tup [.int a, .int b, .int c, .int d, .int e]) = some (false, (St.read k a b c d e).d) := by rfl
      simp only [nthS, bA, b__law_any_step, X]
      simp -dsimp -implicitDefEqProofs [Eg.run, ev, evL, evB, evA, evI, evO, evF, startR, two_late, two_none, CE.late, CE.isNil, peek_0, peek_s, slot_0, slot_s, unown_0, unown_s, Fl.shared, st_n, st_h, st_w, store_s, nxO, lift_some, fin_val, fin_bor, fin_tst, Eg.tru_ok, truth_bl, truth_int, subOf, Eg.eq_int, eq_str, ne_str, ne_int, eq_bl, outsOf, Fl.own, small, sizeLine, isT, ↓loopC_P, ↓loopF_P, loopCP_nil, loopCP_cons, loopFP_nil, loopFP_cons, ↓bind_P, ↓stm_P, ↓then_P, bindP_ok, stmP_ok, thenP_nx, thenP_rt, calm_ok, oneOf_1, oneOf_2, storeL, storeF, put_one, put_many_, blt_int_b, blt_int_i, blt_len_l, blt_len_t, blt_min, bin_add, bin_sub, Eg.cmp_gt, cmp_ge, cmp_lt, cmp_le, ix_l0, ixt0, ixt1, ixt2, ixt3, ixt4, ixt5, ixt6, ixl1, ixl2, mayWipe, restore, zipD, itemsD, callA, callB, fl_f, fl_lst, fl_dk, fl_ins, fl_tp, argD, djA, back, lentOf, D.isNon, isMu, muTy, putI_w, putI_b, putI_s, pairD_2, in_str, nin_str, anyEq_nil, anyEq_str, bin_addT, fld_1, g1, c1, e7, tupL, ad, show ∀ xs, flatR true (.lst xs) = (true, .lst xs) from fun _ => rfl]
  by_cases g2 : w < 6
  · obtain ⟨g, m7, e7, hm7⟩ := size_of n hm6 (by omega)
    obtain ⟨k, m8, e8, hk, hm8⟩ := cond_of n .put hm7 (by omega)
    refine ⟨.put k g a b c, m8, fin _ m8 (some (.sh, X)) (some (.sh, .str (Str.ofString (sizeS g)))) ?_, ⟨hk, by omega, by omega, by omega⟩, Mt_le hm8 (by omega)⟩
    · have ad : binD .add (.tup [.str (Str.ofString "put"), kS k, .str (Str.ofString (sizeS g))]) (.tup [.int a, .int b, .int c]) = some (false, (St.put k g a b c).d) := by rfl
      have sl : slcD (.lst [.int a, .int b, .int c, .int d, .int e]) none (some 3) = some (true, .lst [.int a, .int b, .int c]) := by rfl
      simp only [nthS, bA, b__law_any_step, X]
      simp -dsimp -implicitDefEqProofs [Eg.run, ev, evL, evB, evA, evI, evO, evF, startR, two_late, two_none, CE.late, CE.isNil, peek_0, peek_s, slot_0, slot_s, unown_0, unown_s, Fl.shared, st_n, st_h, st_w, store_s, nxO, lift_some, fin_val, fin_bor, fin_tst, Eg.tru_ok, truth_bl, truth_int, subOf, Eg.eq_int, eq_str, ne_str, ne_int, eq_bl, outsOf, Fl.own, small, sizeLine, isT, ↓loopC_P, ↓loopF_P, loopCP_nil, loopCP_cons, loopFP_nil, loopFP_cons, ↓bind_P, ↓stm_P, ↓then_P, bindP_ok, stmP_ok, thenP_nx, thenP_rt, calm_ok, oneOf_1, oneOf_2, storeL, storeF, put_one, put_many_, blt_int_b, blt_int_i, blt_len_l, blt_len_t, blt_min, bin_add, bin_sub, Eg.cmp_gt, cmp_ge, cmp_lt, cmp_le, ix_l0, ixt0, ixt1, ixt2, ixt3, ixt4, ixt5, ixt6, ixl1, ixl2, mayWipe, restore, zipD, itemsD, callA, callB, fl_f, fl_lst, fl_dk, fl_ins, fl_tp, argD, djA, back, lentOf, D.isNon, isMu, muTy, putI_w, putI_b, putI_s, pairD_2, in_str, nin_str, anyEq_nil, anyEq_str, bin_addT, fld_1, g1, g2, c2, e7, e8, tupL, ad, sl]
  by_cases g3 : w = 6
  · obtain ⟨k, m7, e7, hk, hm7⟩ := cond_of n .take hm6 (by omega)
    refine ⟨.take k a b c d, m7, fin _ m7 (some (.sh, X)) (none) ?_, ⟨hk, by omega, by omega, by omega, by omega⟩, Mt_le hm7 (by omega)⟩
    · have ad : binD .add (.tup [.str (Str.ofString "take"), kS k]) (.tup [.int a, .int b, .int c, .int d]) = some (false, (St.take k a b c d).d) := by rfl
      have sl : slcD (.lst [.int a, .int b, .int c, .int d, .int e]) none (some 4) = some (true, .lst [.int a, .int b, .int c, .int d]) := by rfl
      simp only [nthS, bA, b__law_any_step, X]
      simp -dsimp -implicitDefEqProofs [Eg.run, ev, evL, evB, evA, evI, evO, evF, startR, two_late, two_none, CE.late, CE.isNil, peek_0, peek_s, slot_0, slot_s, unown_0, unown_s, Fl.shared, st_n, st_h, st_w, store_s, nxO, lift_some, fin_val, fin_bor, fin_tst, Eg.tru_ok, truth_bl, truth_int, subOf, Eg.eq_int, eq_str, ne_str, ne_int, eq_bl, outsOf, Fl.own, small, sizeLine, isT, ↓loopC_P, ↓loopF_P, loopCP_nil, loopCP_cons, loopFP_nil, loopFP_cons, ↓bind_P, ↓stm_P, ↓then_P, bindP_ok, stmP_ok, thenP_nx, thenP_rt, calm_ok, oneOf_1, oneOf_2, storeL, storeF, put_one, put_many_, blt_int_b, blt_int_i, blt_len_l, blt_len_t, blt_min, bin_add, bin_sub, Eg.cmp_gt, cmp_ge, cmp_lt, cmp_le, ix_l0, ixt0, ixt1, ixt2, ixt3, ixt4, ixt5, ixt6, ixl1, ixl2, mayWipe, restore, zipD, itemsD, callA, callB, fl_f, fl_lst, fl_dk, fl_ins, fl_tp, argD, djA, back, lentOf, D.isNon, isMu, muTy, putI_w, putI_b, putI_s, pairD_2, in_str, nin_str, anyEq_nil, anyEq_str, bin_addT, fld_1, g1, g2, g3, c3, e7, tupL, ad, sl]
  by_cases g4 : w = 7
  · refine ⟨.forget a, m6, fin _ m6 (some (.ow, X)) (none) ?_, (by show a < total; omega), Mt_le hm6 (by omega)⟩
    · simp only [nthS, bA, b__law_any_step, X]
      simp -dsimp -implicitDefEqProofs [Eg.run, ev, evL, evB, evA, evI, evO, evF, startR, two_late, two_none, CE.late, CE.isNil, peek_0, peek_s, slot_0, slot_s, unown_0, unown_s, Fl.shared, st_n, st_h, st_w, store_s, nxO, lift_some, fin_val, fin_bor, fin_tst, Eg.tru_ok, truth_bl, truth_int, subOf, Eg.eq_int, eq_str, ne_str, ne_int, eq_bl, outsOf, Fl.own, small, sizeLine, isT, ↓loopC_P, ↓loopF_P, loopCP_nil, loopCP_cons, loopFP_nil, loopFP_cons, ↓bind_P, ↓stm_P, ↓then_P, bindP_ok, stmP_ok, thenP_nx, thenP_rt, calm_ok, oneOf_1, oneOf_2, storeL, storeF, put_one, put_many_, blt_int_b, blt_int_i, blt_len_l, blt_len_t, blt_min, bin_add, bin_sub, Eg.cmp_gt, cmp_ge, cmp_lt, cmp_le, ix_l0, ixt0, ixt1, ixt2, ixt3, ixt4, ixt5, ixt6, ixl1, ixl2, mayWipe, restore, zipD, itemsD, callA, callB, fl_f, fl_lst, fl_dk, fl_ins, fl_tp, argD, djA, back, lentOf, D.isNon, isMu, muTy, putI_w, putI_b, putI_s, pairD_2, in_str, nin_str, anyEq_nil, anyEq_str, bin_addT, fld_1, g1, g2, g3, g4, St.d]
  · obtain ⟨x, m7, e7, hm7⟩ := end_of n hm6 (by omega)
    refine ⟨.fin x, m7, fin _ m7 (some (.ow, X)) (none) ?_, trivial, Mt_le hm7 (by omega)⟩
    · simp only [nthS, bA, b__law_any_step, X]
      simp -dsimp -implicitDefEqProofs [Eg.run, ev, evL, evB, evA, evI, evO, evF, startR, two_late, two_none, CE.late, CE.isNil, peek_0, peek_s, slot_0, slot_s, unown_0, unown_s, Fl.shared, st_n, st_h, st_w, store_s, nxO, lift_some, fin_val, fin_bor, fin_tst, Eg.tru_ok, truth_bl, truth_int, subOf, Eg.eq_int, eq_str, ne_str, ne_int, eq_bl, outsOf, Fl.own, small, sizeLine, isT, ↓loopC_P, ↓loopF_P, loopCP_nil, loopCP_cons, loopFP_nil, loopFP_cons, ↓bind_P, ↓stm_P, ↓then_P, bindP_ok, stmP_ok, thenP_nx, thenP_rt, calm_ok, oneOf_1, oneOf_2, storeL, storeF, put_one, put_many_, blt_int_b, blt_int_i, blt_len_l, blt_len_t, blt_min, bin_add, bin_sub, Eg.cmp_gt, cmp_ge, cmp_lt, cmp_le, ix_l0, ixt0, ixt1, ixt2, ixt3, ixt4, ixt5, ixt6, ixl1, ixl2, mayWipe, restore, zipD, itemsD, callA, callB, fl_f, fl_lst, fl_dk, fl_ins, fl_tp, argD, djA, back, lentOf, D.isNon, isMu, muTy, putI_w, putI_b, putI_s, pairD_2, in_str, nin_str, anyEq_nil, anyEq_str, bin_addT, fld_1, g1, g2, g3, g4, e7, St.d]
theorem evI_rng {cl : Cal} {i : Nat} {r : Rho} {k : Nat} (h : peek r i = some (.int k)) (hk : k ≤ 1000) : evI cl (.rng1 (.var i)) r = .ok ((List.range k).map fun j => Eg.D.int (j : Nat)) r := by
  show ((lift (peek r i) r).bind fun x r => Out.ok (false, x) r).bind _ = _
  rw [h, lift_some, bind_ok, bind_ok]
  show lift (rangeD 0 k) r = _
  have : rangeD 0 (k : Int) = some ((List.range k).map fun j => Eg.D.int (j : Nat)) := by
    unfold rangeD
    rw [if_pos (by omega)]
    simp
  rw [this]
  rfl
abbrev bS : CS := b__law_any_steps
theorem put_lastD (xs : List Eg.D) (h : xs ≠ []) (d : Eg.D) : putD (.lst xs) (.int (-1)) d = some (.lst (xs.set (xs.length - 1) d)) := by
  have hl : 0 < xs.length := List.length_pos_iff.mpr h
  show (L2.ixN xs.length (-1)).map (fun j => Eg.D.lst (xs.set j d)) = _
  unfold L2.ixN
  rw [if_neg (by omega), if_pos (by omega)]
  show some (Eg.D.lst (xs.set ((-1 : Int) + (xs.length : Nat)).toNat d)) = _
  rw [show ((-1 : Int) + (xs.length : Nat)).toNat = xs.length - 1 by omega]
theorem all_st {m : Nat} : ∀ {ys : List Eg.D}, (∀ y ∈ ys, ∃ s : St, y = s.d ∧ s.ok m) → ∃ ss : List St, ys = ss.map St.d ∧ ∀ s ∈ ss, s.ok m
  | [], _ => ⟨[], rfl, fun _ h => nomatch h⟩
  | y :: ys, h => by
    obtain ⟨s, rfl, hs⟩ := h y (by simp)
    obtain ⟨ss, rfl, hss⟩ := all_st (ys := ys) fun z hz => h z (by simp [hz])
    refine ⟨s :: ss, rfl, fun z hz => ?_⟩
    rcases List.mem_cons.mp hz with rfl | hz
    · exact hs
    · exact hss z hz
theorem any_steps (n : Nat) {B : Int} {m : Eg.D} (h : Mt B m) (hB : B < 700000) :
    ∃ ss m', callN tab (n + 4) 17 [(true, m), (false, .int 8)] = .ok false (ssD ss) [(true, m'), (false, .int 8)] ∧ OkSs ss ∧ 0 < ss.length ∧ ss.length ≤ 8 ∧ Mt (B + 70) m' := by
  obtain ⟨v, m1, e1, v0, v8, hm1⟩ := drawM (n + 2) (many := 8) h (by omega) (by omega) (by omega)
  obtain ⟨k, hk⟩ : ∃ k : Nat, (1 : Int) + v = k := ⟨(1 + v).toNat, by omega⟩
  have k1 : 0 < k := by omega
  have k8 : k ≤ 8 := by omega
  have st0 : Eg.run (callN tab (n + 3)) (nthS bS 0) [some (.bo, m), some (.sh, .int 8), none, none, none] = .nx [some (.bo, m1), some (.sh, .int 8), some (.sh, .int k), none, none] := by
    simp only [nthS, bS, b__law_any_steps]
    simp -dsimp -implicitDefEqProofs [Eg.run, ev, evL, evB, evA, evI, evO, evF, startR, two_late, two_none, CE.late, CE.isNil, peek_0, peek_s, slot_0, slot_s, unown_0, unown_s, Fl.shared, st_n, st_h, st_w, store_s, nxO, lift_some, fin_val, fin_bor, fin_tst, Eg.tru_ok, truth_bl, truth_int, subOf, Eg.eq_int, eq_str, ne_str, ne_int, eq_bl, outsOf, Fl.own, small, sizeLine, isT, ↓loopC_P, ↓loopF_P, loopCP_nil, loopCP_cons, loopFP_nil, loopFP_cons, ↓bind_P, ↓stm_P, ↓then_P, bindP_ok, stmP_ok, thenP_nx, thenP_rt, calm_ok, oneOf_1, oneOf_2, storeL, storeF, put_one, put_many_, blt_int_b, blt_int_i, blt_len_l, blt_len_t, blt_min, bin_add, bin_sub, Eg.cmp_gt, cmp_ge, cmp_lt, cmp_le, ix_l0, ixt0, ixt1, ixt2, ixt3, ixt4, ixt5, ixt6, ixl1, ixl2, mayWipe, restore, zipD, itemsD, callA, callB, fl_f, fl_lst, fl_dk, fl_ins, fl_tp, argD, djA, back, lentOf, D.isNon, isMu, muTy, putI_w, putI_b, putI_s, pairD_2, in_str, nin_str, anyEq_nil, anyEq_str, bin_addT, fld_1, e1, hk]
  obtain ⟨ys, r', el, ⟨m2, x4, h4, hr, hm2⟩, hP, hn⟩ := loopC_ix (tg := oneOf [4]) (vs := [4]) (fc := fun r => if CE.nil.isNil then Out.ok true r else (ev (callN tab (n + 3)) CE.nil .tst r).bind fun x r => lift (isT x.2) r) (fe := fun r => (ev (callN tab (n + 3)) (.call 16 "_law_any_step" (.cons (.var 0) (.cons (.var 2) .nil))) .val r).bind fun x r => .ok x.2 r)
    (I := fun j r => ∃ m x4, okS x4 = true ∧ r = [some (.bo, m), some (.sh, .int 8), some (.sh, .int k), none, x4] ∧ Mt (B + 1 + 8 * j) m) (P := fun y => ∃ s : St, y = s.d ∧ s.ok k) ((List.range k).map fun j => Eg.D.int (j : Nat)) [] 0 [some (.bo, m1), some (.sh, .int 8), some (.sh, .int k), none, none] ⟨m1, none, rfl, rfl, Mt_le hm1 (by omega)⟩ (by simp [sizeLine]; omega) (fun x hx j r _ hj hr => by
      obtain ⟨i, _, rfl⟩ := List.mem_map.mp hx
      obtain ⟨m, x4, h4, rfl, hm⟩ := hr
      simp at hj
      obtain ⟨s, m', e, hs, hm'⟩ := any_step n (B := B + 1 + 8 * j) k hm (by omega) k1 k8
      refine ⟨[some (.bo, m), some (.sh, .int 8), some (.sh, .int k), none, some (.sh, .int i)], s.d, [some (.bo, m'), some (.sh, .int 8), some (.sh, .int k), none, some (.sh, .int i)], rfl, rfl, ?_, ⟨s, rfl, hs⟩, m', _, rfl, rfl, Mt_le hm' (by push_cast; omega)⟩
      simp -dsimp -implicitDefEqProofs [Eg.run, ev, evL, evB, evA, evI, evO, evF, startR, two_late, two_none, CE.late, CE.isNil, peek_0, peek_s, slot_0, slot_s, unown_0, unown_s, Fl.shared, st_n, st_h, st_w, store_s, nxO, lift_some, fin_val, fin_bor, fin_tst, Eg.tru_ok, truth_bl, truth_int, subOf, Eg.eq_int, eq_str, ne_str, ne_int, eq_bl, outsOf, Fl.own, small, sizeLine, isT, ↓loopC_P, ↓loopF_P, loopCP_nil, loopCP_cons, loopFP_nil, loopFP_cons, ↓bind_P, ↓stm_P, ↓then_P, bindP_ok, stmP_ok, thenP_nx, thenP_rt, calm_ok, oneOf_1, oneOf_2, storeL, storeF, put_one, put_many_, blt_int_b, blt_int_i, blt_len_l, blt_len_t, blt_min, bin_add, bin_sub, Eg.cmp_gt, cmp_ge, cmp_lt, cmp_le, ix_l0, ixt0, ixt1, ixt2, ixt3, ixt4, ixt5, ixt6, ixl1, ixl2, mayWipe, restore, zipD, itemsD, callA, callB, fl_f, fl_lst, fl_dk, fl_ins, fl_tp, argD, djA, back, lentOf, D.isNon, isMu, muTy, putI_w, putI_b, putI_s, pairD_2, in_str, nin_str, anyEq_nil, anyEq_str, bin_addT, fld_1, e])
  subst hr
  obtain ⟨ss, rfl, hss⟩ := all_st hP
  have hlen : ss.length = k := by simpa using hn
  have st1 : Eg.run (callN tab (n + 3)) (nthS bS 1) [some (.bo, m1), some (.sh, .int 8), some (.sh, .int k), none, none] = .nx [some (.bo, m2), some (.sh, .int 8), some (.sh, .int k), some (.ow, .lst (ss.map St.d)), none] := by
    have ec := ev_comp (cl := callN tab (n + 3)) (vs := [("_law_k", 4)]) (tg := [4]) (it := .rng1 (.var 2)) (cond := .nil) (elt := .call 16 "_law_any_step" (.cons (.var 0) (.cons (.var 2) .nil))) (evI_rng (k := k) (r := [some (.bo, m1), some (.sh, .int 8), some (.sh, .int k), none, none]) rfl (by omega)) (by rfl) el
    show (ev (callN tab (n + 3)) (.comp [("_law_k", 4)] [4] (.rng1 (.var 2)) .nil (.call 16 "_law_any_step" (.cons (.var 0) (.cons (.var 2) .nil)))) .val _).stm _ = _
    rw [ec]
    rfl
  have hm2' : Mt (B + 65) m2 := Mt_le hm2 (by simp; omega)
  obtain ⟨u, m3, e3, u0, u4, hm3⟩ := drawM (n + 2) (many := 4) hm2' (by omega) (by omega) (by omega)
  have oks : ∀ ss' : List St, ss'.length = k → (∀ s ∈ ss', s.ok k) → OkSs ss' := fun ss' hl hs i one hi => by
    rw [hl]
    exact hs one (List.mem_of_getElem? hi)
  have fin : ∀ (ss' : List St) (m' : Eg.D), Eg.run (callN tab (n + 3)) (nthS bS 2) [some (.bo, m2), some (.sh, .int 8), some (.sh, .int k), some (.ow, .lst (ss.map St.d)), none] = .nx [some (.bo, m'), some (.sh, .int 8), some (.sh, .int k), some (.ow, .lst (ss'.map St.d)), none] → callN tab (n + 4) 17 [(true, m), (false, .int 8)] = .ok false (ssD ss') [(true, m'), (false, .int 8)] := by
    intro ss' m' e
    show callFn (callN tab (n + 3)) f__law_any_steps [(true, m), (false, .int 8)] = _
    refine (callFn_rt (r := [some (.bo, m'), some (.sh, .int 8), some (.sh, .int k), some (.ow, .lst (ss'.map St.d)), none]) rfl ?_).trans rfl
    show (Eg.run (callN tab (n + 3)) (nthS bS 0) [some (.bo, m), some (.sh, .int 8), none, none, none]).then (fun r => (Eg.run (callN tab (n + 3)) (nthS bS 1) r).then fun r => (Eg.run (callN tab (n + 3)) (nthS bS 2) r).then fun r => (Eg.run (callN tab (n + 3)) (nthS bS 3) r).then fun r => .nx r) = _
    rw [st0, then_nx, st1, then_nx, e, then_nx]
    rfl
  by_cases hu : 0 < u
  · obtain ⟨x, m4, e4, hm4⟩ := end_of (n + 1) hm3 (by omega)
    refine ⟨ss.set (ss.length - 1) (.fin x), m4, fin _ m4 ?_, oks _ (by simp [hlen]) ?_, by simp; omega, by simp; omega, Mt_le hm4 (by omega)⟩
    · have pl := put_lastD (ss.map St.d) (by intro h; rw [List.map_eq_nil_iff] at h; rw [h] at hlen; simp at hlen; omega) (.tup [.str (Str.ofString "end"), .str (Str.ofString x.s)])
      rw [List.length_map, show (Eg.D.tup [.str (Str.ofString "end"), .str (Str.ofString x.s)]) = St.d (.fin x) from rfl, ← List.map_set] at pl
      simp only [nthS, bS, b__law_any_steps]
      simp -dsimp -implicitDefEqProofs [Eg.run, ev, evL, evB, evA, evI, evO, evF, startR, two_late, two_none, CE.late, CE.isNil, peek_0, peek_s, slot_0, slot_s, unown_0, unown_s, Fl.shared, st_n, st_h, st_w, store_s, nxO, lift_some, fin_val, fin_bor, fin_tst, Eg.tru_ok, truth_bl, truth_int, subOf, Eg.eq_int, eq_str, ne_str, ne_int, eq_bl, outsOf, Fl.own, small, sizeLine, isT, ↓loopC_P, ↓loopF_P, loopCP_nil, loopCP_cons, loopFP_nil, loopFP_cons, ↓bind_P, ↓stm_P, ↓then_P, bindP_ok, stmP_ok, thenP_nx, thenP_rt, calm_ok, oneOf_1, oneOf_2, storeL, storeF, put_one, put_many_, blt_int_b, blt_int_i, blt_len_l, blt_len_t, blt_min, bin_add, bin_sub, Eg.cmp_gt, cmp_ge, cmp_lt, cmp_le, ix_l0, ixt0, ixt1, ixt2, ixt3, ixt4, ixt5, ixt6, ixl1, ixl2, mayWipe, restore, zipD, itemsD, callA, callB, fl_f, fl_lst, fl_dk, fl_ins, fl_tp, argD, djA, back, lentOf, D.isNon, isMu, muTy, putI_w, putI_b, putI_s, pairD_2, in_str, nin_str, anyEq_nil, anyEq_str, bin_addT, fld_1, e3, hu, e4, ↓show (Eg.D.tup [.str (Str.ofString "end"), .str (Str.ofString x.s)]) = St.d (.fin x) from rfl, ↓pl]
    · intro s hs
      rcases List.mem_or_eq_of_mem_set hs with hs | rfl
      · exact hss s hs
      · trivial
  · refine ⟨ss, m3, fin _ m3 ?_, oks _ hlen hss, by omega, by omega, Mt_le hm3 (by omega)⟩
    simp only [nthS, bS, b__law_any_steps]
    simp -dsimp -implicitDefEqProofs [Eg.run, ev, evL, evB, evA, evI, evO, evF, startR, two_late, two_none, CE.late, CE.isNil, peek_0, peek_s, slot_0, slot_s, unown_0, unown_s, Fl.shared, st_n, st_h, st_w, store_s, nxO, lift_some, fin_val, fin_bor, fin_tst, Eg.tru_ok, truth_bl, truth_int, subOf, Eg.eq_int, eq_str, ne_str, ne_int, eq_bl, outsOf, Fl.own, small, sizeLine, isT, ↓loopC_P, ↓loopF_P, loopCP_nil, loopCP_cons, loopFP_nil, loopFP_cons, ↓bind_P, ↓stm_P, ↓then_P, bindP_ok, stmP_ok, thenP_nx, thenP_rt, calm_ok, oneOf_1, oneOf_2, storeL, storeF, put_one, put_many_, blt_int_b, blt_int_i, blt_len_l, blt_len_t, blt_min, bin_add, bin_sub, Eg.cmp_gt, cmp_ge, cmp_lt, cmp_le, ix_l0, ixt0, ixt1, ixt2, ixt3, ixt4, ixt5, ixt6, ixl1, ixl2, mayWipe, restore, zipD, itemsD, callA, callB, fl_f, fl_lst, fl_dk, fl_ins, fl_tp, argD, djA, back, lentOf, D.isNon, isMu, muTy, putI_w, putI_b, putI_s, pairD_2, in_str, nin_str, anyEq_nil, anyEq_str, bin_addT, fld_1, e3, hu]
end Law
namespace Law
open PySem Eg
theorem mem_enumD {x : Eg.D} : ∀ {xs : List Eg.D} {k : Nat}, x ∈ enumD k xs → ∃ (i : Nat) (y : Eg.D), y ∈ xs ∧ x = .tup [.int i, y]
  | [], _, h => nomatch h
  | y :: ys, k, h => by
    rcases List.mem_cons.mp h with rfl | h
    · exact ⟨k, y, by simp, rfl⟩
    · obtain ⟨i, z, hz, e⟩ := mem_enumD (xs := ys) h
      exact ⟨i, z, by simp [hz], e⟩
def rdC : List Eg.D := [.str (Str.ofString "look"), .str (Str.ofString "plain"), .str (Str.ofString "stamp"), .str (Str.ofString "tag")]
def ptC : List Eg.D := [.str (Str.ofString "none"), .str (Str.ofString "plain"), .str (Str.ofString "stamp"), .str (Str.ofString "tag"), .str (Str.ofString "there")]
def tkC : List Eg.D := [.str (Str.ofString "plain"), .str (Str.ofString "stamp"), .str (Str.ofString "tag"), .str (Str.ofString "there")]
theorem cx_r : idxD v_CONDITIONS (.str (Str.ofString "read")) = some (.tup rdC) := by rfl
theorem cx_p : idxD v_CONDITIONS (.str (Str.ofString "put")) = some (.tup ptC) := by rfl
theorem cx_t : idxD v_CONDITIONS (.str (Str.ofString "take")) = some (.tup tkC) := by rfl
theorem cn_r : cmpD .notIn (.str (Str.ofString "read")) v_CONDITIONS = some false := by rfl
theorem cn_p : cmpD .notIn (.str (Str.ofString "put")) v_CONDITIONS = some false := by rfl
theorem cn_t : cmpD .notIn (.str (Str.ofString "take")) v_CONDITIONS = some false := by rfl
def anR : Eg.D := .tup [.str (Str.ofString "got"), .str (Str.ofString "mine"), .str (Str.ofString "unchanged"), .str (Str.ofString "absent"), .str (Str.ofString "lost")]
def anP : Eg.D := .tup [.str (Str.ofString "yes"), .str (Str.ofString "no"), .str (Str.ofString "lost")]
def anT : Eg.D := .tup [.str (Str.ofString "yes"), .str (Str.ofString "no"), .str (Str.ofString "absent"), .str (Str.ofString "lost")]
theorem ax_r : idxD v_ANSWERS (.str (Str.ofString "read")) = some anR := by rfl
theorem ax_p : idxD v_ANSWERS (.str (Str.ofString "put")) = some anP := by rfl
theorem ax_t : idxD v_ANSWERS (.str (Str.ofString "take")) = some anT := by rfl
theorem al_r : bltD .len [anR] = some (false, .int 5) := by rfl
theorem al_p : bltD .len [anP] = some (false, .int 3) := by rfl
theorem al_t : bltD .len [anT] = some (false, .int 4) := by rfl
theorem one_r (n : Nat) (k : Cd) (h : Kd.may .read k = true) : callN tab (n + 1) 1 [(false, .str (Str.ofString k.s)), (false, .tup rdC)] = .ok false (.bl true) [(false, .str (Str.ofString k.s)), (false, .tup rdC)] := by
  cases k <;> first | (exfalso; revert h; simp [Kd.may]; done) | kernel_rfl
theorem one_p (n : Nat) (k : Cd) (h : Kd.may .put k = true) : callN tab (n + 1) 1 [(false, .str (Str.ofString k.s)), (false, .tup ptC)] = .ok false (.bl true) [(false, .str (Str.ofString k.s)), (false, .tup ptC)] := by
  cases k <;> first | (exfalso; revert h; simp [Kd.may]; done) | kernel_rfl
theorem one_t (n : Nat) (k : Cd) (h : Kd.may .take k = true) : callN tab (n + 1) 1 [(false, .str (Str.ofString k.s)), (false, .tup tkC)] = .ok false (.bl true) [(false, .str (Str.ofString k.s)), (false, .tup tkC)] := by
  cases k <;> first | (exfalso; revert h; simp [Kd.may]; done) | kernel_rfl
theorem one_e (n : Nat) (k : En) : callN tab (n + 1) 1 [(false, .str (Str.ofString k.s)), (false, v_ENDS)] = .ok false (.bl true) [(false, .str (Str.ofString k.s)), (false, v_ENDS)] := by
  cases k <;> kernel_rfl
theorem one_s (n : Nat) (g : Bool) : callN tab (n + 1) 1 [(false, .str (Str.ofString (sizeS g))), (false, .tup [.str (Str.ofString "small"), .str (Str.ofString "great")])] = .ok false (.bl true) [(false, .str (Str.ofString (sizeS g))), (false, .tup [.str (Str.ofString "small"), .str (Str.ofString "great")])] := by
  cases g <;> kernel_rfl
theorem is_step (n : Nat) (s : St) (m : Nat) (h : s.ok m) : callN tab (n + 2) 3 [(false, s.d), (false, .int m)] = .ok false (.bl true) [(false, s.d), (false, .int m)] := by
  show callFn (callN tab (n + 1)) f_is_step [_, _] = _
  have nm := fun (i : Nat) (hi : i < m) => is_number n i m (by omega) (by omega)
  have ty : tyO [.tuple] s.d = some true := by cases s <;> rfl
  unfold callFn f_is_step b_is_step
  cases s with
  | read k a b c d e =>
    obtain ⟨hk, h1, h2, h3, h4, h5⟩ := h
    have n1 := nm a h1
    have n2 := nm b h2
    have n3 := nm c h3
    have n4 := nm d h4
    have n5 := nm e h5
    have sl : slcD (St.read k a b c d e).d (some 2) none = some (false, .tup [.int a, .int b, .int c, .int d, .int e]) := by rfl
    have i0 : idxD (St.read k a b c d e).d (.int 0) = some (.str (Str.ofString "read")) := ixt0
    have i1 : idxD (St.read k a b c d e).d (.int 1) = some (.str (Str.ofString k.s)) := ixt1
    have ln : bltD .len [(St.read k a b c d e).d] = some (false, .int 7) := by rfl
    have al : bltD .all [.lst [.bl true, .bl true, .bl true, .bl true, .bl true]] = some (false, .bl true) := by rfl
    simp -dsimp -implicitDefEqProofs [Eg.run, ev, evL, evB, evA, evI, evO, evF, startR, two_late, two_none, CE.late, CE.isNil, peek_0, peek_s, slot_0, slot_s, unown_0, unown_s, Fl.shared, st_n, st_h, st_w, store_s, nxO, lift_some, fin_val, fin_bor, fin_tst, Eg.tru_ok, truth_bl, truth_int, subOf, Eg.eq_int, eq_str, ne_str, ne_int, eq_bl, outsOf, Fl.own, small, sizeLine, isT, ↓loopC_P, ↓loopF_P, loopCP_nil, loopCP_cons, loopFP_nil, loopFP_cons, ↓bind_P, ↓stm_P, ↓then_P, bindP_ok, stmP_ok, thenP_nx, thenP_rt, calm_ok, oneOf_1, oneOf_2, storeL, storeF, put_one, put_many_, blt_int_b, blt_int_i, blt_len_l, blt_len_t, blt_min, bin_add, bin_sub, Eg.cmp_gt, cmp_ge, cmp_lt, cmp_le, ix_l0, ixt0, ixt1, ixt2, ixt3, ixt4, ixt5, ixt6, ixl1, ixl2, mayWipe, restore, zipD, itemsD, callA, callB, fl_f, fl_lst, fl_dk, fl_ins, fl_tp, argD, djA, back, lentOf, D.isNon, isMu, muTy, putI_w, putI_b, putI_s, pairD_2, in_str, nin_str, anyEq_nil, anyEq_str, bin_addT, fld_1, ty, ln, i0, i1, ty_str, v_END, v_FORGET, cn_r, cx_r, one_r _ _ hk, sl, v_PUT, ax_r, al_r, n1, n2, n3, n4, n5, al]
  | put k g a b c =>
    obtain ⟨hk, h1, h2, h3⟩ := h
    have n1 := nm a h1
    have n2 := nm b h2
    have n3 := nm c h3
    have sl : slcD (St.put k g a b c).d (some 2) none = some (false, .tup [.str (Str.ofString (sizeS g)), .int a, .int b, .int c]) := by rfl
    have sl3 : slcD (St.put k g a b c).d (some 3) none = some (false, .tup [.int a, .int b, .int c]) := by rfl
    have i0 : idxD (St.put k g a b c).d (.int 0) = some (.str (Str.ofString "put")) := ixt0
    have i1 : idxD (St.put k g a b c).d (.int 1) = some (.str (Str.ofString k.s)) := ixt1
    have i2 : idxD (St.put k g a b c).d (.int 2) = some (.str (Str.ofString (sizeS g))) := ixt2
    have ln : bltD .len [(St.put k g a b c).d] = some (false, .int 6) := by rfl
    have al : bltD .all [.lst [.bl true, .bl true, .bl true]] = some (false, .bl true) := by rfl
    simp -dsimp -implicitDefEqProofs [Eg.run, ev, evL, evB, evA, evI, evO, evF, startR, two_late, two_none, CE.late, CE.isNil, peek_0, peek_s, slot_0, slot_s, unown_0, unown_s, Fl.shared, st_n, st_h, st_w, store_s, nxO, lift_some, fin_val, fin_bor, fin_tst, Eg.tru_ok, truth_bl, truth_int, subOf, Eg.eq_int, eq_str, ne_str, ne_int, eq_bl, outsOf, Fl.own, small, sizeLine, isT, ↓loopC_P, ↓loopF_P, loopCP_nil, loopCP_cons, loopFP_nil, loopFP_cons, ↓bind_P, ↓stm_P, ↓then_P, bindP_ok, stmP_ok, thenP_nx, thenP_rt, calm_ok, oneOf_1, oneOf_2, storeL, storeF, put_one, put_many_, blt_int_b, blt_int_i, blt_len_l, blt_len_t, blt_min, bin_add, bin_sub, Eg.cmp_gt, cmp_ge, cmp_lt, cmp_le, ix_l0, ixt0, ixt1, ixt2, ixt3, ixt4, ixt5, ixt6, ixl1, ixl2, mayWipe, restore, zipD, itemsD, callA, callB, fl_f, fl_lst, fl_dk, fl_ins, fl_tp, argD, djA, back, lentOf, D.isNon, isMu, muTy, putI_w, putI_b, putI_s, pairD_2, in_str, nin_str, anyEq_nil, anyEq_str, bin_addT, fld_1, ty, ln, i0, i1, i2, ty_str, v_END, v_FORGET, cn_p, cx_p, one_p _ _ hk, sl, sl3, v_PUT, v_SMALL, v_GREAT, one_s, ax_p, al_p, n1, n2, n3, al]
  | take k a b c d =>
    obtain ⟨hk, h1, h2, h3, h4⟩ := h
    have n1 := nm a h1
    have n2 := nm b h2
    have n3 := nm c h3
    have n4 := nm d h4
    have sl : slcD (St.take k a b c d).d (some 2) none = some (false, .tup [.int a, .int b, .int c, .int d]) := by rfl
    have i0 : idxD (St.take k a b c d).d (.int 0) = some (.str (Str.ofString "take")) := ixt0
    have i1 : idxD (St.take k a b c d).d (.int 1) = some (.str (Str.ofString k.s)) := ixt1
    have ln : bltD .len [(St.take k a b c d).d] = some (false, .int 6) := by rfl
    have al : bltD .all [.lst [.bl true, .bl true, .bl true, .bl true]] = some (false, .bl true) := by rfl
    simp -dsimp -implicitDefEqProofs [Eg.run, ev, evL, evB, evA, evI, evO, evF, startR, two_late, two_none, CE.late, CE.isNil, peek_0, peek_s, slot_0, slot_s, unown_0, unown_s, Fl.shared, st_n, st_h, st_w, store_s, nxO, lift_some, fin_val, fin_bor, fin_tst, Eg.tru_ok, truth_bl, truth_int, subOf, Eg.eq_int, eq_str, ne_str, ne_int, eq_bl, outsOf, Fl.own, small, sizeLine, isT, ↓loopC_P, ↓loopF_P, loopCP_nil, loopCP_cons, loopFP_nil, loopFP_cons, ↓bind_P, ↓stm_P, ↓then_P, bindP_ok, stmP_ok, thenP_nx, thenP_rt, calm_ok, oneOf_1, oneOf_2, storeL, storeF, put_one, put_many_, blt_int_b, blt_int_i, blt_len_l, blt_len_t, blt_min, bin_add, bin_sub, Eg.cmp_gt, cmp_ge, cmp_lt, cmp_le, ix_l0, ixt0, ixt1, ixt2, ixt3, ixt4, ixt5, ixt6, ixl1, ixl2, mayWipe, restore, zipD, itemsD, callA, callB, fl_f, fl_lst, fl_dk, fl_ins, fl_tp, argD, djA, back, lentOf, D.isNon, isMu, muTy, putI_w, putI_b, putI_s, pairD_2, in_str, nin_str, anyEq_nil, anyEq_str, bin_addT, fld_1, ty, ln, i0, i1, ty_str, v_END, v_FORGET, cn_t, cx_t, one_t _ _ hk, sl, v_PUT, ax_t, al_t, n1, n2, n3, n4, al]
  | forget a =>
    have n1 := nm a h
    have i0 : idxD (St.forget a).d (.int 0) = some (.str (Str.ofString "forget")) := ixt0
    have i1 : idxD (St.forget a).d (.int 1) = some (.int a) := ixt1
    have ln : bltD .len [(St.forget a).d] = some (false, .int 2) := by rfl
    simp -dsimp -implicitDefEqProofs [Eg.run, ev, evL, evB, evA, evI, evO, evF, startR, two_late, two_none, CE.late, CE.isNil, peek_0, peek_s, slot_0, slot_s, unown_0, unown_s, Fl.shared, st_n, st_h, st_w, store_s, nxO, lift_some, fin_val, fin_bor, fin_tst, Eg.tru_ok, truth_bl, truth_int, subOf, Eg.eq_int, eq_str, ne_str, ne_int, eq_bl, outsOf, Fl.own, small, sizeLine, isT, ↓loopC_P, ↓loopF_P, loopCP_nil, loopCP_cons, loopFP_nil, loopFP_cons, ↓bind_P, ↓stm_P, ↓then_P, bindP_ok, stmP_ok, thenP_nx, thenP_rt, calm_ok, oneOf_1, oneOf_2, storeL, storeF, put_one, put_many_, blt_int_b, blt_int_i, blt_len_l, blt_len_t, blt_min, bin_add, bin_sub, Eg.cmp_gt, cmp_ge, cmp_lt, cmp_le, ix_l0, ixt0, ixt1, ixt2, ixt3, ixt4, ixt5, ixt6, ixl1, ixl2, mayWipe, restore, zipD, itemsD, callA, callB, fl_f, fl_lst, fl_dk, fl_ins, fl_tp, argD, djA, back, lentOf, D.isNon, isMu, muTy, putI_w, putI_b, putI_s, pairD_2, in_str, nin_str, anyEq_nil, anyEq_str, bin_addT, fld_1, ty, ln, i0, i1, ty_str, v_END, v_FORGET, n1]
  | fin w =>
    have i0 : idxD (St.fin w).d (.int 0) = some (.str (Str.ofString "end")) := ixt0
    have i1 : idxD (St.fin w).d (.int 1) = some (.str (Str.ofString w.s)) := ixt1
    have ln : bltD .len [(St.fin w).d] = some (false, .int 2) := by rfl
    simp -dsimp -implicitDefEqProofs [Eg.run, ev, evL, evB, evA, evI, evO, evF, startR, two_late, two_none, CE.late, CE.isNil, peek_0, peek_s, slot_0, slot_s, unown_0, unown_s, Fl.shared, st_n, st_h, st_w, store_s, nxO, lift_some, fin_val, fin_bor, fin_tst, Eg.tru_ok, truth_bl, truth_int, subOf, Eg.eq_int, eq_str, ne_str, ne_int, eq_bl, outsOf, Fl.own, small, sizeLine, isT, ↓loopC_P, ↓loopF_P, loopCP_nil, loopCP_cons, loopFP_nil, loopFP_cons, ↓bind_P, ↓stm_P, ↓then_P, bindP_ok, stmP_ok, thenP_nx, thenP_rt, calm_ok, oneOf_1, oneOf_2, storeL, storeF, put_one, put_many_, blt_int_b, blt_int_i, blt_len_l, blt_len_t, blt_min, bin_add, bin_sub, Eg.cmp_gt, cmp_ge, cmp_lt, cmp_le, ix_l0, ixt0, ixt1, ixt2, ixt3, ixt4, ixt5, ixt6, ixl1, ixl2, mayWipe, restore, zipD, itemsD, callA, callB, fl_f, fl_lst, fl_dk, fl_ins, fl_tp, argD, djA, back, lentOf, D.isNon, isMu, muTy, putI_w, putI_b, putI_s, pairD_2, in_str, nin_str, anyEq_nil, anyEq_str, bin_addT, fld_1, ty, ln, i0, i1, ty_str, v_END, one_e]
theorem run_forsE_sh {cl : Cal} {tg : List Nat} {i : Nat} {b : CS} {r : Rho} {d : Eg.D} (h : slotOf r i = some (.sh, d)) : Eg.run cl (.forsE tg i b) r = Eg.run cl (.fors tg (.enum (.var i)) b) r := by
  show (match slotOf r i with
    | some (.bo, .lst ys) => loopB (oneOf tg) i (Eg.run cl b) ys.length 0 r
    | _ => (evI cl (.enum (.var i)) r).stm fun xs r => loopF (oneOf tg) (Eg.run cl b) xs r) = _
  rw [h]
  rfl
theorem run_forsE_bo {cl : Cal} {tg : List Nat} {i : Nat} {b : CS} {r : Rho} {ys : List Eg.D} (h : slotOf r i = some (.bo, .lst ys)) : Eg.run cl (.forsE tg i b) r = loopB (oneOf tg) i (Eg.run cl b) ys.length 0 r := by
  show (match slotOf r i with
    | some (.bo, .lst ys) => loopB (oneOf tg) i (Eg.run cl b) ys.length 0 r
    | _ => (evI cl (.enum (.var i)) r).stm fun xs r => loopF (oneOf tg) (Eg.run cl b) xs r) = _
  rw [h]
theorem loopB_all {tg : Tg} {i : Nat} {fb : Rho → SOut} {I : Rho → Prop} {ys : List Eg.D} (hs : ∀ r, I r → slotOf r i = some (.bo, .lst ys)) (k : ∀ (j : Nat) (y : Eg.D), ys[j]? = some y → ∀ r, I r → ∃ r1 r2, tg.put r (.tup [.int (j : Nat), y]) = some r1 ∧ fb r1 = .nx r2 ∧ I r2) :
    ∀ (m j : Nat) (r : Rho), j + m = ys.length → I r → ∃ r', loopB tg i fb m j r = .nx r' ∧ I r'
  | 0, j, r, hj, hI => by
    refine ⟨r, ?_, hI⟩
    show (match slotOf r i with
      | some (.bo, .lst ys) => if ys.length = j then SOut.nx r else .no
      | _ => .no) = _
    rw [hs r hI]
    simp only
    rw [if_pos (by omega)]
  | m + 1, j, r, hj, hI => by
    have hlt : j < ys.length := by omega
    obtain ⟨r1, r2, e1, e2, h2⟩ := k j ys[j] (List.getElem?_eq_getElem hlt) r hI
    obtain ⟨r', e3, h3⟩ := loopB_all hs k m (j + 1) r2 (by omega) h2
    refine ⟨r', ?_, h3⟩
    show (match slotOf r i with
      | some (.bo, .lst ys) => (match ys[j]? with
        | some y => (match tg.put r (.tup [.int (j : Nat), y]) with
          | some r1 => (fb r1).then fun r2 => loopB tg i fb m (j + 1) r2
          | none => .no)
        | none => .no)
      | _ => SOut.no) = _
    rw [hs r hI]
    simp only [List.getElem?_eq_getElem hlt, e1, e2]
    exact e3
abbrev bI : CS := b_Script___init__
theorem ss_len (ss : List St) : bltD .len [ssD ss] = some (false, .int ss.length) := by
  show some (false, Eg.D.int ((ss.map St.d).length : Nat)) = _
  rw [List.length_map]
/-- steps as a list -/
def slD (ss : List St) : Eg.D := .lst (ss.map St.d)
/-- what a script is made of: shared, or a list that is lent -/
structure Src (ss : List St) (f : Fl) (X : Eg.D) : Prop where
  ty : tyO [.list, .tuple] X = some true
  len : bltD .len [X] = some (false, .int ss.length)
  tup : bltD .tuple [X] = some (false, ssD ss)
  at_ : (f = .sh ∧ (X = ssD ss ∨ X = slD ss)) ∨ (f = .bo ∧ X = slD ss)
theorem src_t (ss : List St) : Src ss .sh (ssD ss) := ⟨rfl, ss_len ss, rfl, .inl ⟨rfl, .inl rfl⟩⟩
theorem src_l (ss : List St) : Src ss .sh (slD ss) := ⟨rfl, ss_len ss, rfl, .inl ⟨rfl, .inr rfl⟩⟩
theorem src_b (ss : List St) : Src ss .bo (slD ss) := ⟨rfl, ss_len ss, rfl, .inr ⟨rfl, rfl⟩⟩
theorem init (n : Nat) (ss : List St) {f : Fl} {X : Eg.D} (hX : Src ss f X) (hss : OkSs ss) (h0 : 0 < ss.length) (h8 : ss.length ≤ 8) :
    callN tab (n + 3) 20 [(true, .ins 41 []), (f.own, X)] = .ok false .non [(true, scD ss), (f.own, X)] := by
  have sr : startR f_Script___init__ [(true, .ins 41 []), (f.own, X)] = [some (.bo, .ins 41 []), some (f, X), none, none] := by
    rcases hX.at_ with ⟨rfl, _⟩ | ⟨rfl, _⟩ <;> rfl
  have st0 : Eg.run (callN tab (n + 2)) (nthS bI 0) [some (.bo, .ins 41 []), some (f, X), none, none] = .nx [some (.bo, .ins 41 []), some (f, X), none, none] := by
    simp only [nthS, bI, b_Script___init__]
    have g1 : (1 : Int) ≤ ss.length := by omega
    have g2 : (ss.length : Int) ≤ 8 := by omega
    simp -dsimp -implicitDefEqProofs [Eg.run, ev, evL, evB, evA, evI, evO, evF, startR, two_late, two_none, CE.late, CE.isNil, peek_0, peek_s, slot_0, slot_s, unown_0, unown_s, Fl.shared, st_n, st_h, st_w, store_s, nxO, lift_some, fin_val, fin_bor, fin_tst, Eg.tru_ok, truth_bl, truth_int, subOf, Eg.eq_int, eq_str, ne_str, ne_int, eq_bl, outsOf, Fl.own, small, sizeLine, isT, ↓loopC_P, ↓loopF_P, loopCP_nil, loopCP_cons, loopFP_nil, loopFP_cons, ↓bind_P, ↓stm_P, ↓then_P, bindP_ok, stmP_ok, thenP_nx, thenP_rt, calm_ok, oneOf_1, oneOf_2, storeL, storeF, put_one, put_many_, blt_int_b, blt_int_i, blt_len_l, blt_len_t, blt_min, bin_add, bin_sub, Eg.cmp_gt, cmp_ge, cmp_lt, cmp_le, ix_l0, ixt0, ixt1, ixt2, ixt3, ixt4, ixt5, ixt6, ixl1, ixl2, mayWipe, restore, zipD, itemsD, callA, callB, fl_f, fl_lst, fl_dk, fl_ins, fl_tp, argD, djA, back, lentOf, D.isNon, isMu, muTy, putI_w, putI_b, putI_s, pairD_2, in_str, nin_str, anyEq_nil, anyEq_str, bin_addT, fld_1, hX.ty, hX.len, v_MOST_STEPS, g1, g2]
  have body : ∀ (i : Nat) (s : St) (x2 x3 : Option (Fl × Eg.D)), s ∈ ss → okS x2 = true → okS x3 = true → (oneOf [2, 3]).put [some (.bo, .ins 41 []), some (f, X), x2, x3] (.tup [.int i, s.d]) = some [some (.bo, .ins 41 []), some (f, X), some (.sh, .int i), some (.sh, s.d)] ∧
      Eg.run (callN tab (n + 2)) (bodyS (nthS bI 1)) [some (.bo, .ins 41 []), some (f, X), some (.sh, .int i), some (.sh, s.d)] = .nx [some (.bo, .ins 41 []), some (f, X), some (.sh, .int i), some (.sh, s.d)] := by
    intro i s x2 x3 hs h2 h3
    obtain ⟨j, hj⟩ := List.getElem?_of_mem hs
    have is := is_step n s _ (hss j s hj)
    constructor
    · show Tg.put _ (.many [2, 3]) _ = _
      rw [put_many_]
      simp only [storeL, store_s, store_0 h2, store_0 h3, Option.map_some]
      rfl
    · simp only [nthS, bodyS, bI, b_Script___init__]
      simp -dsimp -implicitDefEqProofs [Eg.run, ev, evL, evB, evA, evI, evO, evF, startR, two_late, two_none, CE.late, CE.isNil, peek_0, peek_s, slot_0, slot_s, unown_0, unown_s, Fl.shared, st_n, st_h, st_w, store_s, nxO, lift_some, fin_val, fin_bor, fin_tst, Eg.tru_ok, truth_bl, truth_int, subOf, Eg.eq_int, eq_str, ne_str, ne_int, eq_bl, outsOf, Fl.own, small, sizeLine, isT, ↓loopC_P, ↓loopF_P, loopCP_nil, loopCP_cons, loopFP_nil, loopFP_cons, ↓bind_P, ↓stm_P, ↓then_P, bindP_ok, stmP_ok, thenP_nx, thenP_rt, calm_ok, oneOf_1, oneOf_2, storeL, storeF, put_one, put_many_, blt_int_b, blt_int_i, blt_len_l, blt_len_t, blt_min, bin_add, bin_sub, Eg.cmp_gt, cmp_ge, cmp_lt, cmp_le, ix_l0, ixt0, ixt1, ixt2, ixt3, ixt4, ixt5, ixt6, ixl1, ixl2, mayWipe, restore, zipD, itemsD, callA, callB, fl_f, fl_lst, fl_dk, fl_ins, fl_tp, argD, djA, back, lentOf, D.isNon, isMu, muTy, putI_w, putI_b, putI_s, pairD_2, in_str, nin_str, anyEq_nil, anyEq_str, bin_addT, fld_1, hX.len, is]
  have st1 : ∃ x2 x3, Eg.run (callN tab (n + 2)) (nthS bI 1) [some (.bo, .ins 41 []), some (f, X), none, none] = .nx [some (.bo, .ins 41 []), some (f, X), x2, x3] := by
    rcases hX.at_ with ⟨rfl, hx⟩ | ⟨rfl, hx⟩
    · have eI : evI (callN tab (n + 2)) (.enum (.var 1)) [some (.bo, .ins 41 []), some (.sh, X), none, none] = .ok (enumD 0 (ss.map St.d)) [some (.bo, .ins 41 []), some (.sh, X), none, none] := by
        rcases hx with rfl | rfl <;> rfl
      have e0 : Eg.run (callN tab (n + 2)) (nthS bI 1) [some (.bo, .ins 41 []), some (.sh, X), none, none] = Eg.run (callN tab (n + 2)) (.fors [2, 3] (.enum (.var 1)) (bodyS (nthS bI 1))) [some (.bo, .ins 41 []), some (.sh, X), none, none] := run_forsE_sh (tg := [2, 3]) (i := 1) (b := bodyS (nthS bI 1)) (d := X) rfl
      have e := run_fors (tg := [2, 3]) (b := bodyS (nthS bI 1)) eI
      obtain ⟨r', e2, x2, x3, _, _, hr⟩ := loopF_all (tg := oneOf [2, 3]) (fb := Eg.run (callN tab (n + 2)) (bodyS (nthS bI 1))) (I := fun r => ∃ x2 x3, okS x2 = true ∧ okS x3 = true ∧ r = [some (.bo, .ins 41 []), some (.sh, X), x2, x3]) (enumD 0 (ss.map St.d)) _ ⟨none, none, rfl, rfl, rfl⟩ (fun x hx r hr => by
        obtain ⟨i, y, hy, rfl⟩ := mem_enumD hx
        obtain ⟨s, hs, rfl⟩ := List.mem_map.mp hy
        obtain ⟨x2, x3, h2, h3, rfl⟩ := hr
        obtain ⟨b1, b2⟩ := body i s x2 x3 hs h2 h3
        exact ⟨_, _, b1, b2, _, _, rfl, rfl, rfl⟩)
      subst hr
      exact ⟨x2, x3, by rw [e0, e, e2]⟩
    · subst hx
      have e0 : Eg.run (callN tab (n + 2)) (nthS bI 1) [some (.bo, .ins 41 []), some (.bo, slD ss), none, none] = loopB (oneOf [2, 3]) 1 (Eg.run (callN tab (n + 2)) (bodyS (nthS bI 1))) (ss.map St.d).length 0 [some (.bo, .ins 41 []), some (.bo, slD ss), none, none] := run_forsE_bo (tg := [2, 3]) (i := 1) (b := bodyS (nthS bI 1)) (ys := ss.map St.d) rfl
      obtain ⟨r', e2, x2, x3, _, _, hr⟩ := loopB_all (tg := oneOf [2, 3]) (i := 1) (fb := Eg.run (callN tab (n + 2)) (bodyS (nthS bI 1))) (ys := ss.map St.d) (I := fun r => ∃ x2 x3, okS x2 = true ∧ okS x3 = true ∧ r = [some (.bo, .ins 41 []), some (.bo, slD ss), x2, x3]) (fun r hr => by
        obtain ⟨x2, x3, _, _, rfl⟩ := hr
        rfl) (fun j y hy r hr => by
        obtain ⟨s, hs, rfl⟩ := List.mem_map.mp (List.mem_of_getElem? hy)
        obtain ⟨x2, x3, h2, h3, rfl⟩ := hr
        obtain ⟨b1, b2⟩ := body j s x2 x3 hs h2 h3
        exact ⟨_, _, b1, b2, _, _, rfl, rfl, rfl⟩) (ss.map St.d).length 0 [some (.bo, .ins 41 []), some (.bo, slD ss), none, none] (by omega) ⟨none, none, rfl, rfl, rfl⟩
      subst hr
      exact ⟨x2, x3, by rw [e0, e2]⟩
  obtain ⟨x2, x3, st1⟩ := st1
  have st2 : Eg.run (callN tab (n + 2)) (nthS bI 2) [some (.bo, .ins 41 []), some (f, X), x2, x3] = .nx [some (.bo, scD ss), some (f, X), x2, x3] := by
    simp only [nthS, bI, b_Script___init__]
    rcases hX.at_ with ⟨rfl, rfl | rfl⟩ | ⟨rfl, rfl⟩ <;> rfl
  show callFn (callN tab (n + 2)) f_Script___init__ [_, _] = _
  unfold callFn
  have e : Eg.run (callN tab (n + 2)) f_Script___init__.body (startR f_Script___init__ [(true, .ins 41 []), (f.own, X)]) = .nx [some (.bo, scD ss), some (f, X), x2, x3] := by
    rw [sr]
    show (Eg.run (callN tab (n + 2)) (nthS bI 0) [some (.bo, .ins 41 []), some (f, X), none, none]).then (fun r => (Eg.run (callN tab (n + 2)) (nthS bI 1) r).then fun r => (Eg.run (callN tab (n + 2)) (nthS bI 2) r).then fun r => .nx r) = _
    rw [st0, then_nx, st1, then_nx, st2]
    rfl
  rw [e]
  rfl
theorem script (n : Nat) (ss : List St) {f : Fl} {X : Eg.D} (hX : Src ss f X) (hss : OkSs ss) (h0 : 0 < ss.length) (h8 : ss.length ≤ 8) :
    callN tab (n + 4) 27 [(f.own, X)] = .ok true (scD ss) [(f.own, X)] := by
  show made (callN tab (n + 3) 20 [(true, .ins 41 []), (f.own, X)]) = _
  rw [init n ss hX hss h0 h8]
  rfl
end Law
namespace Law
open PySem Eg
def ShE (d : Eg.D) (a b : Nat) : Prop := ∃ p, Sh d p a b
def ShLE (ds : List Eg.D) (a b : Nat) : Prop := ∃ ps, ShL ds ps a b
theorem she_nil : ShLE [] 0 0 := ⟨_, shL_nil⟩
theorem she_cons {d : Eg.D} {ds : List Eg.D} {a b c e : Nat} (h : ShE d a b) (hs : ShLE ds c e) : ShLE (d :: ds) (max a c) (b + 1 + e) := by
  obtain ⟨p, h⟩ := h
  obtain ⟨ps, hs⟩ := hs
  exact ⟨_, shL_cons h hs⟩
theorem she_tup {ds : List Eg.D} {a b : Nat} (h : ShLE ds a b) : ShE (.tup ds) (a + 1) b := by
  obtain ⟨ps, h⟩ := h
  exact ⟨_, sh_tup h⟩
theorem she_le {d : Eg.D} {a b c e : Nat} (h : ShE d a b) (h1 : a ≤ c) (h2 : b ≤ e) : ShE d c e := by
  obtain ⟨p, h⟩ := h
  exact ⟨p, h.py, h.sa, h.cl, Nat.le_trans h.dd h1, Nat.le_trans h.ww h2, h.ii, h.so⟩
theorem shle_le {d : List Eg.D} {a b c e : Nat} (h : ShLE d a b) (h1 : a ≤ c) (h2 : b ≤ e) : ShLE d c e := by
  obtain ⟨p, h⟩ := h
  exact ⟨p, h.py, h.sa, h.cl, Nat.le_trans h.dd h1, Nat.le_trans h.ww h2, h.ii, h.so⟩
theorem rep_tup {ds : List Eg.D} {a b : Nat} (h : ShLE ds a b) (ha : a ≤ 59) (hb : b ≤ 1048576) : ∃ x : Str, bltD .repr [.tup ds] = some (false, .str x) ∧ cmpD .ne (.str x) (.str x) = some false ∧ cmpD .eq (.str x) (.str x) = some true := by
  obtain ⟨ps, h⟩ := h
  exact ⟨_, repr_ok (sh_tup h) (by omega) hb rfl⟩
theorem rep_lst {ds : List Eg.D} {a b : Nat} (h : ShLE ds a b) (ha : a ≤ 59) (hb : b ≤ 1048576) : ∃ x : Str, bltD .repr [.lst ds] = some (false, .str x) ∧ cmpD .ne (.str x) (.str x) = some false ∧ cmpD .eq (.str x) (.str x) = some true := by
  obtain ⟨ps, h⟩ := h
  exact ⟨_, repr_ok (sh_lst h) (by omega) hb rfl⟩
theorem she_int (i : Int) (h0 : 0 ≤ i) (h1 : i ≤ 99999) : ShE (.int i) 0 20 := ⟨_, sh_int i (by omega) (by omega)⟩
theorem she_cd (k : Cd) : ShE (.str (Str.ofString k.s)) 0 20 := by
  cases k <;> exact ⟨_, sh_str_ _ _ (by decide +kernel) (by decide +kernel) (by decide +kernel)⟩
theorem she_en (k : En) : ShE (.str (Str.ofString k.s)) 0 20 := by
  cases k <;> exact ⟨_, sh_str_ _ _ (by decide +kernel) (by decide +kernel) (by decide +kernel)⟩
theorem she_sz (g : Bool) : ShE (.str (Str.ofString (sizeS g))) 0 20 := by
  cases g <;> exact ⟨_, sh_str_ _ _ (by decide +kernel) (by decide +kernel) (by decide +kernel)⟩
theorem she_rd : ShE (.str (Str.ofString "read")) 0 20 := ⟨_, sh_str_ _ _ (by decide +kernel) (by decide +kernel) (by decide +kernel)⟩
theorem she_pt : ShE (.str (Str.ofString "put")) 0 20 := ⟨_, sh_str_ _ _ (by decide +kernel) (by decide +kernel) (by decide +kernel)⟩
theorem she_tk : ShE (.str (Str.ofString "take")) 0 20 := ⟨_, sh_str_ _ _ (by decide +kernel) (by decide +kernel) (by decide +kernel)⟩
theorem she_fg : ShE (.str (Str.ofString "forget")) 0 20 := ⟨_, sh_str_ _ _ (by decide +kernel) (by decide +kernel) (by decide +kernel)⟩
theorem she_nd : ShE (.str (Str.ofString "end")) 0 20 := ⟨_, sh_str_ _ _ (by decide +kernel) (by decide +kernel) (by decide +kernel)⟩
theorem she_n (a m : Nat) (h : a < m) (hm : m ≤ 8) : ShE (.int a) 0 20 := she_int _ (by omega) (by omega)
theorem she_step (s : St) (m : Nat) (h : s.ok m) (hm : m ≤ 8) : ShE s.d 1 200 := by
  cases s with
  | read k a b c d e =>
    obtain ⟨_, h1, h2, h3, h4, h5⟩ := h
    exact she_le (she_tup (she_cons she_rd (she_cons (she_cd k) (she_cons (she_n a m h1 hm) (she_cons (she_n b m h2 hm) (she_cons (she_n c m h3 hm) (she_cons (she_n d m h4 hm) (she_cons (she_n e m h5 hm) she_nil)))))))) (by omega) (by omega)
  | put k g a b c =>
    obtain ⟨_, h1, h2, h3⟩ := h
    exact she_le (she_tup (she_cons she_pt (she_cons (she_cd k) (she_cons (she_sz g) (she_cons (she_n a m h1 hm) (she_cons (she_n b m h2 hm) (she_cons (she_n c m h3 hm) she_nil))))))) (by omega) (by omega)
  | take k a b c d =>
    obtain ⟨_, h1, h2, h3, h4⟩ := h
    exact she_le (she_tup (she_cons she_tk (she_cons (she_cd k) (she_cons (she_n a m h1 hm) (she_cons (she_n b m h2 hm) (she_cons (she_n c m h3 hm) (she_cons (she_n d m h4 hm) she_nil))))))) (by omega) (by omega)
  | forget a => exact she_le (she_tup (she_cons she_fg (she_cons (she_n a m h hm) she_nil))) (by omega) (by omega)
  | fin w => exact she_le (she_tup (she_cons she_nd (she_cons (she_en w) she_nil))) (by omega) (by omega)
theorem she_steps {m : Nat} (hm : m ≤ 8) : ∀ ss : List St, (∀ s ∈ ss, s.ok m) → ShLE (ss.map St.d) 1 (201 * ss.length)
  | [], _ => shle_le she_nil (by omega) (by omega)
  | s :: ss, h => shle_le (she_cons (she_step s m (h s (by simp)) hm) (she_steps hm ss fun t ht => h t (by simp [ht]))) (by omega) (by simp; omega)
/-- a row of steps -/
structure Row (ss : List St) : Prop where
  ok : OkSs ss
  l0 : 0 < ss.length
  l8 : ss.length ≤ 8
theorem Row.all {ss : List St} (h : Row ss) : ∀ s ∈ ss, s.ok ss.length := fun s hs => by
  obtain ⟨i, hi⟩ := List.getElem?_of_mem hs
  exact h.ok i s hi
theorem Row.of {ss : List St} (h : ∀ s ∈ ss, s.ok ss.length) (h0 : 0 < ss.length) (h8 : ss.length ≤ 8) : Row ss := ⟨fun i s hi => h s (List.mem_of_getElem? hi), h0, h8⟩
theorem Row.sh {ss : List St} (h : Row ss) : ShLE (ss.map St.d) 1 1608 := by
  have := h.l8
  exact shle_le (she_steps h.l8 ss h.all) (by omega) (by omega)
theorem shaped_of {d : Eg.D} {p : PyData} {a b : Nat} (h : Sh d p a b) (ha : a ≤ 60) : SeqAt.shaped p = true := by
  unfold SeqAt.shaped
  simp only [h.cl, Bool.true_and, decide_eq_true_eq]
  have := h.dd
  omega
theorem eqq_of {d e : Eg.D} {p q : PyData} {a b a' b' : Nat} (h : Sh d p a b) (h' : Sh e q a' b') (ha : a ≤ 60) (ha' : a' ≤ 60) : D.eqq d e = some (PyData.eqv p q) := by
  unfold D.eqq
  rw [h.py, h'.py]
  simp only [shaped_of h ha, shaped_of h' ha', Bool.and_self, if_true]
theorem eq_ss {a b : List St} (ha : Row a) (hb : Row b) : ∃ t : Bool, cmpD .eq (ssD a) (ssD b) = some t ∧ cmpD .eq (ssD b) (ssD a) = some t ∧ cmpD .ne (ssD a) (ssD b) = some (!t) ∧ cmpD .ne (ssD b) (ssD a) = some (!t) := by
  obtain ⟨p, hp⟩ := ha.sh
  obtain ⟨q, hq⟩ := hb.sh
  have e1 := eqq_of (sh_tup hp) (sh_tup hq) (by omega) (by omega)
  have e2 := eqq_of (sh_tup hq) (sh_tup hp) (by omega) (by omega)
  rw [PySem.W.eqv_comm] at e2
  have n1 : (D.eqq (ssD a) (ssD b)).map (!·) = some (!(PyData.eqv (.tuple p) (.tuple q))) := by
    show (D.eqq (.tup (a.map St.d)) (.tup (b.map St.d))).map (!·) = _
    rw [e1]
    rfl
  have n2 : (D.eqq (ssD b) (ssD a)).map (!·) = some (!(PyData.eqv (.tuple p) (.tuple q))) := by
    show (D.eqq (.tup (b.map St.d)) (.tup (a.map St.d))).map (!·) = _
    rw [e2]
    rfl
  exact ⟨_, e1, e2, n1, n2⟩
theorem eq_self {a : List St} (ha : Row a) : cmpD .eq (ssD a) (ssD a) = some true ∧ cmpD .ne (slD a) (slD a) = some false := by
  obtain ⟨p, hp⟩ := ha.sh
  have h1 := sh_tup hp
  have h2 := sh_lst hp
  have e1 := eqq_of h1 h1 (by omega) (by omega)
  have e2 := eqq_of h2 h2 (by omega) (by omega)
  rw [SeqAt.eqv_refl _ h1.cl] at e1
  rw [SeqAt.eqv_refl _ h2.cl] at e2
  refine ⟨e1, ?_⟩
  show (D.eqq (.lst (a.map St.d)) (.lst (a.map St.d))).map (!·) = _
  rw [e2]
  rfl
/-! ### methods -/
theorem mo_len (ss : List St) : methOf [(41, 21)] "__len__" (scD ss) = some 21 := by rfl
theorem mo_itm (ss : List St) : methOf [(41, 23)] "__getitem__" (scD ss) = some 23 := by rfl
theorem mo_eq (ss : List St) : methOf [(41, 22)] "__eq__" (scD ss) = some 22 := by rfl
theorem mo_wr (ss : List St) : methOf [(41, 25)] (Str.ofString "writes") (scD ss) = some 25 := by rfl
theorem mo_wc (ss : List St) : methOf [(41, 26)] (Str.ofString "with_condition") (scD ss) = some 26 := by rfl
theorem sc_fld2 (ss : List St) : fldD [41] (Str.ofString "steps") (scD ss) = some (ssD ss) := sc_fld ss
theorem m_len (n : Nat) (b : Bool) (ss : List St) : callN tab (n + 1) 21 [(b, scD ss)] = .ok false (.int ss.length) [(b, scD ss)] := by
  show callFn (callN tab n) f_Script___len__ [_] = _
  unfold callFn f_Script___len__ b_Script___len__
  cases b <;> simp -dsimp -implicitDefEqProofs [Eg.run, ev, evL, evB, evA, evI, evO, evF, startR, two_late, two_none, CE.late, CE.isNil, peek_0, peek_s, slot_0, slot_s, unown_0, unown_s, Fl.shared, st_n, st_h, st_w, store_s, nxO, lift_some, fin_val, fin_bor, fin_tst, Eg.tru_ok, truth_bl, truth_int, subOf, Eg.eq_int, eq_str, ne_str, ne_int, eq_bl, outsOf, Fl.own, small, sizeLine, isT, ↓loopC_P, ↓loopF_P, loopCP_nil, loopCP_cons, loopFP_nil, loopFP_cons, ↓bind_P, ↓stm_P, ↓then_P, bindP_ok, stmP_ok, thenP_nx, thenP_rt, calm_ok, oneOf_1, oneOf_2, storeL, storeF, put_one, put_many_, blt_int_b, blt_int_i, blt_len_l, blt_len_t, blt_min, bin_add, bin_sub, Eg.cmp_gt, cmp_ge, cmp_lt, cmp_le, ix_l0, ixt0, ixt1, ixt2, ixt3, ixt4, ixt5, ixt6, ixl1, ixl2, mayWipe, restore, zipD, itemsD, callA, callB, fl_f, fl_lst, fl_dk, fl_ins, fl_tp, argD, djA, back, lentOf, D.isNon, isMu, muTy, putI_w, putI_b, putI_s, pairD_2, in_str, nin_str, anyEq_nil, anyEq_str, bin_addT, fld_1, sc_fld2, ss_len]
theorem m_item (n : Nat) (b : Bool) (ss : List St) (i : Nat) (s : St) (h : ss[i]? = some s) : callN tab (n + 2) 23 [(b, scD ss), (false, .int i)] = .ok false s.d [(b, scD ss), (false, .int i)] := by
  have hi : i < ss.length := (List.getElem?_eq_some_iff.mp h).1
  have nm := is_number n i ss.length (by omega) (by omega)
  have ix := ss_ix h
  show callFn (callN tab (n + 1)) f_Script___getitem__ [_, _] = _
  unfold callFn f_Script___getitem__ b_Script___getitem__
  cases b <;> simp -dsimp -implicitDefEqProofs [Eg.run, ev, evL, evB, evA, evI, evO, evF, startR, two_late, two_none, CE.late, CE.isNil, peek_0, peek_s, slot_0, slot_s, unown_0, unown_s, Fl.shared, st_n, st_h, st_w, store_s, nxO, lift_some, fin_val, fin_bor, fin_tst, Eg.tru_ok, truth_bl, truth_int, subOf, Eg.eq_int, eq_str, ne_str, ne_int, eq_bl, outsOf, Fl.own, small, sizeLine, isT, ↓loopC_P, ↓loopF_P, loopCP_nil, loopCP_cons, loopFP_nil, loopFP_cons, ↓bind_P, ↓stm_P, ↓then_P, bindP_ok, stmP_ok, thenP_nx, thenP_rt, calm_ok, oneOf_1, oneOf_2, storeL, storeF, put_one, put_many_, blt_int_b, blt_int_i, blt_len_l, blt_len_t, blt_min, bin_add, bin_sub, Eg.cmp_gt, cmp_ge, cmp_lt, cmp_le, ix_l0, ixt0, ixt1, ixt2, ixt3, ixt4, ixt5, ixt6, ixl1, ixl2, mayWipe, restore, zipD, itemsD, callA, callB, fl_f, fl_lst, fl_dk, fl_ins, fl_tp, argD, djA, back, lentOf, D.isNon, isMu, muTy, putI_w, putI_b, putI_s, pairD_2, in_str, nin_str, anyEq_nil, anyEq_str, bin_addT, fld_1, sc_fld2, ss_len, nm, ix]
theorem isk_sc (ss : List St) : isK [41] 41 (scD ss) = some true := rfl
theorem m_eq (n : Nat) (b c : Bool) (ss tt : List St) (t : Bool) (h : cmpD .eq (ssD ss) (ssD tt) = some t) : callN tab (n + 1) 22 [(b, scD ss), (c, scD tt)] = .ok false (.bl t) [(b, scD ss), (c, scD tt)] := by
  show callFn (callN tab n) f_Script___eq__ [_, _] = _
  unfold callFn f_Script___eq__ b_Script___eq__
  cases b <;> cases c <;> simp -dsimp -implicitDefEqProofs [Eg.run, ev, evL, evB, evA, evI, evO, evF, startR, two_late, two_none, CE.late, CE.isNil, peek_0, peek_s, slot_0, slot_s, unown_0, unown_s, Fl.shared, st_n, st_h, st_w, store_s, nxO, lift_some, fin_val, fin_bor, fin_tst, Eg.tru_ok, truth_bl, truth_int, subOf, Eg.eq_int, eq_str, ne_str, ne_int, eq_bl, outsOf, Fl.own, small, sizeLine, isT, ↓loopC_P, ↓loopF_P, loopCP_nil, loopCP_cons, loopFP_nil, loopFP_cons, ↓bind_P, ↓stm_P, ↓then_P, bindP_ok, stmP_ok, thenP_nx, thenP_rt, calm_ok, oneOf_1, oneOf_2, storeL, storeF, put_one, put_many_, blt_int_b, blt_int_i, blt_len_l, blt_len_t, blt_min, bin_add, bin_sub, Eg.cmp_gt, cmp_ge, cmp_lt, cmp_le, ix_l0, ixt0, ixt1, ixt2, ixt3, ixt4, ixt5, ixt6, ixl1, ixl2, mayWipe, restore, zipD, itemsD, callA, callB, fl_f, fl_lst, fl_dk, fl_ins, fl_tp, argD, djA, back, lentOf, D.isNon, isMu, muTy, putI_w, putI_b, putI_s, pairD_2, in_str, nin_str, anyEq_nil, anyEq_str, bin_addT, fld_1, sc_fld2, isk_sc, h]
theorem m_eqo (n : Nat) (b : Bool) (ss : List St) (d : Eg.D) (h : isK [41] 41 d = some false) : callN tab (n + 1) 22 [(b, scD ss), (false, d)] = .ok false (.bl false) [(b, scD ss), (false, d)] := by
  show callFn (callN tab n) f_Script___eq__ [_, _] = _
  unfold callFn f_Script___eq__ b_Script___eq__
  cases b <;> simp -dsimp -implicitDefEqProofs [Eg.run, ev, evL, evB, evA, evI, evO, evF, startR, two_late, two_none, CE.late, CE.isNil, peek_0, peek_s, slot_0, slot_s, unown_0, unown_s, Fl.shared, st_n, st_h, st_w, store_s, nxO, lift_some, fin_val, fin_bor, fin_tst, Eg.tru_ok, truth_bl, truth_int, subOf, Eg.eq_int, eq_str, ne_str, ne_int, eq_bl, outsOf, Fl.own, small, sizeLine, isT, ↓loopC_P, ↓loopF_P, loopCP_nil, loopCP_cons, loopFP_nil, loopFP_cons, ↓bind_P, ↓stm_P, ↓then_P, bindP_ok, stmP_ok, thenP_nx, thenP_rt, calm_ok, oneOf_1, oneOf_2, storeL, storeF, put_one, put_many_, blt_int_b, blt_int_i, blt_len_l, blt_len_t, blt_min, bin_add, bin_sub, Eg.cmp_gt, cmp_ge, cmp_lt, cmp_le, ix_l0, ixt0, ixt1, ixt2, ixt3, ixt4, ixt5, ixt6, ixl1, ixl2, mayWipe, restore, zipD, itemsD, callA, callB, fl_f, fl_lst, fl_dk, fl_ins, fl_tp, argD, djA, back, lentOf, D.isNon, isMu, muTy, putI_w, putI_b, putI_s, pairD_2, in_str, nin_str, anyEq_nil, anyEq_str, bin_addT, fld_1, h]
end Law
namespace Law
open PySem Eg
abbrev Os (x : String) : Str := Str.ofString x
def numS (a : Nat) : Str := Str.ofString (toString (a : Int))
/-- a word: short, no blank, no feed, plain -/
structure GW (w : Str) : Prop where
  l : w.length ≤ 10
  b : 32 ∉ TL.tl w
  f : 10 ∉ TL.tl w
  k : PyData.strOk w = true
def gwB (w : Str) : Bool := decide (w.length ≤ 10) && (decide (32 ∉ TL.tl w) && (decide (10 ∉ TL.tl w) && PyData.strOk w))
theorem gw_of {w : Str} (h : gwB w = true) : GW w := by
  unfold gwB at h
  simp only [Bool.and_eq_true, decide_eq_true_eq] at h
  exact ⟨h.1, h.2.1, h.2.2.1, h.2.2.2⟩
theorem gw_cd (k : Cd) : GW (Os k.s) := by cases k <;> exact gw_of (by kernel_rfl)
theorem gw_en (k : En) : GW (Os k.s) := by cases k <;> exact gw_of (by kernel_rfl)
theorem gw_sz (g : Bool) : GW (Os (sizeS g)) := by cases g <;> exact gw_of (by kernel_rfl)
theorem lt8 {a m : Nat} (h : a < m) (hm : m ≤ 8) : a = 0 ∨ a = 1 ∨ a = 2 ∨ a = 3 ∨ a = 4 ∨ a = 5 ∨ a = 6 ∨ a = 7 := by omega
theorem gw_num {a m : Nat} (h : a < m) (hm : m ≤ 8) : GW (numS a) := by
  rcases lt8 h hm with rfl | rfl | rfl | rfl | rfl | rfl | rfl | rfl <;> exact gw_of (by kernel_rfl)
theorem int_numS {a m : Nat} (h : a < m) (hm : m ≤ 8) : bltD .int [.str (numS a)] = some (false, .int a) := by
  rcases lt8 h hm with rfl | rfl | rfl | rfl | rfl | rfl | rfl | rfl <;> kernel_rfl
theorem str_num {a m : Nat} (h : a < m) (hm : m ≤ 8) : bltD .str [.int a] = some (false, .str (numS a)) := by
  rcases lt8 h hm with rfl | rfl | rfl | rfl | rfl | rfl | rfl | rfl <;> kernel_rfl
theorem fig_num {a m : Nat} (h : a < m) (hm : m ≤ 8) : cmpD .notIn (.str (numS a)) v_FIGURES = some false := by
  rcases lt8 h hm with rfl | rfl | rfl | rfl | rfl | rfl | rfl | rfl <;> kernel_rfl
theorem str_str (x : Str) : bltD .str [.str x] = some (false, .str x) := rfl
/-- the words of a step's line -/
def wds : St → List Str
  | .read k a b c d e => [Os "read", Os k.s, Os "got", numS a, Os "mine", numS b, Os "unchanged", numS c, Os "absent", numS d, Os "lost", numS e]
  | .put k g a b c => [Os "put", Os k.s, Os (sizeS g), Os "yes", numS a, Os "no", numS b, Os "lost", numS c]
  | .take k a b c d => [Os "take", Os k.s, Os "yes", numS a, Os "no", numS b, Os "absent", numS c, Os "lost", numS d]
  | .forget a => [Os "forget", numS a]
  | .fin w => [Os "end", Os w.s]
theorem gw_read : GW (Os "read") := gw_of (by kernel_rfl)
theorem gw_put : GW (Os "put") := gw_of (by kernel_rfl)
theorem gw_take : GW (Os "take") := gw_of (by kernel_rfl)
theorem gw_forget : GW (Os "forget") := gw_of (by kernel_rfl)
theorem gw_end : GW (Os "end") := gw_of (by kernel_rfl)
theorem gw_got : GW (Os "got") := gw_of (by kernel_rfl)
theorem gw_mine : GW (Os "mine") := gw_of (by kernel_rfl)
theorem gw_unch : GW (Os "unchanged") := gw_of (by kernel_rfl)
theorem gw_abs : GW (Os "absent") := gw_of (by kernel_rfl)
theorem gw_lost : GW (Os "lost") := gw_of (by kernel_rfl)
theorem gw_yes : GW (Os "yes") := gw_of (by kernel_rfl)
theorem gw_no : GW (Os "no") := gw_of (by kernel_rfl)
theorem wds_gw {s : St} {m : Nat} (h : s.ok m) (hm : m ≤ 8) : ∀ w ∈ wds s, GW w := by
  cases s with
  | read k a b c d e =>
    obtain ⟨_, h1, h2, h3, h4, h5⟩ := h
    simp only [wds, List.forall_mem_cons, List.not_mem_nil, false_implies, implies_true, and_true]
    exact ⟨gw_read, gw_cd k, gw_got, gw_num h1 hm, gw_mine, gw_num h2 hm, gw_unch, gw_num h3 hm, gw_abs, gw_num h4 hm, gw_lost, gw_num h5 hm⟩
  | put k g a b c =>
    obtain ⟨_, h1, h2, h3⟩ := h
    simp only [wds, List.forall_mem_cons, List.not_mem_nil, false_implies, implies_true, and_true]
    exact ⟨gw_put, gw_cd k, gw_sz g, gw_yes, gw_num h1 hm, gw_no, gw_num h2 hm, gw_lost, gw_num h3 hm⟩
  | take k a b c d =>
    obtain ⟨_, h1, h2, h3, h4⟩ := h
    simp only [wds, List.forall_mem_cons, List.not_mem_nil, false_implies, implies_true, and_true]
    exact ⟨gw_take, gw_cd k, gw_yes, gw_num h1 hm, gw_no, gw_num h2 hm, gw_abs, gw_num h3 hm, gw_lost, gw_num h4 hm⟩
  | forget a =>
    simp only [wds, List.forall_mem_cons, List.not_mem_nil, false_implies, implies_true, and_true]
    exact ⟨gw_forget, gw_num h hm⟩
  | fin w =>
    simp only [wds, List.forall_mem_cons, List.not_mem_nil, false_implies, implies_true, and_true]
    exact ⟨gw_end, gw_en w⟩
theorem wds_len (s : St) : 0 < (wds s).length ∧ (wds s).length ≤ 12 := by cases s <;> simp [wds]
/-! joined texts -/
theorem len_app (a b : Str) : (a ++ b).length = a.length + b.length := by
  have h := TL.tl_append a b
  have e : ∀ x : Str, x.length = (TL.tl x).length := fun x => by simp [TL.tl, Str.length]
  rw [e, e, e, h, List.length_append]
theorem join_len (sep : Str) (n k : Nat) (hs : sep.length ≤ k) : ∀ ws : List Str, (∀ w ∈ ws, w.length ≤ n) → (Str.join sep ws).length ≤ ws.length * (n + k)
  | [], _ => by simp [Str.join, Str.empty, Str.length]
  | [w], h => by
    have := h w (by simp)
    simp only [Str.join, List.length_cons, List.length_nil]
    omega
  | w :: v :: r, h => by
    have ih := join_len sep n k hs (v :: r) fun x hx => h x (List.mem_cons_of_mem _ hx)
    have h1 := h w (by simp)
    show (w ++ sep ++ Str.join sep (v :: r)).length ≤ _
    rw [len_app, len_app]
    simp only [List.length_cons] at ih ⊢
    rw [show (r.length + 1 + 1) * (n + k) = (r.length + 1) * (n + k) + (n + k) by rw [Nat.add_mul (r.length + 1)]; omega]
    omega
theorem sum_len (n : Nat) : ∀ ws : List Str, (∀ w ∈ ws, w.length ≤ n) → (ws.map (·.length)).sum ≤ ws.length * n
  | [], _ => by simp
  | w :: r, h => by
    have ih := sum_len n r fun x hx => h x (List.mem_cons_of_mem _ hx)
    have h1 := h w (by simp)
    simp only [List.map_cons, List.sum_cons, List.length_cons]
    rw [Nat.add_mul]
    omega
theorem strs_map : ∀ ws : List Str, strsD (ws.map Eg.D.str) = some ws
  | [] => rfl
  | w :: r => by
    show (strsD (r.map Eg.D.str)).map _ = _
    rw [strs_map r]
    rfl
theorem join_D (sep : Str) (ws : List Str) (n : Nat) (h1 : sep.length ≤ 1) (h2 : ∀ w ∈ ws, w.length ≤ n) (h3 : ws.length * (n + 1) ≤ 16777216) : joinD sep (ws.map Eg.D.str) = some (false, .str (Str.join sep ws)) := by
  unfold joinD
  rw [strs_map]
  have hs := sum_len n ws h2
  have e : ws.length * (n + 1) = ws.length * n + ws.length := by rw [Nat.mul_add, Nat.mul_one]
  have h4 : ws.length * sep.length ≤ ws.length := by
    have := Nat.mul_le_mul_left ws.length h1
    omega
  have hb : Nat.ble ((ws.map (·.length)).sum + ws.length * sep.length) 16777216 = true := Nat.ble_eq_true_of_le (by omega)
  show (if Nat.ble ((ws.map (·.length)).sum + ws.length * sep.length) 16777216 = true then some (false, Eg.D.str (Txt.join sep ws)) else none) = _
  rw [if_pos hb, TL.join_eq]
theorem blank_l : (Os " ").length = 1 := by kernel_rfl
theorem feed_l : (Os "\n").length = 1 := by kernel_rfl
theorem blank_tl : TL.tl (Os " ") = [32] := by kernel_rfl
theorem feed_tl : TL.tl (Os "\n") = [10] := by kernel_rfl
theorem blank_k : (Os " ").cps.all (· < 256) = true := by kernel_rfl
theorem feed_k : (Os "\n").cps.all (· < 256) = true := by kernel_rfl
theorem split_D (x sep : Str) (ws : List Str) (h0 : (sep.length == 0) = false) (h1 : x.length ≤ 1000000) (h2 : Txt.split x sep = ws) : txD .split x (.str sep) = some (true, .lst (ws.map Eg.D.str)) := by
  show (if !(sep.length == 0) && Nat.ble (x.length + 2) sizeLine then some (true, Eg.D.lst ((Txt.split x sep).map Eg.D.str)) else none) = _
  have hb : Nat.ble (x.length + 2) sizeLine = true := Nat.ble_eq_true_of_le (by show _ ≤ 2 ^ 24; omega)
  rw [h0, hb, h2]
  rfl
/-- the line of a step -/
def lineS (s : St) : Str := Str.join (Os " ") (wds s)
structure GL (x : Str) : Prop where
  l : x.length ≤ 132
  f : 10 ∉ TL.tl x
  k : PyData.strOk x = true
theorem notin_join {c : Nat} {sep : Str} (hs : c ∉ TL.tl sep) : ∀ ws : List Str, (∀ w ∈ ws, c ∉ TL.tl w) → c ∉ TL.tl (Str.join sep ws)
  | [], _ => by simp [Str.join, Str.empty, TL.tl]
  | [w], h => h w (by simp)
  | w :: v :: r, h => by
    have ih := notin_join hs (v :: r) fun x hx => h x (List.mem_cons_of_mem _ hx)
    have h1 := h w (by simp)
    show c ∉ TL.tl (w ++ sep ++ Str.join sep (v :: r))
    rw [TL.tl_append, TL.tl_append]
    simp only [List.mem_append, not_or]
    exact ⟨⟨h1, hs⟩, ih⟩
theorem line_gl {s : St} {m : Nat} (h : s.ok m) (hm : m ≤ 8) : GL (lineS s) := by
  have g := wds_gw h hm
  have hl := wds_len s
  refine ⟨?_, ?_, ?_⟩
  · have := join_len (Os " ") 10 1 (by rw [blank_l]; omega) (wds s) fun w hw => (g w hw).l
    unfold lineS
    omega
  · exact notin_join (by rw [blank_tl]; decide) (wds s) fun w hw => (g w hw).f
  · exact sok_join (sok_of _) (wds s) fun w hw => (g w hw).k
theorem line_split {s : St} {m : Nat} (h : s.ok m) (hm : m ≤ 8) : Txt.split (lineS s) (Os " ") = wds s := by
  have g := wds_gw h hm
  have e := TL.split_join (y := Os " ") (s := 32) (S := []) blank_tl blank_k (parts := wds s) (fun z => by have := (wds_len s).1; rw [z] at this; simp at this) fun p hp => (g p hp).b
  rw [TL.join_eq] at e
  exact e
/-- the text of a row -/
def textS (ss : List St) : Str := Str.join (Os "\n") (ss.map lineS)
theorem lines_gl {ss : List St} (h : Row ss) : ∀ x ∈ ss.map lineS, GL x := by
  intro x hx
  obtain ⟨s, hs, rfl⟩ := List.mem_map.mp hx
  exact line_gl (h.all s hs) h.l8
theorem text_len {ss : List St} (h : Row ss) : (textS ss).length ≤ 2000 := by
  have h8 := h.l8
  have := join_len (Os "\n") 132 1 (by rw [feed_l]; omega) (ss.map lineS) fun w hw => (lines_gl h w hw).l
  rw [List.length_map] at this
  unfold textS
  omega
theorem text_ok {ss : List St} (h : Row ss) : PyData.strOk (textS ss) = true := sok_join (sok_of _) _ fun w hw => (lines_gl h w hw).k
theorem text_split {ss : List St} (h : Row ss) : Txt.split (textS ss) (Os "\n") = ss.map lineS := by
  have h0 := h.l0
  have e := TL.split_join (y := Os "\n") (s := 10) (S := []) feed_tl feed_k (parts := ss.map lineS) (fun z => by rw [List.map_eq_nil_iff] at z; rw [z] at h0; simp at h0) fun p hp => (lines_gl h p hp).f
  rw [TL.join_eq] at e
  exact e
end Law
namespace Law
open PySem Eg
theorem str_assoc (a b c : Str) : a ++ b ++ c = a ++ (b ++ c) := by
  obtain ⟨x⟩ := a
  obtain ⟨y⟩ := b
  obtain ⟨z⟩ := c
  show (⟨x ++ y ++ z⟩ : Str) = ⟨x ++ (y ++ z)⟩
  rw [Array.append_assoc]
theorem addS {a b : Str} (ha : a.length ≤ 100) (hb : b.length ≤ 100) : binD .add (.str a) (.str b) = some (false, .str (a ++ b)) := by
  show (if small (a.length + b.length) then some (false, Eg.D.str (a ++ b)) else none) = _
  have e : small (a.length + b.length) = true := Nat.ble_eq_true_of_le (by show _ ≤ 2 ^ 24; omega)
  rw [if_pos e]
theorem pc1 {a : Str} (h : GW a) : binD .add (.str a) (.str (Os " ")) = some (false, .str (a ++ Os " ")) := addS (by have := h.l; omega) (by rw [blank_l]; omega)
theorem pc2 {a b : Str} (h : GW a) (h2 : GW b) : binD .add (.str (a ++ Os " ")) (.str b) = some (false, .str (a ++ Os " " ++ b)) := addS (by rw [len_app, blank_l]; have := h.l; omega) (by have := h2.l; omega)
theorem pc_len {a b : Str} (h : GW a) (h2 : GW b) : (a ++ Os " " ++ b).length ≤ 30 := by
  rw [len_app, len_app, blank_l]
  have := h.l
  have := h2.l
  omega
theorem join_wds {s : St} {m : Nat} (h : s.ok m) (hm : m ≤ 8) : txD .join (Os " ") (.lst ((wds s).map Eg.D.str)) = some (false, .str (lineS s)) :=
  join_D (Os " ") (wds s) 10 (by rw [blank_l]; omega) (fun w hw => (wds_gw h hm w hw).l) (by have := (wds_len s).2; omega)
theorem add25 (a b c d e f g : Eg.D) : binD .add (.lst [a, b]) (.lst [c, d, e, f, g]) = some (true, .lst [a, b, c, d, e, f, g]) := by rfl
theorem add33 (a b c d e f : Eg.D) : binD .add (.lst [a, b, c]) (.lst [d, e, f]) = some (true, .lst [a, b, c, d, e, f]) := by rfl
theorem add24 (a b c d e f : Eg.D) : binD .add (.lst [a, b]) (.lst [c, d, e, f]) = some (true, .lst [a, b, c, d, e, f]) := by rfl
abbrev bTx : CS := b_step_text
theorem step_text (n : Nat) (s : St) (m : Nat) (h : s.ok m) (hm : m ≤ 8) : callN tab (n + 1) 4 [(false, s.d)] = .ok false (.str (lineS s)) [(false, s.d)] := by
  show callFn (callN tab n) f_step_text [_] = _
  unfold callFn f_step_text b_step_text
  cases s with
  | read k a b c d e =>
    have hh := h
    obtain ⟨_, h1, h2, h3, h4, h5⟩ := h
    have i0 : idxD (St.read k a b c d e).d (.int 0) = some (.str (Os "read")) := ixt0
    have ni : cmpD .isIn (.str (Os "read")) (.tup [v_END, v_FORGET]) = some false := by kernel_rfl
    have ln : bltD .len [(St.read k a b c d e).d] = some (false, .int 7) := by rfl
    have sl : slcD (St.read k a b c d e).d (some 2) none = some (false, .tup [.int a, .int b, .int c, .int d, .int e]) := by rfl
    have sm : slcD (St.read k a b c d e).d none (some 2) = some (false, .tup [.str (Os "read"), .str (Os k.s)]) := by rfl
    have jo : txD .join (Os " ") (.lst [.str (Os "read"), .str (Os k.s), .str (Os "got" ++ Os " " ++ numS a), .str (Os "mine" ++ Os " " ++ numS b), .str (Os "unchanged" ++ Os " " ++ numS c), .str (Os "absent" ++ Os " " ++ numS d), .str (Os "lost" ++ Os " " ++ numS e)]) = some (false, .str (lineS (.read k a b c d e))) := by
      have z := join_D (Os " ") [Os "read", Os k.s, Os "got" ++ Os " " ++ numS a, Os "mine" ++ Os " " ++ numS b, Os "unchanged" ++ Os " " ++ numS c, Os "absent" ++ Os " " ++ numS d, Os "lost" ++ Os " " ++ numS e] 30 (by rw [blank_l]; omega) (by
        simp only [List.forall_mem_cons, List.not_mem_nil, false_implies, implies_true, and_true]
        exact ⟨Nat.le_trans gw_read.l (by omega), Nat.le_trans (gw_cd k).l (by omega), pc_len gw_got (gw_num h1 hm), pc_len gw_mine (gw_num h2 hm), pc_len gw_unch (gw_num h3 hm), pc_len gw_abs (gw_num h4 hm), pc_len gw_lost (gw_num h5 hm)⟩) (by simp)
      refine z.trans ?_
      simp only [lineS, wds, Str.join, str_assoc]
    have p0 := pc1 gw_got
    have p1 := pc1 gw_mine
    have p2 := pc1 gw_unch
    have p3 := pc1 gw_abs
    have p4 := pc1 gw_lost
    have q0 := pc2 gw_got (gw_num h1 hm)
    have q1 := pc2 gw_mine (gw_num h2 hm)
    have q2 := pc2 gw_unch (gw_num h3 hm)
    have q3 := pc2 gw_abs (gw_num h4 hm)
    have q4 := pc2 gw_lost (gw_num h5 hm)
    simp -dsimp -implicitDefEqProofs [Eg.run, ev, evL, evB, evA, evI, evO, evF, startR, two_late, two_none, CE.late, CE.isNil, peek_0, peek_s, slot_0, slot_s, unown_0, unown_s, Fl.shared, st_n, st_h, st_w, store_s, nxO, lift_some, fin_val, fin_bor, fin_tst, Eg.tru_ok, truth_bl, truth_int, subOf, Eg.eq_int, eq_str, ne_str, ne_int, eq_bl, outsOf, Fl.own, small, sizeLine, isT, ↓loopC_P, ↓loopF_P, loopCP_nil, loopCP_cons, loopFP_nil, loopFP_cons, ↓bind_P, ↓stm_P, ↓then_P, bindP_ok, stmP_ok, thenP_nx, thenP_rt, calm_ok, oneOf_1, oneOf_2, storeL, storeF, put_one, put_many_, blt_int_b, blt_int_i, blt_len_l, blt_len_t, blt_min, bin_add, bin_sub, Eg.cmp_gt, cmp_ge, cmp_lt, cmp_le, ix_l0, ixt0, ixt1, ixt2, ixt3, ixt4, ixt5, ixt6, ixl1, ixl2, mayWipe, restore, zipD, itemsD, callA, callB, fl_f, fl_lst, fl_dk, fl_ins, fl_tp, argD, djA, back, lentOf, D.isNon, isMu, muTy, putI_w, putI_b, putI_s, pairD_2, in_str, nin_str, anyEq_nil, anyEq_str, bin_addT, fld_1, i0, ni, ax_r, anR, ln, al_r, sl, sm, str_str, v_BLANK, str_num h1 hm, str_num h2 hm, str_num h3 hm, str_num h4 hm, str_num h5 hm, ↓p0, ↓p1, ↓p2, ↓p3, ↓p4, ↓q0, ↓q1, ↓q2, ↓q3, ↓q4, ↓add25, ↓jo]
  | put k g a b c =>
    obtain ⟨_, h1, h2, h3⟩ := h
    have i0 : idxD (St.put k g a b c).d (.int 0) = some (.str (Os "put")) := ixt0
    have ni : cmpD .isIn (.str (Os "put")) (.tup [v_END, v_FORGET]) = some false := by kernel_rfl
    have ln : bltD .len [(St.put k g a b c).d] = some (false, .int 6) := by rfl
    have sl : slcD (St.put k g a b c).d (some 3) none = some (false, .tup [.int a, .int b, .int c]) := by rfl
    have sm : slcD (St.put k g a b c).d none (some 3) = some (false, .tup [.str (Os "put"), .str (Os k.s), .str (Os (sizeS g))]) := by rfl
    have jo : txD .join (Os " ") (.lst [.str (Os "put"), .str (Os k.s), .str (Os (sizeS g)), .str (Os "yes" ++ Os " " ++ numS a), .str (Os "no" ++ Os " " ++ numS b), .str (Os "lost" ++ Os " " ++ numS c)]) = some (false, .str (lineS (.put k g a b c))) := by
      have z := join_D (Os " ") [Os "put", Os k.s, Os (sizeS g), Os "yes" ++ Os " " ++ numS a, Os "no" ++ Os " " ++ numS b, Os "lost" ++ Os " " ++ numS c] 30 (by rw [blank_l]; omega) (by
        simp only [List.forall_mem_cons, List.not_mem_nil, false_implies, implies_true, and_true]
        exact ⟨Nat.le_trans gw_put.l (by omega), Nat.le_trans (gw_cd k).l (by omega), Nat.le_trans (gw_sz g).l (by omega), pc_len gw_yes (gw_num h1 hm), pc_len gw_no (gw_num h2 hm), pc_len gw_lost (gw_num h3 hm)⟩) (by simp)
      refine z.trans ?_
      simp only [lineS, wds, Str.join, str_assoc]
    have p0 := pc1 gw_yes
    have p1 := pc1 gw_no
    have p4 := pc1 gw_lost
    have q0 := pc2 gw_yes (gw_num h1 hm)
    have q1 := pc2 gw_no (gw_num h2 hm)
    have q4 := pc2 gw_lost (gw_num h3 hm)
    simp -dsimp -implicitDefEqProofs [Eg.run, ev, evL, evB, evA, evI, evO, evF, startR, two_late, two_none, CE.late, CE.isNil, peek_0, peek_s, slot_0, slot_s, unown_0, unown_s, Fl.shared, st_n, st_h, st_w, store_s, nxO, lift_some, fin_val, fin_bor, fin_tst, Eg.tru_ok, truth_bl, truth_int, subOf, Eg.eq_int, eq_str, ne_str, ne_int, eq_bl, outsOf, Fl.own, small, sizeLine, isT, ↓loopC_P, ↓loopF_P, loopCP_nil, loopCP_cons, loopFP_nil, loopFP_cons, ↓bind_P, ↓stm_P, ↓then_P, bindP_ok, stmP_ok, thenP_nx, thenP_rt, calm_ok, oneOf_1, oneOf_2, storeL, storeF, put_one, put_many_, blt_int_b, blt_int_i, blt_len_l, blt_len_t, blt_min, bin_add, bin_sub, Eg.cmp_gt, cmp_ge, cmp_lt, cmp_le, ix_l0, ixt0, ixt1, ixt2, ixt3, ixt4, ixt5, ixt6, ixl1, ixl2, mayWipe, restore, zipD, itemsD, callA, callB, fl_f, fl_lst, fl_dk, fl_ins, fl_tp, argD, djA, back, lentOf, D.isNon, isMu, muTy, putI_w, putI_b, putI_s, pairD_2, in_str, nin_str, anyEq_nil, anyEq_str, bin_addT, fld_1, i0, ni, ax_p, anP, ln, al_p, sl, sm, str_str, v_BLANK, str_num h1 hm, str_num h2 hm, str_num h3 hm, ↓p0, ↓p1, ↓p4, ↓q0, ↓q1, ↓q4, ↓add33, ↓jo]
  | take k a b c d =>
    obtain ⟨_, h1, h2, h3, h4⟩ := h
    have i0 : idxD (St.take k a b c d).d (.int 0) = some (.str (Os "take")) := ixt0
    have ni : cmpD .isIn (.str (Os "take")) (.tup [v_END, v_FORGET]) = some false := by kernel_rfl
    have ln : bltD .len [(St.take k a b c d).d] = some (false, .int 6) := by rfl
    have sl : slcD (St.take k a b c d).d (some 2) none = some (false, .tup [.int a, .int b, .int c, .int d]) := by rfl
    have sm : slcD (St.take k a b c d).d none (some 2) = some (false, .tup [.str (Os "take"), .str (Os k.s)]) := by rfl
    have jo : txD .join (Os " ") (.lst [.str (Os "take"), .str (Os k.s), .str (Os "yes" ++ Os " " ++ numS a), .str (Os "no" ++ Os " " ++ numS b), .str (Os "absent" ++ Os " " ++ numS c), .str (Os "lost" ++ Os " " ++ numS d)]) = some (false, .str (lineS (.take k a b c d))) := by
      have z := join_D (Os " ") [Os "take", Os k.s, Os "yes" ++ Os " " ++ numS a, Os "no" ++ Os " " ++ numS b, Os "absent" ++ Os " " ++ numS c, Os "lost" ++ Os " " ++ numS d] 30 (by rw [blank_l]; omega) (by
        simp only [List.forall_mem_cons, List.not_mem_nil, false_implies, implies_true, and_true]
        exact ⟨Nat.le_trans gw_take.l (by omega), Nat.le_trans (gw_cd k).l (by omega), pc_len gw_yes (gw_num h1 hm), pc_len gw_no (gw_num h2 hm), pc_len gw_abs (gw_num h3 hm), pc_len gw_lost (gw_num h4 hm)⟩) (by simp)
      refine z.trans ?_
      simp only [lineS, wds, Str.join, str_assoc]
    have p0 := pc1 gw_yes
    have p1 := pc1 gw_no
    have p3 := pc1 gw_abs
    have p4 := pc1 gw_lost
    have q0 := pc2 gw_yes (gw_num h1 hm)
    have q1 := pc2 gw_no (gw_num h2 hm)
    have q3 := pc2 gw_abs (gw_num h3 hm)
    have q4 := pc2 gw_lost (gw_num h4 hm)
    simp -dsimp -implicitDefEqProofs [Eg.run, ev, evL, evB, evA, evI, evO, evF, startR, two_late, two_none, CE.late, CE.isNil, peek_0, peek_s, slot_0, slot_s, unown_0, unown_s, Fl.shared, st_n, st_h, st_w, store_s, nxO, lift_some, fin_val, fin_bor, fin_tst, Eg.tru_ok, truth_bl, truth_int, subOf, Eg.eq_int, eq_str, ne_str, ne_int, eq_bl, outsOf, Fl.own, small, sizeLine, isT, ↓loopC_P, ↓loopF_P, loopCP_nil, loopCP_cons, loopFP_nil, loopFP_cons, ↓bind_P, ↓stm_P, ↓then_P, bindP_ok, stmP_ok, thenP_nx, thenP_rt, calm_ok, oneOf_1, oneOf_2, storeL, storeF, put_one, put_many_, blt_int_b, blt_int_i, blt_len_l, blt_len_t, blt_min, bin_add, bin_sub, Eg.cmp_gt, cmp_ge, cmp_lt, cmp_le, ix_l0, ixt0, ixt1, ixt2, ixt3, ixt4, ixt5, ixt6, ixl1, ixl2, mayWipe, restore, zipD, itemsD, callA, callB, fl_f, fl_lst, fl_dk, fl_ins, fl_tp, argD, djA, back, lentOf, D.isNon, isMu, muTy, putI_w, putI_b, putI_s, pairD_2, in_str, nin_str, anyEq_nil, anyEq_str, bin_addT, fld_1, i0, ni, ax_t, anT, ln, al_t, sl, sm, str_str, v_BLANK, str_num h1 hm, str_num h2 hm, str_num h3 hm, str_num h4 hm, ↓p0, ↓p1, ↓p3, ↓p4, ↓q0, ↓q1, ↓q3, ↓q4, ↓add24, ↓jo]
  | forget a =>
    have i0 : idxD (St.forget a).d (.int 0) = some (.str (Os "forget")) := ixt0
    have i1 : idxD (St.forget a).d (.int 1) = some (.int a) := ixt1
    have ni : cmpD .isIn (.str (Os "forget")) (.tup [v_END, v_FORGET]) = some true := by kernel_rfl
    have p0 := pc1 gw_forget
    have q0 := pc2 gw_forget (gw_num h hm)
    have e : lineS (.forget a) = Os "forget" ++ Os " " ++ numS a := rfl
    simp -dsimp -implicitDefEqProofs [Eg.run, ev, evL, evB, evA, evI, evO, evF, startR, two_late, two_none, CE.late, CE.isNil, peek_0, peek_s, slot_0, slot_s, unown_0, unown_s, Fl.shared, st_n, st_h, st_w, store_s, nxO, lift_some, fin_val, fin_bor, fin_tst, Eg.tru_ok, truth_bl, truth_int, subOf, Eg.eq_int, eq_str, ne_str, ne_int, eq_bl, outsOf, Fl.own, small, sizeLine, isT, ↓loopC_P, ↓loopF_P, loopCP_nil, loopCP_cons, loopFP_nil, loopFP_cons, ↓bind_P, ↓stm_P, ↓then_P, bindP_ok, stmP_ok, thenP_nx, thenP_rt, calm_ok, oneOf_1, oneOf_2, storeL, storeF, put_one, put_many_, blt_int_b, blt_int_i, blt_len_l, blt_len_t, blt_min, bin_add, bin_sub, Eg.cmp_gt, cmp_ge, cmp_lt, cmp_le, ix_l0, ixt0, ixt1, ixt2, ixt3, ixt4, ixt5, ixt6, ixl1, ixl2, mayWipe, restore, zipD, itemsD, callA, callB, fl_f, fl_lst, fl_dk, fl_ins, fl_tp, argD, djA, back, lentOf, D.isNon, isMu, muTy, putI_w, putI_b, putI_s, pairD_2, in_str, nin_str, anyEq_nil, anyEq_str, bin_addT, fld_1, i0, i1, ni, v_BLANK, str_num h hm, ↓p0, ↓q0, e]
  | fin w =>
    have i0 : idxD (St.fin w).d (.int 0) = some (.str (Os "end")) := ixt0
    have i1 : idxD (St.fin w).d (.int 1) = some (.str (Os w.s)) := ixt1
    have ni : cmpD .isIn (.str (Os "end")) (.tup [v_END, v_FORGET]) = some true := by kernel_rfl
    have p0 := pc1 gw_end
    have q0 := pc2 gw_end (gw_en w)
    have e : lineS (.fin w) = Os "end" ++ Os " " ++ Os w.s := rfl
    simp -dsimp -implicitDefEqProofs [Eg.run, ev, evL, evB, evA, evI, evO, evF, startR, two_late, two_none, CE.late, CE.isNil, peek_0, peek_s, slot_0, slot_s, unown_0, unown_s, Fl.shared, st_n, st_h, st_w, store_s, nxO, lift_some, fin_val, fin_bor, fin_tst, Eg.tru_ok, truth_bl, truth_int, subOf, Eg.eq_int, eq_str, ne_str, ne_int, eq_bl, outsOf, Fl.own, small, sizeLine, isT, ↓loopC_P, ↓loopF_P, loopCP_nil, loopCP_cons, loopFP_nil, loopFP_cons, ↓bind_P, ↓stm_P, ↓then_P, bindP_ok, stmP_ok, thenP_nx, thenP_rt, calm_ok, oneOf_1, oneOf_2, storeL, storeF, put_one, put_many_, blt_int_b, blt_int_i, blt_len_l, blt_len_t, blt_min, bin_add, bin_sub, Eg.cmp_gt, cmp_ge, cmp_lt, cmp_le, ix_l0, ixt0, ixt1, ixt2, ixt3, ixt4, ixt5, ixt6, ixl1, ixl2, mayWipe, restore, zipD, itemsD, callA, callB, fl_f, fl_lst, fl_dk, fl_ins, fl_tp, argD, djA, back, lentOf, D.isNon, isMu, muTy, putI_w, putI_b, putI_s, pairD_2, in_str, nin_str, anyEq_nil, anyEq_str, bin_addT, fld_1, i0, i1, ni, v_BLANK, str_str, ↓p0, ↓q0, e]
end Law
namespace Law
open PySem Eg
def lwR : Eg.D := .lst [.str (Os "got"), .str (Os "mine"), .str (Os "unchanged"), .str (Os "absent"), .str (Os "lost")]
def lwP : Eg.D := .lst [.str (Os "yes"), .str (Os "no"), .str (Os "lost")]
def lwT : Eg.D := .lst [.str (Os "yes"), .str (Os "no"), .str (Os "absent"), .str (Os "lost")]
def lwK : List (L2.Key × Eg.D) := [(.inr "read", lwR), (.inr "put", lwP)]
theorem lw_p : pairsK [.str (Os "read"), .lst [.str (Os "got"), .str (Os "mine"), .str (Os "unchanged"), .str (Os "absent"), .str (Os "lost")], .str (Os "put"), .lst [.str (Os "yes"), .str (Os "no"), .str (Os "lost")]] = some lwK := by rfl
theorem lw_m : mergeD [] lwK = lwK := by rfl
theorem lw_l : Nat.ble lwK.length 15 = true := by rfl
theorem lw_r : get2D (.dk lwK) (.str (Os "read")) lwT = some lwR := by rfl
theorem lw_pu : get2D (.dk lwK) (.str (Os "put")) lwT = some lwP := by rfl
theorem lw_t : get2D (.dk lwK) (.str (Os "take")) lwT = some lwT := by rfl
theorem lw_k : isDk (.dk lwK) = true := rfl
abbrev bLn : CS := b__law_line
theorem ln_s0 (n : Nat) (x : Eg.D) : Eg.run (callN tab n) (nthS bLn 0) [some (.sh, x), none, none, none, none, none] = .nx [some (.sh, x), some (.ow, .dk lwK), none, none, none, none] := by
  simp only [nthS, bLn, b__law_line]
  simp -dsimp -implicitDefEqProofs [Eg.run, ev, evL, evB, evA, evI, evO, evF, startR, two_late, two_none, CE.late, CE.isNil, peek_0, peek_s, slot_0, slot_s, unown_0, unown_s, Fl.shared, st_n, st_h, st_w, store_s, nxO, lift_some, fin_val, fin_bor, fin_tst, Eg.tru_ok, truth_bl, truth_int, subOf, Eg.eq_int, eq_str, ne_str, ne_int, eq_bl, outsOf, Fl.own, small, sizeLine, isT, ↓loopC_P, ↓loopF_P, loopCP_nil, loopCP_cons, loopFP_nil, loopFP_cons, ↓bind_P, ↓stm_P, ↓then_P, bindP_ok, stmP_ok, thenP_nx, thenP_rt, calm_ok, oneOf_1, oneOf_2, storeL, storeF, put_one, put_many_, blt_int_b, blt_int_i, blt_len_l, blt_len_t, blt_min, bin_add, bin_sub, Eg.cmp_gt, cmp_ge, cmp_lt, cmp_le, ix_l0, ixt0, ixt1, ixt2, ixt3, ixt4, ixt5, ixt6, ixl1, ixl2, mayWipe, restore, zipD, itemsD, callA, callB, fl_f, fl_lst, fl_dk, fl_ins, fl_tp, argD, djA, back, lentOf, D.isNon, isMu, muTy, putI_w, putI_b, putI_s, pairD_2, in_str, nin_str, anyEq_nil, anyEq_str, bin_addT, fld_1, lw_p, lw_l, lw_m]
theorem ln_run (n : Nat) (x d : Eg.D) (r : Rho) (h : Eg.run (callN tab n) (.cons (nthS bLn 1) (.cons (nthS bLn 2) (.cons (nthS bLn 3) (.cons (nthS bLn 4) (.cons (nthS bLn 5) .nil))))) [some (.sh, x), some (.ow, .dk lwK), none, none, none, none] = .rt false d r) (ho : outsOf 1 r = [(false, x)]) :
    callN tab (n + 1) 18 [(false, x)] = .ok false d [(false, x)] := by
  show callFn (callN tab n) f__law_line [(false, x)] = _
  refine (callFn_rt (cl := callN tab n) (f := f__law_line) (as := [(false, x)]) (r := r) rfl ?_).trans (by show COut.ok false d (outsOf 1 r) = _; rw [ho])
  show (Eg.run (callN tab n) (nthS bLn 0) [some (.sh, x), none, none, none, none, none]).then (fun r => Eg.run (callN tab n) (.cons (nthS bLn 1) (.cons (nthS bLn 2) (.cons (nthS bLn 3) (.cons (nthS bLn 4) (.cons (nthS bLn 5) .nil))))) r) = _
  rw [ln_s0, then_nx, h]
theorem ap22 (a b c d : Eg.D) : binD .add (.lst [a, b]) (.lst [c, d]) = some (true, .lst [a, b, c, d]) := by rfl
theorem ap32 (a b c d e : Eg.D) : binD .add (.lst [a, b, c]) (.lst [d, e]) = some (true, .lst [a, b, c, d, e]) := by rfl
theorem ap42 (a b c d e f : Eg.D) : binD .add (.lst [a, b, c, d]) (.lst [e, f]) = some (true, .lst [a, b, c, d, e, f]) := by rfl
theorem ap52 (a b c d e f g : Eg.D) : binD .add (.lst [a, b, c, d, e]) (.lst [f, g]) = some (true, .lst [a, b, c, d, e, f, g]) := by rfl
theorem ap62 (a b c d e f g h : Eg.D) : binD .add (.lst [a, b, c, d, e, f]) (.lst [g, h]) = some (true, .lst [a, b, c, d, e, f, g, h]) := by rfl
theorem ap72 (a b c d e f g h i : Eg.D) : binD .add (.lst [a, b, c, d, e, f, g]) (.lst [h, i]) = some (true, .lst [a, b, c, d, e, f, g, h, i]) := by rfl
theorem ap82 (a b c d e f g h i j : Eg.D) : binD .add (.lst [a, b, c, d, e, f, g, h]) (.lst [i, j]) = some (true, .lst [a, b, c, d, e, f, g, h, i, j]) := by rfl
theorem ap92 (a b c d e f g h i j k l : Eg.D) : binD .add (.lst [a, b, c, d, e, f, g, h, i, j]) (.lst [k, l]) = some (true, .lst [a, b, c, d, e, f, g, h, i, j, k, l]) := by rfl
theorem law_line (n : Nat) (s : St) (m : Nat) (h : s.ok m) (hm : m ≤ 8) : callN tab (n + 1) 18 [(false, s.d)] = .ok false (.str (lineS s)) [(false, s.d)] := by
  have jo := join_wds h hm
  cases s with
  | read k a b c d e =>
    obtain ⟨_, h1, h2, h3, h4, h5⟩ := h
    have i0 : idxD (St.read k a b c d e).d (.int 0) = some (.str (Os "read")) := ixt0
    have ni : cmpD .isIn (.str (Os "read")) (.tup [.str (Os "forget"), .str (Os "end")]) = some false := by kernel_rfl
    have ln : bltD .len [(St.read k a b c d e).d] = some (false, .int 7) := by rfl
    have la : bltD .len [lwR] = some (false, .int 5) := by rfl
    have sl : slcD (St.read k a b c d e).d (some 2) none = some (false, .tup [.int a, .int b, .int c, .int d, .int e]) := by rfl
    have sm : slcD (St.read k a b c d e).d none (some 2) = some (false, .tup [.str (Os "read"), .str (Os k.s)]) := by rfl
    simp only [wds, List.map_cons, List.map_nil] at jo
    refine ln_run n _ _ [some (.sh, (St.read k a b c d e).d), some (.ow, .dk lwK), some (.sh, lwR), some (.ow, .lst [.str (Os "read"), .str (Os k.s), .str (Os "got"), .str (numS a), .str (Os "mine"), .str (numS b), .str (Os "unchanged"), .str (numS c), .str (Os "absent"), .str (numS d), .str (Os "lost"), .str (numS e)]), some (.sh, .str (Os "lost")), some (.sh, .int e)] ?_ rfl
    simp only [nthS, bLn, b__law_line]
    have g := lw_r
    unfold lwT at g
    simp -dsimp -implicitDefEqProofs [Eg.run, ev, evL, evB, evA, evI, evO, evF, startR, two_late, two_none, CE.late, CE.isNil, peek_0, peek_s, slot_0, slot_s, unown_0, unown_s, Fl.shared, st_n, st_h, st_w, store_s, nxO, lift_some, fin_val, fin_bor, fin_tst, Eg.tru_ok, truth_bl, truth_int, subOf, Eg.eq_int, eq_str, ne_str, ne_int, eq_bl, outsOf, Fl.own, small, sizeLine, isT, ↓loopC_P, ↓loopF_P, loopCP_nil, loopCP_cons, loopFP_nil, loopFP_cons, ↓bind_P, ↓stm_P, ↓then_P, bindP_ok, stmP_ok, thenP_nx, thenP_rt, calm_ok, oneOf_1, oneOf_2, storeL, storeF, put_one, put_many_, blt_int_b, blt_int_i, blt_len_l, blt_len_t, blt_min, bin_add, bin_sub, Eg.cmp_gt, cmp_ge, cmp_lt, cmp_le, ix_l0, ixt0, ixt1, ixt2, ixt3, ixt4, ixt5, ixt6, ixl1, ixl2, mayWipe, restore, zipD, itemsD, callA, callB, fl_f, fl_lst, fl_dk, fl_ins, fl_tp, argD, djA, back, lentOf, D.isNon, isMu, muTy, putI_w, putI_b, putI_s, pairD_2, in_str, nin_str, anyEq_nil, anyEq_str, bin_addT, fld_1, i0, ni, ↓lw_k, ↓g, ln, la, sl, sm, str_str, lwR, str_num h1 hm, str_num h2 hm, str_num h3 hm, str_num h4 hm, str_num h5 hm, ↓ap22, ↓ap42, ↓ap62, ↓ap82, ↓ap92, ↓jo]
  | put k g a b c =>
    obtain ⟨_, h1, h2, h3⟩ := h
    have i0 : idxD (St.put k g a b c).d (.int 0) = some (.str (Os "put")) := ixt0
    have ni : cmpD .isIn (.str (Os "put")) (.tup [.str (Os "forget"), .str (Os "end")]) = some false := by kernel_rfl
    have ln : bltD .len [(St.put k g a b c).d] = some (false, .int 6) := by rfl
    have la : bltD .len [lwP] = some (false, .int 3) := by rfl
    have sl : slcD (St.put k g a b c).d (some 3) none = some (false, .tup [.int a, .int b, .int c]) := by rfl
    have sm : slcD (St.put k g a b c).d none (some 3) = some (false, .tup [.str (Os "put"), .str (Os k.s), .str (Os (sizeS g))]) := by rfl
    simp only [wds, List.map_cons, List.map_nil] at jo
    refine ln_run n _ _ [some (.sh, (St.put k g a b c).d), some (.ow, .dk lwK), some (.sh, lwP), some (.ow, .lst [.str (Os "put"), .str (Os k.s), .str (Os (sizeS g)), .str (Os "yes"), .str (numS a), .str (Os "no"), .str (numS b), .str (Os "lost"), .str (numS c)]), some (.sh, .str (Os "lost")), some (.sh, .int c)] ?_ rfl
    simp only [nthS, bLn, b__law_line]
    have g := lw_pu
    unfold lwT at g
    simp -dsimp -implicitDefEqProofs [Eg.run, ev, evL, evB, evA, evI, evO, evF, startR, two_late, two_none, CE.late, CE.isNil, peek_0, peek_s, slot_0, slot_s, unown_0, unown_s, Fl.shared, st_n, st_h, st_w, store_s, nxO, lift_some, fin_val, fin_bor, fin_tst, Eg.tru_ok, truth_bl, truth_int, subOf, Eg.eq_int, eq_str, ne_str, ne_int, eq_bl, outsOf, Fl.own, small, sizeLine, isT, ↓loopC_P, ↓loopF_P, loopCP_nil, loopCP_cons, loopFP_nil, loopFP_cons, ↓bind_P, ↓stm_P, ↓then_P, bindP_ok, stmP_ok, thenP_nx, thenP_rt, calm_ok, oneOf_1, oneOf_2, storeL, storeF, put_one, put_many_, blt_int_b, blt_int_i, blt_len_l, blt_len_t, blt_min, bin_add, bin_sub, Eg.cmp_gt, cmp_ge, cmp_lt, cmp_le, ix_l0, ixt0, ixt1, ixt2, ixt3, ixt4, ixt5, ixt6, ixl1, ixl2, mayWipe, restore, zipD, itemsD, callA, callB, fl_f, fl_lst, fl_dk, fl_ins, fl_tp, argD, djA, back, lentOf, D.isNon, isMu, muTy, putI_w, putI_b, putI_s, pairD_2, in_str, nin_str, anyEq_nil, anyEq_str, bin_addT, fld_1, i0, ni, ↓lw_k, ↓g, ln, la, sl, sm, str_str, lwP, str_num h1 hm, str_num h2 hm, str_num h3 hm, ↓ap32, ↓ap52, ↓ap72, ↓jo]
  | take k a b c d =>
    obtain ⟨_, h1, h2, h3, h4⟩ := h
    have i0 : idxD (St.take k a b c d).d (.int 0) = some (.str (Os "take")) := ixt0
    have ni : cmpD .isIn (.str (Os "take")) (.tup [.str (Os "forget"), .str (Os "end")]) = some false := by kernel_rfl
    have ln : bltD .len [(St.take k a b c d).d] = some (false, .int 6) := by rfl
    have la : bltD .len [lwT] = some (false, .int 4) := by rfl
    have sl : slcD (St.take k a b c d).d (some 2) none = some (false, .tup [.int a, .int b, .int c, .int d]) := by rfl
    have sm : slcD (St.take k a b c d).d none (some 2) = some (false, .tup [.str (Os "take"), .str (Os k.s)]) := by rfl
    simp only [wds, List.map_cons, List.map_nil] at jo
    refine ln_run n _ _ [some (.sh, (St.take k a b c d).d), some (.ow, .dk lwK), some (.sh, lwT), some (.ow, .lst [.str (Os "take"), .str (Os k.s), .str (Os "yes"), .str (numS a), .str (Os "no"), .str (numS b), .str (Os "absent"), .str (numS c), .str (Os "lost"), .str (numS d)]), some (.sh, .str (Os "lost")), some (.sh, .int d)] ?_ rfl
    simp only [nthS, bLn, b__law_line]
    have g := lw_t
    unfold lwT at g
    unfold lwT at la
    simp -dsimp -implicitDefEqProofs [Eg.run, ev, evL, evB, evA, evI, evO, evF, startR, two_late, two_none, CE.late, CE.isNil, peek_0, peek_s, slot_0, slot_s, unown_0, unown_s, Fl.shared, st_n, st_h, st_w, store_s, nxO, lift_some, fin_val, fin_bor, fin_tst, Eg.tru_ok, truth_bl, truth_int, subOf, Eg.eq_int, eq_str, ne_str, ne_int, eq_bl, outsOf, Fl.own, small, sizeLine, isT, ↓loopC_P, ↓loopF_P, loopCP_nil, loopCP_cons, loopFP_nil, loopFP_cons, ↓bind_P, ↓stm_P, ↓then_P, bindP_ok, stmP_ok, thenP_nx, thenP_rt, calm_ok, oneOf_1, oneOf_2, storeL, storeF, put_one, put_many_, blt_int_b, blt_int_i, blt_len_l, blt_len_t, blt_min, bin_add, bin_sub, Eg.cmp_gt, cmp_ge, cmp_lt, cmp_le, ix_l0, ixt0, ixt1, ixt2, ixt3, ixt4, ixt5, ixt6, ixl1, ixl2, mayWipe, restore, zipD, itemsD, callA, callB, fl_f, fl_lst, fl_dk, fl_ins, fl_tp, argD, djA, back, lentOf, D.isNon, isMu, muTy, putI_w, putI_b, putI_s, pairD_2, in_str, nin_str, anyEq_nil, anyEq_str, bin_addT, fld_1, i0, ni, ↓lw_k, ↓g, ln, la, sl, sm, str_str, lwT, str_num h1 hm, str_num h2 hm, str_num h3 hm, str_num h4 hm, ↓ap22, ↓ap42, ↓ap62, ↓ap82, ↓jo]
  | forget a =>
    have i0 : idxD (St.forget a).d (.int 0) = some (.str (Os "forget")) := ixt0
    have i1 : idxD (St.forget a).d (.int 1) = some (.int a) := ixt1
    have ni : cmpD .isIn (.str (Os "forget")) (.tup [.str (Os "forget"), .str (Os "end")]) = some true := by kernel_rfl
    have p0 := pc1 gw_forget
    have q0 := pc2 gw_forget (gw_num h hm)
    have e : lineS (.forget a) = Os "forget" ++ Os " " ++ numS a := rfl
    refine ln_run n _ _ [some (.sh, (St.forget a).d), some (.ow, .dk lwK), none, none, none, none] ?_ rfl
    simp only [nthS, bLn, b__law_line]
    simp -dsimp -implicitDefEqProofs [Eg.run, ev, evL, evB, evA, evI, evO, evF, startR, two_late, two_none, CE.late, CE.isNil, peek_0, peek_s, slot_0, slot_s, unown_0, unown_s, Fl.shared, st_n, st_h, st_w, store_s, nxO, lift_some, fin_val, fin_bor, fin_tst, Eg.tru_ok, truth_bl, truth_int, subOf, Eg.eq_int, eq_str, ne_str, ne_int, eq_bl, outsOf, Fl.own, small, sizeLine, isT, ↓loopC_P, ↓loopF_P, loopCP_nil, loopCP_cons, loopFP_nil, loopFP_cons, ↓bind_P, ↓stm_P, ↓then_P, bindP_ok, stmP_ok, thenP_nx, thenP_rt, calm_ok, oneOf_1, oneOf_2, storeL, storeF, put_one, put_many_, blt_int_b, blt_int_i, blt_len_l, blt_len_t, blt_min, bin_add, bin_sub, Eg.cmp_gt, cmp_ge, cmp_lt, cmp_le, ix_l0, ixt0, ixt1, ixt2, ixt3, ixt4, ixt5, ixt6, ixl1, ixl2, mayWipe, restore, zipD, itemsD, callA, callB, fl_f, fl_lst, fl_dk, fl_ins, fl_tp, argD, djA, back, lentOf, D.isNon, isMu, muTy, putI_w, putI_b, putI_s, pairD_2, in_str, nin_str, anyEq_nil, anyEq_str, bin_addT, fld_1, i0, i1, ni, str_num h hm, ↓p0, ↓q0, e]
  | fin w =>
    have i0 : idxD (St.fin w).d (.int 0) = some (.str (Os "end")) := ixt0
    have i1 : idxD (St.fin w).d (.int 1) = some (.str (Os w.s)) := ixt1
    have ni : cmpD .isIn (.str (Os "end")) (.tup [.str (Os "forget"), .str (Os "end")]) = some true := by kernel_rfl
    have p0 := pc1 gw_end
    have q0 := pc2 gw_end (gw_en w)
    have e : lineS (.fin w) = Os "end" ++ Os " " ++ Os w.s := rfl
    refine ln_run n _ _ [some (.sh, (St.fin w).d), some (.ow, .dk lwK), none, none, none, none] ?_ rfl
    simp only [nthS, bLn, b__law_line]
    simp -dsimp -implicitDefEqProofs [Eg.run, ev, evL, evB, evA, evI, evO, evF, startR, two_late, two_none, CE.late, CE.isNil, peek_0, peek_s, slot_0, slot_s, unown_0, unown_s, Fl.shared, st_n, st_h, st_w, store_s, nxO, lift_some, fin_val, fin_bor, fin_tst, Eg.tru_ok, truth_bl, truth_int, subOf, Eg.eq_int, eq_str, ne_str, ne_int, eq_bl, outsOf, Fl.own, small, sizeLine, isT, ↓loopC_P, ↓loopF_P, loopCP_nil, loopCP_cons, loopFP_nil, loopFP_cons, ↓bind_P, ↓stm_P, ↓then_P, bindP_ok, stmP_ok, thenP_nx, thenP_rt, calm_ok, oneOf_1, oneOf_2, storeL, storeF, put_one, put_many_, blt_int_b, blt_int_i, blt_len_l, blt_len_t, blt_min, bin_add, bin_sub, Eg.cmp_gt, cmp_ge, cmp_lt, cmp_le, ix_l0, ixt0, ixt1, ixt2, ixt3, ixt4, ixt5, ixt6, ixl1, ixl2, mayWipe, restore, zipD, itemsD, callA, callB, fl_f, fl_lst, fl_dk, fl_ins, fl_tp, argD, djA, back, lentOf, D.isNon, isMu, muTy, putI_w, putI_b, putI_s, pairD_2, in_str, nin_str, anyEq_nil, anyEq_str, bin_addT, fld_1, i0, i1, ni, str_str, ↓p0, ↓q0, e]
end Law
namespace Law
open PySem Eg
theorem loopC_map {α : Type} {tg : Tg} {vs : List Nat} {fc : Rho → Out Bool} {fe : Rho → Out Eg.D} {I : Rho → Prop} (e g : α → Eg.D) (hfc : ∀ r, fc r = .ok true r) : ∀ (ss : List α) (acc : List Eg.D) (r : Rho), I r → acc.length + ss.length ≤ 100000 →
    (∀ s ∈ ss, ∀ r, I r → ∃ r1 r3, tg.put (vs.foldl (fun r i => r.set i none) r) (e s) = some r1 ∧ fe r1 = .ok (g s) r3 ∧ I r3) → ∃ r', loopC tg vs fc fe (ss.map e) acc r = .ok (acc ++ ss.map g) r' ∧ I r'
  | [], acc, r, h, _, _ => ⟨r, by simp [loopC], h⟩
  | s :: ss, acc, r, h, hl, k => by
    obtain ⟨r1, r3, e1, e2, h3⟩ := k s (by simp) r h
    obtain ⟨r', e3, h'⟩ := loopC_map e g hfc ss (acc ++ [g s]) r3 h3 (by simp at hl ⊢; omega) fun t ht => k t (by simp [ht])
    refine ⟨r', ?_, h'⟩
    rw [List.map_cons, loopC_cons, e1, lift_some, bind_ok, hfc, bind_ok]
    simp only
    rw [e2, bind_ok, if_pos (by rw [Nat.blt_eq]; show _ < 2 ^ 24; simp at hl; omega), e3]
    simp
theorem comp_map {α : Type} {cl : Cal} {vs : List (Str × Nat)} {tg : List Nat} {it elt : CE} {r r0 : Rho} {I : Rho → Prop} (e g : α → Eg.D) (ss : List α) (hI : evI cl it r = .ok (ss.map e) r0) (hw : mayWipe r0 (vs.map (·.2)) = true) (hl : ss.length ≤ 1000) (h0 : I r0)
    (hs : ∀ s ∈ ss, ∀ r, I r → ∃ b r1 r3, (oneOf tg).put ((vs.map (·.2)).foldl (fun r i => r.set i none) r) (e s) = some r1 ∧ ev cl elt .val r1 = .ok (b, g s) r3 ∧ I r3) (hr : ∀ r', I r' → restore r0 r' (vs.map (·.2)) = r0) :
    ev cl (.comp vs tg it .nil elt) .val r = .ok (true, .lst (ss.map g)) r0 := by
  obtain ⟨r', el, h'⟩ := loopC_map (tg := oneOf tg) (vs := vs.map (·.2)) (fc := fun r => if CE.nil.isNil then .ok true r else (ev cl CE.nil .tst r).bind fun x r => lift (isT x.2) r) (fe := fun r => (ev cl elt .val r).bind fun x r => .ok x.2 r) (I := I) e g (fun _ => rfl) ss [] r0 h0 (by simp; omega) (fun s hs' r hr' => by
    obtain ⟨b, r1, r3, e1, e2, h3⟩ := hs s hs' r hr'
    exact ⟨r1, r3, e1, by simp only [e2, bind_ok], h3⟩)
  rw [ev_comp hI hw el, hr r' h']
  simp
/-- the texts of all steps, joined -/
theorem join_lines {ss : List St} (h : Row ss) : txD .join (Os "\n") (.lst (ss.map fun s => Eg.D.str (lineS s))) = some (false, .str (textS ss)) := by
  have e : (ss.map fun s => Eg.D.str (lineS s)) = (ss.map lineS).map Eg.D.str := by simp
  rw [e]
  exact join_D (Os "\n") (ss.map lineS) 132 (by rw [feed_l]; omega) (fun w hw => (lines_gl h w hw).l) (by have := h.l8; simp; omega)
theorem ev_join {cl : Cal} {a b : CE} {r r1 r2 : Rho} {f : Bool} {s : Str} {x y : Bool × Eg.D} (h1 : ev cl a .val r = .ok (f, .str s) r1) (h2 : ev cl b .bor r1 = .ok x r2) (h3 : txD .join s x.2 = some y) : ev cl (.txt .join a b) .val r = .ok y r2 := by
  simp only [ev]
  rw [h1, bind_ok]
  simp only
  rw [h2, bind_ok, h3]
  rfl
theorem ev_split {cl : Cal} {a b : CE} {r r1 r2 : Rho} {f : Bool} {s : Str} {x y : Bool × Eg.D} (h1 : ev cl a .val r = .ok (f, .str s) r1) (h2 : ev cl b .bor r1 = .ok x r2) (h3 : txD .split s x.2 = some y) : ev cl (.txt .split a b) .val r = .ok y r2 := by
  simp only [ev]
  rw [h1, bind_ok]
  simp only
  rw [h2, bind_ok, h3]
  rfl
theorem bor_comp {cl : Cal} {vs : List (Str × Nat)} {tg : List Nat} {it c elt : CE} {r : Rho} : ev cl (.comp vs tg it c elt) .bor r = ev cl (.comp vs tg it c elt) .val r := rfl
theorem script_text (n : Nat) (ss : List St) (h : Row ss) : callN tab (n + 2) 5 [(false, scD ss)] = .ok false (.str (textS ss)) [(false, scD ss)] := by
  have h8 := h.l8
  have cm : ev (callN tab (n + 1)) (.comp [("one", 1)] [1] (.seq (.fld [41] "steps" (.var 0))) .nil (.call 4 "step_text" (.cons (.var 1) .nil))) .val [some (.sh, scD ss), none] = .ok (true, .lst (ss.map fun s => Eg.D.str (lineS s))) [some (.sh, scD ss), none] := by
    refine comp_map (r0 := [some (.sh, scD ss), none]) (I := fun r => ∃ x, okS x = true ∧ r = [some (.sh, scD ss), x]) St.d (fun s => Eg.D.str (lineS s)) ss ?_ rfl (by omega) ⟨none, rfl, rfl⟩ ?_ ?_
    · have e : ev (callN tab (n + 1)) (.fld [41] "steps" (.var 0)) .val [some (.sh, scD ss), none] = .ok (false, ssD ss) [some (.sh, scD ss), none] := by
        simp -dsimp -implicitDefEqProofs [Eg.run, ev, evL, evB, evA, evI, evO, evF, startR, two_late, two_none, CE.late, CE.isNil, peek_0, peek_s, slot_0, slot_s, unown_0, unown_s, Fl.shared, st_n, st_h, st_w, store_s, nxO, lift_some, fin_val, fin_bor, fin_tst, Eg.tru_ok, truth_bl, truth_int, subOf, Eg.eq_int, eq_str, ne_str, ne_int, eq_bl, outsOf, Fl.own, small, sizeLine, isT, ↓loopC_P, ↓loopF_P, loopCP_nil, loopCP_cons, loopFP_nil, loopFP_cons, ↓bind_P, ↓stm_P, ↓then_P, bindP_ok, stmP_ok, thenP_nx, thenP_rt, calm_ok, oneOf_1, oneOf_2, storeL, storeF, put_one, put_many_, blt_int_b, blt_int_i, blt_len_l, blt_len_t, blt_min, bin_add, bin_sub, Eg.cmp_gt, cmp_ge, cmp_lt, cmp_le, ix_l0, ixt0, ixt1, ixt2, ixt3, ixt4, ixt5, ixt6, ixl1, ixl2, mayWipe, restore, zipD, itemsD, callA, callB, fl_f, fl_lst, fl_dk, fl_ins, fl_tp, argD, djA, back, lentOf, D.isNon, isMu, muTy, putI_w, putI_b, putI_s, pairD_2, in_str, nin_str, anyEq_nil, anyEq_str, bin_addT, fld_1, sc_fld2]
      simp only [evI]
      rw [e]
      rfl
    · intro s hs r hr
      obtain ⟨x, hx, rfl⟩ := hr
      have st := step_text n s ss.length (h.all s hs) h8
      refine ⟨false, [some (.sh, scD ss), some (.sh, s.d)], [some (.sh, scD ss), some (.sh, s.d)], rfl, ?_, _, rfl, rfl⟩
      simp -dsimp -implicitDefEqProofs [Eg.run, ev, evL, evB, evA, evI, evO, evF, startR, two_late, two_none, CE.late, CE.isNil, peek_0, peek_s, slot_0, slot_s, unown_0, unown_s, Fl.shared, st_n, st_h, st_w, store_s, nxO, lift_some, fin_val, fin_bor, fin_tst, Eg.tru_ok, truth_bl, truth_int, subOf, Eg.eq_int, eq_str, ne_str, ne_int, eq_bl, outsOf, Fl.own, small, sizeLine, isT, ↓loopC_P, ↓loopF_P, loopCP_nil, loopCP_cons, loopFP_nil, loopFP_cons, ↓bind_P, ↓stm_P, ↓then_P, bindP_ok, stmP_ok, thenP_nx, thenP_rt, calm_ok, oneOf_1, oneOf_2, storeL, storeF, put_one, put_many_, blt_int_b, blt_int_i, blt_len_l, blt_len_t, blt_min, bin_add, bin_sub, Eg.cmp_gt, cmp_ge, cmp_lt, cmp_le, ix_l0, ixt0, ixt1, ixt2, ixt3, ixt4, ixt5, ixt6, ixl1, ixl2, mayWipe, restore, zipD, itemsD, callA, callB, fl_f, fl_lst, fl_dk, fl_ins, fl_tp, argD, djA, back, lentOf, D.isNon, isMu, muTy, putI_w, putI_b, putI_s, pairD_2, in_str, nin_str, anyEq_nil, anyEq_str, bin_addT, fld_1, st]
    · intro r' hr
      obtain ⟨x, hx, rfl⟩ := hr
      rfl
  have e := ev_join (cl := callN tab (n + 1)) (a := .con "FEED" v_FEED) (r := [some (.sh, scD ss), none]) (r1 := [some (.sh, scD ss), none]) (f := false) (s := Os "\n") rfl (bor_comp.trans cm) (join_lines h)
  show callFn (callN tab (n + 1)) f_script_text [_] = _
  refine (callFn_rt (cl := callN tab (n + 1)) (f := f_script_text) (as := [(false, scD ss)]) (r := [some (.sh, scD ss), none]) (fr := false) (d := .str (textS ss)) rfl ?_).trans rfl
  show ((ev (callN tab (n + 1)) (.txt .join (.con "FEED" v_FEED) _) .val [some (.sh, scD ss), none]).stm fun x r => SOut.rt x.1 x.2 r).then _ = _
  rw [e]
  rfl
/-- the lines of a text, lists of words -/
theorem lines_in (n : Nat) (x : Str) (ls : List Str) (wd : Str → List Str) (h0 : x.length ≤ 1000000) (h1 : Txt.split x (Os "\n") = ls) (hl : ls.length ≤ 1000) (h2 : ∀ l ∈ ls, l.length ≤ 1000000 ∧ Txt.split l (Os " ") = wd l) :
    callN tab (n + 1) 7 [(false, .str x)] = .ok true (.lst (ls.map fun l => Eg.D.lst ((wd l).map Eg.D.str))) [(false, .str x)] := by
  have s1 := split_D x (Os "\n") ls (by rw [feed_l]; rfl) h0 h1
  have cm : ev (callN tab n) (.comp [("line", 1)] [1] (.seq (.txt .split (.var 0) (.con "FEED" v_FEED))) .nil (.txt .split (.var 1) (.con "BLANK" v_BLANK))) .val [some (.sh, .str x), none] = .ok (true, .lst (ls.map fun l => Eg.D.lst ((wd l).map Eg.D.str))) [some (.sh, .str x), none] := by
    refine comp_map (r0 := [some (.sh, .str x), none]) (I := fun r => ∃ y, okS y = true ∧ r = [some (.sh, .str x), y]) Eg.D.str (fun l => Eg.D.lst ((wd l).map Eg.D.str)) ls ?_ rfl hl ⟨none, rfl, rfl⟩ ?_ ?_
    · have e := ev_split (cl := callN tab n) (a := .var 0) (b := .con "FEED" v_FEED) (r := [some (.sh, .str x), none]) (r1 := [some (.sh, .str x), none]) (r2 := [some (.sh, .str x), none]) (f := false) (s := x) (x := (false, .str (Os "\n"))) rfl rfl s1
      simp only [evI]
      rw [e]
      rfl
    · intro l hl r hr
      obtain ⟨y, hy, rfl⟩ := hr
      obtain ⟨k1, k2⟩ := h2 l hl
      have s2 := split_D l (Os " ") (wd l) (by rw [blank_l]; rfl) k1 k2
      exact ⟨true, [some (.sh, .str x), some (.sh, .str l)], [some (.sh, .str x), some (.sh, .str l)], rfl, ev_split (cl := callN tab n) (a := .var 1) (b := .con "BLANK" v_BLANK) (r1 := [some (.sh, .str x), some (.sh, .str l)]) (f := false) (s := l) (x := (false, .str (Os " "))) rfl rfl s2, _, rfl, rfl⟩
    · intro r' hr
      obtain ⟨y, hy, rfl⟩ := hr
      rfl
  show callFn (callN tab n) f_lines_in [_] = _
  refine (callFn_rt (cl := callN tab n) (f := f_lines_in) (as := [(false, .str x)]) (r := [some (.sh, .str x), none]) rfl ?_).trans rfl
  have st : Eg.run (callN tab n) (nthS b_lines_in 0) [some (.sh, .str x), none] = .nx [some (.sh, .str x), none] := rfl
  show (Eg.run (callN tab n) (nthS b_lines_in 0) [some (.sh, .str x), none]).then (fun r => (Eg.run (callN tab n) (nthS b_lines_in 1) r).then fun r => .nx r) = _
  rw [st, then_nx]
  show ((ev (callN tab n) (.comp [("line", 1)] [1] (.seq (.txt .split (.var 0) (.con "FEED" v_FEED))) .nil (.txt .split (.var 1) (.con "BLANK" v_BLANK))) .val _).stm fun x r => SOut.rt x.1 x.2 r).then _ = _
  rw [cm]
  rfl
end Law
namespace Law
open PySem Eg
theorem run_forsE_ow {cl : Cal} {tg : List Nat} {i : Nat} {b : CS} {r : Rho} {d : Eg.D} (h : slotOf r i = some (.ow, d)) : Eg.run cl (.forsE tg i b) r = Eg.run cl (.fors tg (.enum (.var i)) b) r := by
  show (match slotOf r i with
    | some (.bo, .lst ys) => loopB (oneOf tg) i (Eg.run cl b) ys.length 0 r
    | _ => (evI cl (.enum (.var i)) r).stm fun xs r => loopF (oneOf tg) (Eg.run cl b) xs r) = _
  rw [h]
  rfl
def fgD (x : String) : Eg.D := .tup [.str (Os x)]
def formR : List Eg.D := [.tup rdC, fgD "got", v_FIGURES, fgD "mine", v_FIGURES, fgD "unchanged", v_FIGURES, fgD "absent", v_FIGURES, fgD "lost", v_FIGURES]
def formP : List Eg.D := [.tup ptC, .tup [.str (Os "small"), .str (Os "great")], fgD "yes", v_FIGURES, fgD "no", v_FIGURES, fgD "lost", v_FIGURES]
def formT : List Eg.D := [.tup tkC, fgD "yes", v_FIGURES, fgD "no", v_FIGURES, fgD "absent", v_FIGURES, fgD "lost", v_FIGURES]
def formS : St → List Eg.D
  | .read .. => formR
  | .put .. => formP
  | .take .. => formT
  | .forget _ => [v_FIGURES]
  | .fin _ => [v_ENDS]
def hdS : St → Str
  | .read .. => Os "read"
  | .put .. => Os "put"
  | .take .. => Os "take"
  | .forget _ => Os "forget"
  | .fin _ => Os "end"
theorem form_of (n : Nat) (s : St) : callN tab (n + 1) 8 [(false, .str (hdS s))] = .ok true (.lst (formS s)) [(false, .str (hdS s))] := by
  cases s <;> kernel_rfl
def chk : List Eg.D → List Str → Prop
  | [], [] => True
  | y :: f, w :: ws => cmpD .notIn (.str w) y = some false ∧ chk f ws
  | _, _ => False
theorem chk_at : ∀ {f : List Eg.D} {ws : List Str} {i : Nat} {y : Eg.D}, chk f ws → f[i]? = some y → ∃ w, ws[i]? = some w ∧ cmpD .notIn (.str w) y = some false
  | [], [], i, y, _, h => by simp at h
  | [], _ :: _, i, y, h, _ => h.elim
  | _ :: _, [], i, y, h, _ => h.elim
  | z :: f, w :: ws, 0, y, h, e => by
    simp at e
    subst e
    exact ⟨w, rfl, h.1⟩
  | z :: f, w :: ws, i + 1, y, h, e => by
    obtain ⟨v, e1, e2⟩ := chk_at (f := f) (ws := ws) (i := i) h.2 (by simpa using e)
    exact ⟨v, by simpa using e1, e2⟩
theorem chk_len : ∀ {f : List Eg.D} {ws : List Str}, chk f ws → f.length = ws.length
  | [], [], _ => rfl
  | [], _ :: _, h => h.elim
  | _ :: _, [], h => h.elim
  | _ :: f, _ :: ws, h => by simp [chk_len (f := f) (ws := ws) h.2]
theorem in_rd (k : Cd) (h : Kd.may .read k = true) : cmpD .notIn (.str (Os k.s)) (.tup rdC) = some false := by
  cases k <;> first | (exfalso; revert h; simp [Kd.may]; done) | kernel_rfl
theorem in_pt (k : Cd) (h : Kd.may .put k = true) : cmpD .notIn (.str (Os k.s)) (.tup ptC) = some false := by
  cases k <;> first | (exfalso; revert h; simp [Kd.may]; done) | kernel_rfl
theorem in_tk (k : Cd) (h : Kd.may .take k = true) : cmpD .notIn (.str (Os k.s)) (.tup tkC) = some false := by
  cases k <;> first | (exfalso; revert h; simp [Kd.may]; done) | kernel_rfl
theorem in_sz (g : Bool) : cmpD .notIn (.str (Os (sizeS g))) (.tup [.str (Os "small"), .str (Os "great")]) = some false := by cases g <;> kernel_rfl
theorem in_en (w : En) : cmpD .notIn (.str (Os w.s)) v_ENDS = some false := by cases w <;> kernel_rfl
theorem f_got : cmpD .notIn (.str (Os "got")) (fgD "got") = some false := by kernel_rfl
theorem f_mine : cmpD .notIn (.str (Os "mine")) (fgD "mine") = some false := by kernel_rfl
theorem f_unch : cmpD .notIn (.str (Os "unchanged")) (fgD "unchanged") = some false := by kernel_rfl
theorem f_abs : cmpD .notIn (.str (Os "absent")) (fgD "absent") = some false := by kernel_rfl
theorem f_lost : cmpD .notIn (.str (Os "lost")) (fgD "lost") = some false := by kernel_rfl
theorem f_yes : cmpD .notIn (.str (Os "yes")) (fgD "yes") = some false := by kernel_rfl
theorem f_no : cmpD .notIn (.str (Os "no")) (fgD "no") = some false := by kernel_rfl
theorem wds_chk {s : St} {m : Nat} (h : s.ok m) (hm : m ≤ 8) : ∃ t, wds s = hdS s :: t ∧ chk (formS s) t := by
  cases s with
  | read k a b c d e =>
    obtain ⟨h0, h1, h2, h3, h4, h5⟩ := h
    exact ⟨_, rfl, in_rd k h0, f_got, fig_num h1 hm, f_mine, fig_num h2 hm, f_unch, fig_num h3 hm, f_abs, fig_num h4 hm, f_lost, fig_num h5 hm, trivial⟩
  | put k g a b c =>
    obtain ⟨h0, h1, h2, h3⟩ := h
    exact ⟨_, rfl, in_pt k h0, in_sz g, f_yes, fig_num h1 hm, f_no, fig_num h2 hm, f_lost, fig_num h3 hm, trivial⟩
  | take k a b c d =>
    obtain ⟨h0, h1, h2, h3, h4⟩ := h
    exact ⟨_, rfl, in_tk k h0, f_yes, fig_num h1 hm, f_no, fig_num h2 hm, f_abs, fig_num h3 hm, f_lost, fig_num h4 hm, trivial⟩
  | forget a => exact ⟨_, rfl, fig_num h hm, trivial⟩
  | fin w => exact ⟨_, rfl, in_en w, trivial⟩
def wlD (s : St) : Eg.D := .lst ((wds s).map Eg.D.str)
theorem wl_len (s : St) : bltD .len [wlD s] = some (false, .int (wds s).length) := by
  show some (false, Eg.D.int (((wds s).map Eg.D.str).length : Nat)) = _
  rw [List.length_map]
theorem wl_ix {s : St} {i : Nat} {w : Str} (h : (wds s)[i]? = some w) : idxD (wlD s) (.int (i : Int)) = some (.str w) := by
  refine ix_nat ?_
  rw [List.getElem?_map, h]
  rfl
theorem wl_0 (s : St) : idxD (wlD s) (.int 0) = some (.str (hdS s)) := wl_ix (i := 0) (by cases s <;> rfl)
theorem hd_nin (s : St) : (cmpD .notIn (.str (hdS s)) v_CONDITIONS = some false) ∨ (cmpD .notIn (.str (hdS s)) v_CONDITIONS = some true ∧ cmpD .notIn (.str (hdS s)) (.tup [v_END, v_FORGET]) = some false) := by
  cases s with
  | read => exact .inl cn_r
  | put => exact .inl cn_p
  | take => exact .inl cn_t
  | forget => exact .inr ⟨by kernel_rfl, by kernel_rfl⟩
  | fin => exact .inr ⟨by kernel_rfl, by kernel_rfl⟩
abbrev bSi : CS := b_step_in
theorem si_head (n : Nat) (s : St) (m : Nat) (h : s.ok m) (hm : m ≤ 8) (l : Int) : ∃ x3 x4, okS x3 = true ∧ okS x4 = true ∧
    Eg.run (callN tab (n + 1)) bSi [some (.sh, .int l), some (.sh, wlD s), none, none, none, none, none] = Eg.run (callN tab (n + 1)) (.cons (nthS bSi 4) (.cons (nthS bSi 5) (.cons (nthS bSi 6) (.cons (nthS bSi 7) .nil)))) [some (.sh, .int l), some (.sh, wlD s), some (.sh, .lst (formS s)), x3, x4, none, none] := by
  obtain ⟨t, ht, hc⟩ := wds_chk h hm
  have hl := chk_len hc
  have hw : (wds s).length = (formS s).length + 1 := by rw [ht, List.length_cons, hl]
  have fo := form_of n s
  have w0 := wl_0 s
  have s0 : Eg.run (callN tab (n + 1)) (nthS bSi 0) [some (.sh, .int l), some (.sh, wlD s), none, none, none, none, none] = .nx [some (.sh, .int l), some (.sh, wlD s), none, none, none, none, none] := by
    simp only [nthS, bSi, b_step_in]
    rcases hd_nin s with e | ⟨e1, e2⟩
    · simp -dsimp -implicitDefEqProofs [Eg.run, ev, evL, evB, evA, evI, evO, evF, startR, two_late, two_none, CE.late, CE.isNil, peek_0, peek_s, slot_0, slot_s, unown_0, unown_s, Fl.shared, st_n, st_h, st_w, store_s, nxO, lift_some, fin_val, fin_bor, fin_tst, Eg.tru_ok, truth_bl, truth_int, subOf, Eg.eq_int, eq_str, ne_str, ne_int, eq_bl, outsOf, Fl.own, small, sizeLine, isT, ↓loopC_P, ↓loopF_P, loopCP_nil, loopCP_cons, loopFP_nil, loopFP_cons, ↓bind_P, ↓stm_P, ↓then_P, bindP_ok, stmP_ok, thenP_nx, thenP_rt, calm_ok, oneOf_1, oneOf_2, storeL, storeF, put_one, put_many_, blt_int_b, blt_int_i, blt_len_l, blt_len_t, blt_min, bin_add, bin_sub, Eg.cmp_gt, cmp_ge, cmp_lt, cmp_le, ix_l0, ixt0, ixt1, ixt2, ixt3, ixt4, ixt5, ixt6, ixl1, ixl2, mayWipe, restore, zipD, itemsD, callA, callB, fl_f, fl_lst, fl_dk, fl_ins, fl_tp, argD, djA, back, lentOf, D.isNon, isMu, muTy, putI_w, putI_b, putI_s, pairD_2, in_str, nin_str, anyEq_nil, anyEq_str, bin_addT, fld_1, w0, e]
    · simp -dsimp -implicitDefEqProofs [Eg.run, ev, evL, evB, evA, evI, evO, evF, startR, two_late, two_none, CE.late, CE.isNil, peek_0, peek_s, slot_0, slot_s, unown_0, unown_s, Fl.shared, st_n, st_h, st_w, store_s, nxO, lift_some, fin_val, fin_bor, fin_tst, Eg.tru_ok, truth_bl, truth_int, subOf, Eg.eq_int, eq_str, ne_str, ne_int, eq_bl, outsOf, Fl.own, small, sizeLine, isT, ↓loopC_P, ↓loopF_P, loopCP_nil, loopCP_cons, loopFP_nil, loopFP_cons, ↓bind_P, ↓stm_P, ↓then_P, bindP_ok, stmP_ok, thenP_nx, thenP_rt, calm_ok, oneOf_1, oneOf_2, storeL, storeF, put_one, put_many_, blt_int_b, blt_int_i, blt_len_l, blt_len_t, blt_min, bin_add, bin_sub, Eg.cmp_gt, cmp_ge, cmp_lt, cmp_le, ix_l0, ixt0, ixt1, ixt2, ixt3, ixt4, ixt5, ixt6, ixl1, ixl2, mayWipe, restore, zipD, itemsD, callA, callB, fl_f, fl_lst, fl_dk, fl_ins, fl_tp, argD, djA, back, lentOf, D.isNon, isMu, muTy, putI_w, putI_b, putI_s, pairD_2, in_str, nin_str, anyEq_nil, anyEq_str, bin_addT, fld_1, w0, e1, e2]
  have s1 : Eg.run (callN tab (n + 1)) (nthS bSi 1) [some (.sh, .int l), some (.sh, wlD s), none, none, none, none, none] = .nx [some (.sh, .int l), some (.sh, wlD s), some (.ow, .lst (formS s)), none, none, none, none] := by
    simp only [nthS, bSi, b_step_in]
    simp -dsimp -implicitDefEqProofs [Eg.run, ev, evL, evB, evA, evI, evO, evF, startR, two_late, two_none, CE.late, CE.isNil, peek_0, peek_s, slot_0, slot_s, unown_0, unown_s, Fl.shared, st_n, st_h, st_w, store_s, nxO, lift_some, fin_val, fin_bor, fin_tst, Eg.tru_ok, truth_bl, truth_int, subOf, Eg.eq_int, eq_str, ne_str, ne_int, eq_bl, outsOf, Fl.own, small, sizeLine, isT, ↓loopC_P, ↓loopF_P, loopCP_nil, loopCP_cons, loopFP_nil, loopFP_cons, ↓bind_P, ↓stm_P, ↓then_P, bindP_ok, stmP_ok, thenP_nx, thenP_rt, calm_ok, oneOf_1, oneOf_2, storeL, storeF, put_one, put_many_, blt_int_b, blt_int_i, blt_len_l, blt_len_t, blt_min, bin_add, bin_sub, Eg.cmp_gt, cmp_ge, cmp_lt, cmp_le, ix_l0, ixt0, ixt1, ixt2, ixt3, ixt4, ixt5, ixt6, ixl1, ixl2, mayWipe, restore, zipD, itemsD, callA, callB, fl_f, fl_lst, fl_dk, fl_ins, fl_tp, argD, djA, back, lentOf, D.isNon, isMu, muTy, putI_w, putI_b, putI_s, pairD_2, in_str, nin_str, anyEq_nil, anyEq_str, bin_addT, fld_1, w0, fo]
  have s2 : ∃ x3 x4, okS x3 = true ∧ okS x4 = true ∧ Eg.run (callN tab (n + 1)) (nthS bSi 2) [some (.sh, .int l), some (.sh, wlD s), some (.ow, .lst (formS s)), none, none, none, none] = .nx [some (.sh, .int l), some (.sh, wlD s), some (.sh, .lst (formS s)), x3, x4, none, none] := by
    have eI : evI (callN tab (n + 1)) (.enum (.var 2)) [some (.sh, .int l), some (.sh, wlD s), some (.ow, .lst (formS s)), none, none, none, none] = .ok (enumD 0 (formS s)) [some (.sh, .int l), some (.sh, wlD s), some (.sh, .lst (formS s)), none, none, none, none] := by rfl
    have e0 : Eg.run (callN tab (n + 1)) (nthS bSi 2) [some (.sh, .int l), some (.sh, wlD s), some (.ow, .lst (formS s)), none, none, none, none] = Eg.run (callN tab (n + 1)) (.fors [3, 4] (.enum (.var 2)) (bodyS (nthS bSi 2))) [some (.sh, .int l), some (.sh, wlD s), some (.ow, .lst (formS s)), none, none, none, none] := run_forsE_ow (tg := [3, 4]) (i := 2) (b := bodyS (nthS bSi 2)) (d := .lst (formS s)) rfl
    have e := run_fors (tg := [3, 4]) (b := bodyS (nthS bSi 2)) eI
    obtain ⟨r', e2, x3, x4, k3, k4, hr⟩ := loopF_all (tg := oneOf [3, 4]) (fb := Eg.run (callN tab (n + 1)) (bodyS (nthS bSi 2))) (I := fun r => ∃ x3 x4, okS x3 = true ∧ okS x4 = true ∧ r = [some (.sh, .int l), some (.sh, wlD s), some (.sh, .lst (formS s)), x3, x4, none, none]) (enumD 0 (formS s)) _ ⟨none, none, rfl, rfl, rfl⟩ (fun x hx r hr => by
      obtain ⟨j, hj⟩ := List.getElem?_of_mem hx
      obtain ⟨y, hy, rfl⟩ := enumD_get hj
      rw [Nat.zero_add] at *
      obtain ⟨x3, x4, h3, h4, rfl⟩ := hr
      obtain ⟨w, hw1, hw2⟩ := chk_at hc hy
      have hjl : j < (formS s).length := (List.getElem?_eq_some_iff.mp hy).1
      have wi := wl_ix (s := s) (i := j + 1) (w := w) (by rw [ht]; simpa using hw1)
      have wi : idxD (wlD s) (.int ((j : Int) + 1)) = some (.str w) := by simpa using wi
      have wl := wl_len s
      rw [hw] at wl
      have ge : ¬ (((formS s).length + 1 : Nat) : Int) ≤ (j : Int) + 1 := by omega
      refine ⟨[some (.sh, .int l), some (.sh, wlD s), some (.sh, .lst (formS s)), some (.sh, .int j), some (.sh, y), none, none], [some (.sh, .int l), some (.sh, wlD s), some (.sh, .lst (formS s)), some (.sh, .int j), some (.sh, y), none, none], ?_, ?_, _, _, rfl, rfl, rfl⟩
      · show Tg.put _ (.many [3, 4]) _ = _
        rw [put_many_]
        simp only [storeL, store_s, store_0 h3, store_0 h4, Option.map_some]
        rfl
      · simp only [nthS, bodyS, bSi, b_step_in]
        generalize (((formS s).length + 1 : Nat) : Int) = N at wl ge
        simp -dsimp -implicitDefEqProofs [Eg.run, ev, evL, evB, evA, evI, evO, evF, startR, two_late, two_none, CE.late, CE.isNil, peek_0, peek_s, slot_0, slot_s, unown_0, unown_s, Fl.shared, st_n, st_h, st_w, store_s, nxO, lift_some, fin_val, fin_bor, fin_tst, Eg.tru_ok, truth_bl, truth_int, subOf, Eg.eq_int, eq_str, ne_str, ne_int, eq_bl, outsOf, Fl.own, small, sizeLine, isT, ↓loopC_P, ↓loopF_P, loopCP_nil, loopCP_cons, loopFP_nil, loopFP_cons, ↓bind_P, ↓stm_P, ↓then_P, bindP_ok, stmP_ok, thenP_nx, thenP_rt, calm_ok, oneOf_1, oneOf_2, storeL, storeF, put_one, put_many_, blt_int_b, blt_int_i, blt_len_l, blt_len_t, blt_min, bin_add, bin_sub, Eg.cmp_gt, cmp_ge, cmp_lt, cmp_le, ix_l0, ixt0, ixt1, ixt2, ixt3, ixt4, ixt5, ixt6, ixl1, ixl2, mayWipe, restore, zipD, itemsD, callA, callB, fl_f, fl_lst, fl_dk, fl_ins, fl_tp, argD, djA, back, lentOf, D.isNon, isMu, muTy, putI_w, putI_b, putI_s, pairD_2, in_str, nin_str, anyEq_nil, anyEq_str, bin_addT, fld_1, wl, ge, wi, hw2])
    subst hr
    exact ⟨x3, x4, k3, k4, by rw [e0, e, e2]⟩
  obtain ⟨x3, x4, k3, k4, s2⟩ := s2
  have s3 : Eg.run (callN tab (n + 1)) (nthS bSi 3) [some (.sh, .int l), some (.sh, wlD s), some (.sh, .lst (formS s)), x3, x4, none, none] = .nx [some (.sh, .int l), some (.sh, wlD s), some (.sh, .lst (formS s)), x3, x4, none, none] := by
    have wl := wl_len s
    rw [hw] at wl
    have fl : bltD .len [.lst (formS s)] = some (false, .int (formS s).length) := rfl
    have gt : ¬ ((formS s).length : Int) + 1 < (((formS s).length + 1 : Nat) : Int) := by omega
    simp only [nthS, bSi, b_step_in]
    generalize (((formS s).length + 1 : Nat) : Int) = N at wl gt
    generalize ((formS s).length : Int) = M at fl gt
    simp -dsimp -implicitDefEqProofs [Eg.run, ev, evL, evB, evA, evI, evO, evF, startR, two_late, two_none, CE.late, CE.isNil, peek_0, peek_s, slot_0, slot_s, unown_0, unown_s, Fl.shared, st_n, st_h, st_w, store_s, nxO, lift_some, fin_val, fin_bor, fin_tst, Eg.tru_ok, truth_bl, truth_int, subOf, Eg.eq_int, eq_str, ne_str, ne_int, eq_bl, outsOf, Fl.own, small, sizeLine, isT, ↓loopC_P, ↓loopF_P, loopCP_nil, loopCP_cons, loopFP_nil, loopFP_cons, ↓bind_P, ↓stm_P, ↓then_P, bindP_ok, stmP_ok, thenP_nx, thenP_rt, calm_ok, oneOf_1, oneOf_2, storeL, storeF, put_one, put_many_, blt_int_b, blt_int_i, blt_len_l, blt_len_t, blt_min, bin_add, bin_sub, Eg.cmp_gt, cmp_ge, cmp_lt, cmp_le, ix_l0, ixt0, ixt1, ixt2, ixt3, ixt4, ixt5, ixt6, ixl1, ixl2, mayWipe, restore, zipD, itemsD, callA, callB, fl_f, fl_lst, fl_dk, fl_ins, fl_tp, argD, djA, back, lentOf, D.isNon, isMu, muTy, putI_w, putI_b, putI_s, pairD_2, in_str, nin_str, anyEq_nil, anyEq_str, bin_addT, fld_1, wl, ↓fl, gt]
  refine ⟨x3, x4, k3, k4, ?_⟩
  show (Eg.run (callN tab (n + 1)) (nthS bSi 0) _).then (fun r => (Eg.run (callN tab (n + 1)) (nthS bSi 1) r).then fun r => (Eg.run (callN tab (n + 1)) (nthS bSi 2) r).then fun r => (Eg.run (callN tab (n + 1)) (nthS bSi 3) r).then fun r => Eg.run (callN tab (n + 1)) (.cons (nthS bSi 4) (.cons (nthS bSi 5) (.cons (nthS bSi 6) (.cons (nthS bSi 7) .nil)))) r) = _
  rw [s0, then_nx, s1, then_nx, s2, then_nx, s3, then_nx]
end Law
namespace Law
open PySem Eg
theorem fl_sc0 (ss : List St) : flatR true (scD ss) = (true, scD ss) := rfl
theorem tpL (xs : List Eg.D) : bltD .tuple [.lst xs] = some (false, .tup xs) := rfl
theorem step_in (n : Nat) (s : St) (m : Nat) (h : s.ok m) (hm : m ≤ 8) (l : Int) : callN tab (n + 2) 9 [(false, .int l), (false, wlD s)] = .ok false s.d [(false, .int l), (false, wlD s)] := by
  obtain ⟨x3, x4, k3, k4, e⟩ := si_head n s m h hm l
  show callFn (callN tab (n + 1)) f_step_in [_, _] = _
  have w0 := wl_0 s
  have fin : ∀ (r : Rho), Eg.run (callN tab (n + 1)) (.cons (nthS bSi 4) (.cons (nthS bSi 5) (.cons (nthS bSi 6) (.cons (nthS bSi 7) .nil)))) [some (.sh, .int l), some (.sh, wlD s), some (.sh, .lst (formS s)), x3, x4, none, none] = .rt false s.d r → outsOf 2 r = [(false, .int l), (false, wlD s)] → callFn (callN tab (n + 1)) f_step_in [(false, .int l), (false, wlD s)] = .ok false s.d [(false, .int l), (false, wlD s)] := by
    intro r e2 ho
    refine (callFn_rt (cl := callN tab (n + 1)) (f := f_step_in) (as := [(false, .int l), (false, wlD s)]) (r := r) rfl (e.trans e2)).trans ?_
    show COut.ok false s.d (outsOf 2 r) = _
    rw [ho]
  cases s with
  | read k a b c d e' =>
    obtain ⟨h0, h1, h2, h3, h4, h5⟩ := h
    have sl : slcD (wlD (.read k a b c d e')) none (some 2) = some (true, .lst [.str (Os "read"), .str (Os k.s)]) := by rfl
    have s2 : slc2D (wlD (.read k a b c d e')) (some 3) = some (true, .lst [.str (numS a), .str (numS b), .str (numS c), .str (numS d), .str (numS e')]) := by kernel_rfl
    have q1 : cmpD .eq (.str (Os "read")) v_END = some false := by kernel_rfl
    have q2 : cmpD .eq (.str (Os "read")) v_FORGET = some false := by kernel_rfl
    have q3 : cmpD .eq (.str (Os "read")) v_PUT = some false := by kernel_rfl
    simp only [hdS] at w0
    refine fin [some (.sh, .int l), some (.sh, wlD (.read k a b c d e')), some (.sh, .lst (formS (.read k a b c d e'))), x3, x4, some (.sh, .int 2), none] ?_ rfl
    simp only [nthS, bSi, b_step_in]
    generalize formS (.read k a b c d e') = F
    simp -dsimp -implicitDefEqProofs [Eg.run, ev, evL, evB, evA, evI, evO, evF, startR, two_late, two_none, CE.late, CE.isNil, peek_0, peek_s, slot_0, slot_s, unown_0, unown_s, Fl.shared, st_n, st_h, st_w, store_s, nxO, lift_some, fin_val, fin_bor, fin_tst, Eg.tru_ok, truth_bl, truth_int, subOf, Eg.eq_int, eq_str, ne_str, ne_int, eq_bl, outsOf, Fl.own, small, sizeLine, isT, ↓loopC_P, ↓loopF_P, loopCP_nil, loopCP_cons, loopFP_nil, loopFP_cons, ↓bind_P, ↓stm_P, ↓then_P, bindP_ok, stmP_ok, thenP_nx, thenP_rt, calm_ok, oneOf_1, oneOf_2, storeL, storeF, put_one, put_many_, blt_int_b, blt_int_i, blt_len_l, blt_len_t, blt_min, bin_add, bin_sub, Eg.cmp_gt, cmp_ge, cmp_lt, cmp_le, ix_l0, ixt0, ixt1, ixt2, ixt3, ixt4, ixt5, ixt6, ixl1, ixl2, mayWipe, restore, zipD, itemsD, callA, callB, fl_f, fl_lst, fl_dk, fl_ins, fl_tp, argD, djA, back, lentOf, D.isNon, isMu, muTy, putI_w, putI_b, putI_s, pairD_2, in_str, nin_str, anyEq_nil, anyEq_str, bin_addT, fld_1, w0, q1, q2, q3, sl, s2, int_numS h1 hm, int_numS h2 hm, int_numS h3 hm, int_numS h4 hm, int_numS h5 hm, ↓add25, tpL, St.d]
  | put k g a b c =>
    obtain ⟨h0, h1, h2, h3⟩ := h
    have sl : slcD (wlD (.put k g a b c)) none (some 3) = some (true, .lst [.str (Os "put"), .str (Os k.s), .str (Os (sizeS g))]) := by rfl
    have s2 : slc2D (wlD (.put k g a b c)) (some 4) = some (true, .lst [.str (numS a), .str (numS b), .str (numS c)]) := by kernel_rfl
    have q1 : cmpD .eq (.str (Os "put")) v_END = some false := by kernel_rfl
    have q2 : cmpD .eq (.str (Os "put")) v_FORGET = some false := by kernel_rfl
    have q3 : cmpD .eq (.str (Os "put")) v_PUT = some true := by kernel_rfl
    simp only [hdS] at w0
    refine fin [some (.sh, .int l), some (.sh, wlD (.put k g a b c)), some (.sh, .lst (formS (.put k g a b c))), x3, x4, some (.sh, .int 3), none] ?_ rfl
    simp only [nthS, bSi, b_step_in]
    generalize formS (.put k g a b c) = F
    simp -dsimp -implicitDefEqProofs [Eg.run, ev, evL, evB, evA, evI, evO, evF, startR, two_late, two_none, CE.late, CE.isNil, peek_0, peek_s, slot_0, slot_s, unown_0, unown_s, Fl.shared, st_n, st_h, st_w, store_s, nxO, lift_some, fin_val, fin_bor, fin_tst, Eg.tru_ok, truth_bl, truth_int, subOf, Eg.eq_int, eq_str, ne_str, ne_int, eq_bl, outsOf, Fl.own, small, sizeLine, isT, ↓loopC_P, ↓loopF_P, loopCP_nil, loopCP_cons, loopFP_nil, loopFP_cons, ↓bind_P, ↓stm_P, ↓then_P, bindP_ok, stmP_ok, thenP_nx, thenP_rt, calm_ok, oneOf_1, oneOf_2, storeL, storeF, put_one, put_many_, blt_int_b, blt_int_i, blt_len_l, blt_len_t, blt_min, bin_add, bin_sub, Eg.cmp_gt, cmp_ge, cmp_lt, cmp_le, ix_l0, ixt0, ixt1, ixt2, ixt3, ixt4, ixt5, ixt6, ixl1, ixl2, mayWipe, restore, zipD, itemsD, callA, callB, fl_f, fl_lst, fl_dk, fl_ins, fl_tp, argD, djA, back, lentOf, D.isNon, isMu, muTy, putI_w, putI_b, putI_s, pairD_2, in_str, nin_str, anyEq_nil, anyEq_str, bin_addT, fld_1, w0, q1, q2, q3, sl, s2, int_numS h1 hm, int_numS h2 hm, int_numS h3 hm, ↓add33, tpL, St.d]
  | take k a b c d =>
    obtain ⟨h0, h1, h2, h3, h4⟩ := h
    have sl : slcD (wlD (.take k a b c d)) none (some 2) = some (true, .lst [.str (Os "take"), .str (Os k.s)]) := by rfl
    have s2 : slc2D (wlD (.take k a b c d)) (some 3) = some (true, .lst [.str (numS a), .str (numS b), .str (numS c), .str (numS d)]) := by kernel_rfl
    have q1 : cmpD .eq (.str (Os "take")) v_END = some false := by kernel_rfl
    have q2 : cmpD .eq (.str (Os "take")) v_FORGET = some false := by kernel_rfl
    have q3 : cmpD .eq (.str (Os "take")) v_PUT = some false := by kernel_rfl
    simp only [hdS] at w0
    refine fin [some (.sh, .int l), some (.sh, wlD (.take k a b c d)), some (.sh, .lst (formS (.take k a b c d))), x3, x4, some (.sh, .int 2), none] ?_ rfl
    simp only [nthS, bSi, b_step_in]
    generalize formS (.take k a b c d) = F
    simp -dsimp -implicitDefEqProofs [Eg.run, ev, evL, evB, evA, evI, evO, evF, startR, two_late, two_none, CE.late, CE.isNil, peek_0, peek_s, slot_0, slot_s, unown_0, unown_s, Fl.shared, st_n, st_h, st_w, store_s, nxO, lift_some, fin_val, fin_bor, fin_tst, Eg.tru_ok, truth_bl, truth_int, subOf, Eg.eq_int, eq_str, ne_str, ne_int, eq_bl, outsOf, Fl.own, small, sizeLine, isT, ↓loopC_P, ↓loopF_P, loopCP_nil, loopCP_cons, loopFP_nil, loopFP_cons, ↓bind_P, ↓stm_P, ↓then_P, bindP_ok, stmP_ok, thenP_nx, thenP_rt, calm_ok, oneOf_1, oneOf_2, storeL, storeF, put_one, put_many_, blt_int_b, blt_int_i, blt_len_l, blt_len_t, blt_min, bin_add, bin_sub, Eg.cmp_gt, cmp_ge, cmp_lt, cmp_le, ix_l0, ixt0, ixt1, ixt2, ixt3, ixt4, ixt5, ixt6, ixl1, ixl2, mayWipe, restore, zipD, itemsD, callA, callB, fl_f, fl_lst, fl_dk, fl_ins, fl_tp, argD, djA, back, lentOf, D.isNon, isMu, muTy, putI_w, putI_b, putI_s, pairD_2, in_str, nin_str, anyEq_nil, anyEq_str, bin_addT, fld_1, w0, q1, q2, q3, sl, s2, int_numS h1 hm, int_numS h2 hm, int_numS h3 hm, int_numS h4 hm, ↓add24, tpL, St.d]
  | forget a =>
    have i1 : idxD (wlD (.forget a)) (.int 1) = some (.str (numS a)) := wl_ix (i := 1) rfl
    have q1 : cmpD .eq (.str (Os "forget")) v_END = some false := by kernel_rfl
    have q2 : cmpD .eq (.str (Os "forget")) v_FORGET = some true := by kernel_rfl
    simp only [hdS] at w0
    refine fin [some (.sh, .int l), some (.sh, wlD (.forget a)), some (.sh, .lst (formS (.forget a))), x3, x4, none, none] ?_ rfl
    simp only [nthS, bSi, b_step_in]
    generalize formS (.forget a) = F
    simp -dsimp -implicitDefEqProofs [Eg.run, ev, evL, evB, evA, evI, evO, evF, startR, two_late, two_none, CE.late, CE.isNil, peek_0, peek_s, slot_0, slot_s, unown_0, unown_s, Fl.shared, st_n, st_h, st_w, store_s, nxO, lift_some, fin_val, fin_bor, fin_tst, Eg.tru_ok, truth_bl, truth_int, subOf, Eg.eq_int, eq_str, ne_str, ne_int, eq_bl, outsOf, Fl.own, small, sizeLine, isT, ↓loopC_P, ↓loopF_P, loopCP_nil, loopCP_cons, loopFP_nil, loopFP_cons, ↓bind_P, ↓stm_P, ↓then_P, bindP_ok, stmP_ok, thenP_nx, thenP_rt, calm_ok, oneOf_1, oneOf_2, storeL, storeF, put_one, put_many_, blt_int_b, blt_int_i, blt_len_l, blt_len_t, blt_min, bin_add, bin_sub, Eg.cmp_gt, cmp_ge, cmp_lt, cmp_le, ix_l0, ixt0, ixt1, ixt2, ixt3, ixt4, ixt5, ixt6, ixl1, ixl2, mayWipe, restore, zipD, itemsD, callA, callB, fl_f, fl_lst, fl_dk, fl_ins, fl_tp, argD, djA, back, lentOf, D.isNon, isMu, muTy, putI_w, putI_b, putI_s, pairD_2, in_str, nin_str, anyEq_nil, anyEq_str, bin_addT, fld_1, w0, i1, q1, q2, int_numS h hm, v_FORGET, St.d]
  | fin w =>
    have i1 : idxD (wlD (.fin w)) (.int 1) = some (.str (Os w.s)) := wl_ix (i := 1) rfl
    have q1 : cmpD .eq (.str (Os "end")) v_END = some true := by kernel_rfl
    simp only [hdS] at w0
    refine fin [some (.sh, .int l), some (.sh, wlD (.fin w)), some (.sh, .lst (formS (.fin w))), x3, x4, none, none] ?_ rfl
    simp only [nthS, bSi, b_step_in]
    generalize formS (.fin w) = F
    simp -dsimp -implicitDefEqProofs [Eg.run, ev, evL, evB, evA, evI, evO, evF, startR, two_late, two_none, CE.late, CE.isNil, peek_0, peek_s, slot_0, slot_s, unown_0, unown_s, Fl.shared, st_n, st_h, st_w, store_s, nxO, lift_some, fin_val, fin_bor, fin_tst, Eg.tru_ok, truth_bl, truth_int, subOf, Eg.eq_int, eq_str, ne_str, ne_int, eq_bl, outsOf, Fl.own, small, sizeLine, isT, ↓loopC_P, ↓loopF_P, loopCP_nil, loopCP_cons, loopFP_nil, loopFP_cons, ↓bind_P, ↓stm_P, ↓then_P, bindP_ok, stmP_ok, thenP_nx, thenP_rt, calm_ok, oneOf_1, oneOf_2, storeL, storeF, put_one, put_many_, blt_int_b, blt_int_i, blt_len_l, blt_len_t, blt_min, bin_add, bin_sub, Eg.cmp_gt, cmp_ge, cmp_lt, cmp_le, ix_l0, ixt0, ixt1, ixt2, ixt3, ixt4, ixt5, ixt6, ixl1, ixl2, mayWipe, restore, zipD, itemsD, callA, callB, fl_f, fl_lst, fl_dk, fl_ins, fl_tp, argD, djA, back, lentOf, D.isNon, isMu, muTy, putI_w, putI_b, putI_s, pairD_2, in_str, nin_str, anyEq_nil, anyEq_str, bin_addT, fld_1, w0, i1, q1, v_END, St.d]
theorem enum_zip (f : St → Eg.D) : ∀ (ss : List St) (k : Nat), enumD k (ss.map f) = (ss.zipIdx k).map fun p => Eg.D.tup [.int (p.2 : Nat), f p.1]
  | [], k => rfl
  | s :: ss, k => by
    simp only [List.map_cons, enumD, List.zipIdx_cons, enum_zip f ss (k + 1)]
theorem zip_fst : ∀ (ss : List St) (k : Nat), ((ss.zipIdx k).map fun p => p.1.d) = ss.map St.d
  | [], k => rfl
  | s :: ss, k => by
    simp only [List.map_cons, List.zipIdx_cons, zip_fst ss (k + 1)]
theorem zip_mem {p : St × Nat} : ∀ {ss : List St} {k : Nat}, p ∈ ss.zipIdx k → p.1 ∈ ss
  | [], k, h => by simp at h
  | s :: ss, k, h => by
    rw [List.zipIdx_cons] at h
    rcases List.mem_cons.mp h with rfl | h
    · exact List.mem_cons_self
    · exact List.mem_cons_of_mem _ (zip_mem h)
abbrev bRs : CS := b_read_script
theorem read_script (n : Nat) (ss : List St) (h : Row ss) : callN tab (n + 5) 10 [(false, .str (textS ss))] = .ok true (scD ss) [(false, .str (textS ss))] := by
  have h0 := h.l0
  have h8 := h.l8
  have li := lines_in (n + 3) (textS ss) (ss.map lineS) (fun x => Txt.split x (Os " ")) (by have := text_len h; omega) (text_split h) (by simp; omega) fun x hx => ⟨by have := (lines_gl h x hx).l; omega, rfl⟩
  have el : ((ss.map lineS).map fun l => Eg.D.lst ((Txt.split l (Os " ")).map Eg.D.str)) = ss.map wlD := by
    rw [List.map_map]
    refine List.map_congr_left fun s hs => ?_
    show Eg.D.lst ((Txt.split (lineS s) (Os " ")).map Eg.D.str) = wlD s
    rw [line_split (h.all s hs) h8]
    rfl
  rw [el] at li
  have s0 : Eg.run (callN tab (n + 4)) (nthS bRs 0) [some (.sh, .str (textS ss)), none, none, none, none] = .nx [some (.sh, .str (textS ss)), some (.ow, .lst (ss.map wlD)), none, none, none] := by
    generalize hX : ss.map wlD = X at li
    simp only [nthS, bRs, b_read_script]
    simp -dsimp -implicitDefEqProofs [Eg.run, ev, evL, evB, evA, evI, evO, evF, startR, two_late, two_none, CE.late, CE.isNil, peek_0, peek_s, slot_0, slot_s, unown_0, unown_s, Fl.shared, st_n, st_h, st_w, store_s, nxO, lift_some, fin_val, fin_bor, fin_tst, Eg.tru_ok, truth_bl, truth_int, subOf, Eg.eq_int, eq_str, ne_str, ne_int, eq_bl, outsOf, Fl.own, small, sizeLine, isT, ↓loopC_P, ↓loopF_P, loopCP_nil, loopCP_cons, loopFP_nil, loopFP_cons, ↓bind_P, ↓stm_P, ↓then_P, bindP_ok, stmP_ok, thenP_nx, thenP_rt, calm_ok, oneOf_1, oneOf_2, storeL, storeF, put_one, put_many_, blt_int_b, blt_int_i, blt_len_l, blt_len_t, blt_min, bin_add, bin_sub, Eg.cmp_gt, cmp_ge, cmp_lt, cmp_le, ix_l0, ixt0, ixt1, ixt2, ixt3, ixt4, ixt5, ixt6, ixl1, ixl2, mayWipe, restore, zipD, itemsD, callA, callB, fl_f, fl_lst, fl_dk, fl_ins, fl_tp, argD, djA, back, lentOf, D.isNon, isMu, muTy, putI_w, putI_b, putI_s, pairD_2, in_str, nin_str, anyEq_nil, anyEq_str, bin_addT, fld_1, li]
  have s1 : Eg.run (callN tab (n + 4)) (nthS bRs 1) [some (.sh, .str (textS ss)), some (.ow, .lst (ss.map wlD)), none, none, none] = .nx [some (.sh, .str (textS ss)), some (.sh, .lst (ss.map wlD)), some (.ow, slD ss), none, none] := by
    have cm : ev (callN tab (n + 4)) (.comp [("line", 3), ("words", 4)] [3, 4] (.enum (.slc (.var 1) .nil (.cons (.con "MOST_STEPS" v_MOST_STEPS) .nil))) .nil (.call 9 "step_in" (.cons (.var 3) (.cons (.var 4) .nil)))) .val [some (.sh, .str (textS ss)), some (.ow, .lst (ss.map wlD)), none, none, none] = .ok (true, .lst ((ss.zipIdx 0).map fun p => p.1.d)) [some (.sh, .str (textS ss)), some (.sh, .lst (ss.map wlD)), none, none, none] := by
      refine comp_map (α := St × Nat) (r0 := [some (.sh, .str (textS ss)), some (.sh, .lst (ss.map wlD)), none, none, none]) (I := fun r => ∃ x3 x4, okS x3 = true ∧ okS x4 = true ∧ r = [some (.sh, .str (textS ss)), some (.sh, .lst (ss.map wlD)), none, x3, x4]) (fun p => Eg.D.tup [.int (p.2 : Nat), wlD p.1]) (fun p => p.1.d) (ss.zipIdx 0) ?_ rfl (by simp; omega) ⟨none, none, rfl, rfl, rfl⟩ ?_ ?_
      · have cu : slcD (.lst (ss.map wlD)) none (some 8) = some (true, .lst (ss.map wlD)) := by
          show some (true, Eg.D.lst (cutD (ss.map wlD) none (some 8))) = _
          unfold cutD
          rw [show (8 : Int) = ((8 : Nat) : Int) from rfl, HT.sIx_nat, HT.sIx_none]
          rw [List.drop_zero, List.take_of_length_le (by simp; omega)]
        have e : ev (callN tab (n + 4)) (.slc (.var 1) .nil (.cons (.con "MOST_STEPS" v_MOST_STEPS) .nil)) .val [some (.sh, .str (textS ss)), some (.ow, .lst (ss.map wlD)), none, none, none] = .ok (true, .lst (ss.map wlD)) [some (.sh, .str (textS ss)), some (.sh, .lst (ss.map wlD)), none, none, none] := by
          generalize hX : ss.map wlD = X at cu
          simp -dsimp -implicitDefEqProofs [Eg.run, ev, evL, evB, evA, evI, evO, evF, startR, two_late, two_none, CE.late, CE.isNil, peek_0, peek_s, slot_0, slot_s, unown_0, unown_s, Fl.shared, st_n, st_h, st_w, store_s, nxO, lift_some, fin_val, fin_bor, fin_tst, Eg.tru_ok, truth_bl, truth_int, subOf, Eg.eq_int, eq_str, ne_str, ne_int, eq_bl, outsOf, Fl.own, small, sizeLine, isT, ↓loopC_P, ↓loopF_P, loopCP_nil, loopCP_cons, loopFP_nil, loopFP_cons, ↓bind_P, ↓stm_P, ↓then_P, bindP_ok, stmP_ok, thenP_nx, thenP_rt, calm_ok, oneOf_1, oneOf_2, storeL, storeF, put_one, put_many_, blt_int_b, blt_int_i, blt_len_l, blt_len_t, blt_min, bin_add, bin_sub, Eg.cmp_gt, cmp_ge, cmp_lt, cmp_le, ix_l0, ixt0, ixt1, ixt2, ixt3, ixt4, ixt5, ixt6, ixl1, ixl2, mayWipe, restore, zipD, itemsD, callA, callB, fl_f, fl_lst, fl_dk, fl_ins, fl_tp, argD, djA, back, lentOf, D.isNon, isMu, muTy, putI_w, putI_b, putI_s, pairD_2, in_str, nin_str, anyEq_nil, anyEq_str, bin_addT, fld_1, v_MOST_STEPS, cu]
        simp only [evI]
        rw [e, bind_ok]
        simp only
        rw [enum_zip]
      · intro p hp r hr
        obtain ⟨x3, x4, h3, h4, rfl⟩ := hr
        have si := step_in (n + 2) p.1 ss.length (h.all _ (zip_mem hp)) h8 p.2
        refine ⟨false, [some (.sh, .str (textS ss)), some (.sh, .lst (ss.map wlD)), none, some (.sh, .int (p.2 : Nat)), some (.sh, wlD p.1)], [some (.sh, .str (textS ss)), some (.sh, .lst (ss.map wlD)), none, some (.sh, .int (p.2 : Nat)), some (.sh, wlD p.1)], rfl, ?_, _, _, rfl, rfl, rfl⟩
        generalize ss.map wlD = X
        simp -dsimp -implicitDefEqProofs [Eg.run, ev, evL, evB, evA, evI, evO, evF, startR, two_late, two_none, CE.late, CE.isNil, peek_0, peek_s, slot_0, slot_s, unown_0, unown_s, Fl.shared, st_n, st_h, st_w, store_s, nxO, lift_some, fin_val, fin_bor, fin_tst, Eg.tru_ok, truth_bl, truth_int, subOf, Eg.eq_int, eq_str, ne_str, ne_int, eq_bl, outsOf, Fl.own, small, sizeLine, isT, ↓loopC_P, ↓loopF_P, loopCP_nil, loopCP_cons, loopFP_nil, loopFP_cons, ↓bind_P, ↓stm_P, ↓then_P, bindP_ok, stmP_ok, thenP_nx, thenP_rt, calm_ok, oneOf_1, oneOf_2, storeL, storeF, put_one, put_many_, blt_int_b, blt_int_i, blt_len_l, blt_len_t, blt_min, bin_add, bin_sub, Eg.cmp_gt, cmp_ge, cmp_lt, cmp_le, ix_l0, ixt0, ixt1, ixt2, ixt3, ixt4, ixt5, ixt6, ixl1, ixl2, mayWipe, restore, zipD, itemsD, callA, callB, fl_f, fl_lst, fl_dk, fl_ins, fl_tp, argD, djA, back, lentOf, D.isNon, isMu, muTy, putI_w, putI_b, putI_s, pairD_2, in_str, nin_str, anyEq_nil, anyEq_str, bin_addT, fld_1, si]
      · intro r' hr
        obtain ⟨x3, x4, h3, h4, rfl⟩ := hr
        rfl
    rw [zip_fst] at cm
    show (ev (callN tab (n + 4)) (.comp [("line", 3), ("words", 4)] [3, 4] (.enum (.slc (.var 1) .nil (.cons (.con "MOST_STEPS" v_MOST_STEPS) .nil))) .nil (.call 9 "step_in" (.cons (.var 3) (.cons (.var 4) .nil)))) .val _).stm _ = _
    rw [cm]
    rfl
  have s2 : Eg.run (callN tab (n + 4)) (nthS bRs 2) [some (.sh, .str (textS ss)), some (.sh, .lst (ss.map wlD)), some (.ow, slD ss), none, none] = .nx [some (.sh, .str (textS ss)), some (.sh, .lst (ss.map wlD)), some (.ow, slD ss), none, none] := by
    have fl : bltD .len [.lst (ss.map wlD)] = some (false, .int ss.length) := by
      show some (false, Eg.D.int ((ss.map wlD).length : Nat)) = _
      rw [List.length_map]
    have gt : ¬ (8 : Int) < ss.length := by omega
    generalize ss.map wlD = X at fl
    simp only [nthS, bRs, b_read_script]
    simp -dsimp -implicitDefEqProofs [Eg.run, ev, evL, evB, evA, evI, evO, evF, startR, two_late, two_none, CE.late, CE.isNil, peek_0, peek_s, slot_0, slot_s, unown_0, unown_s, Fl.shared, st_n, st_h, st_w, store_s, nxO, lift_some, fin_val, fin_bor, fin_tst, Eg.tru_ok, truth_bl, truth_int, subOf, Eg.eq_int, eq_str, ne_str, ne_int, eq_bl, outsOf, Fl.own, small, sizeLine, isT, ↓loopC_P, ↓loopF_P, loopCP_nil, loopCP_cons, loopFP_nil, loopFP_cons, ↓bind_P, ↓stm_P, ↓then_P, bindP_ok, stmP_ok, thenP_nx, thenP_rt, calm_ok, oneOf_1, oneOf_2, storeL, storeF, put_one, put_many_, blt_int_b, blt_int_i, blt_len_l, blt_len_t, blt_min, bin_add, bin_sub, Eg.cmp_gt, cmp_ge, cmp_lt, cmp_le, ix_l0, ixt0, ixt1, ixt2, ixt3, ixt4, ixt5, ixt6, ixl1, ixl2, mayWipe, restore, zipD, itemsD, callA, callB, fl_f, fl_lst, fl_dk, fl_ins, fl_tp, argD, djA, back, lentOf, D.isNon, isMu, muTy, putI_w, putI_b, putI_s, pairD_2, in_str, nin_str, anyEq_nil, anyEq_str, bin_addT, fld_1, ↓fl, v_MOST_STEPS, gt]
  have sc := script n ss (src_b ss) h.ok h0 h8
  simp only [Fl.own] at sc
  have s3 : Eg.run (callN tab (n + 4)) (nthS bRs 3) [some (.sh, .str (textS ss)), some (.sh, .lst (ss.map wlD)), some (.ow, slD ss), none, none] = .rt true (scD ss) [some (.sh, .str (textS ss)), some (.sh, .lst (ss.map wlD)), some (.ow, slD ss), none, none] := by
    generalize ss.map wlD = X
    simp only [nthS, bRs, b_read_script]
    simp -dsimp -implicitDefEqProofs [Eg.run, ev, evL, evB, evA, evI, evO, evF, startR, two_late, two_none, CE.late, CE.isNil, peek_0, peek_s, slot_0, slot_s, unown_0, unown_s, Fl.shared, st_n, st_h, st_w, store_s, nxO, lift_some, fin_val, fin_bor, fin_tst, Eg.tru_ok, truth_bl, truth_int, subOf, Eg.eq_int, eq_str, ne_str, ne_int, eq_bl, outsOf, Fl.own, small, sizeLine, isT, ↓loopC_P, ↓loopF_P, loopCP_nil, loopCP_cons, loopFP_nil, loopFP_cons, ↓bind_P, ↓stm_P, ↓then_P, bindP_ok, stmP_ok, thenP_nx, thenP_rt, calm_ok, oneOf_1, oneOf_2, storeL, storeF, put_one, put_many_, blt_int_b, blt_int_i, blt_len_l, blt_len_t, blt_min, bin_add, bin_sub, Eg.cmp_gt, cmp_ge, cmp_lt, cmp_le, ix_l0, ixt0, ixt1, ixt2, ixt3, ixt4, ixt5, ixt6, ixl1, ixl2, mayWipe, restore, zipD, itemsD, callA, callB, fl_f, fl_lst, fl_dk, fl_ins, fl_tp, argD, djA, back, lentOf, D.isNon, isMu, muTy, putI_w, putI_b, putI_s, pairD_2, in_str, nin_str, anyEq_nil, anyEq_str, bin_addT, fld_1, sc, fl_sc0]
  show callFn (callN tab (n + 4)) f_read_script [_] = _
  refine (callFn_rt (cl := callN tab (n + 4)) (f := f_read_script) (as := [(false, .str (textS ss))]) (r := [some (.sh, .str (textS ss)), some (.sh, .lst (ss.map wlD)), some (.ow, slD ss), none, none]) rfl ?_).trans rfl
  show (Eg.run (callN tab (n + 4)) (nthS bRs 0) [some (.sh, .str (textS ss)), none, none, none, none]).then (fun r => (Eg.run (callN tab (n + 4)) (nthS bRs 1) r).then fun r => (Eg.run (callN tab (n + 4)) (nthS bRs 2) r).then fun r => (Eg.run (callN tab (n + 4)) (nthS bRs 3) r).then fun r => .nx r) = _
  rw [s0, then_nx, s1, then_nx, s2, then_nx, s3]
  rfl
end Law
namespace Law
open PySem Eg
def evW : List Str := [Os "great", Os "small", Os "take", Os "tick", Os "answered", Os "unheard", Os "unsent", Os "come"]
theorem ev_gw {w : Str} (h : w ∈ evW) : GW w := by
  simp only [evW, List.mem_cons, List.not_mem_nil, or_false] at h
  rcases h with rfl | rfl | rfl | rfl | rfl | rfl | rfl | rfl <;> exact gw_of (by kernel_rfl)
theorem ev_one (n : Nat) {w : Str} (h : w ∈ evW) : callN tab (n + 1) 1 [(false, .str w), (false, v_EVENTS)] = .ok false (.bl true) [(false, .str w), (false, v_EVENTS)] := by
  simp only [evW, List.mem_cons, List.not_mem_nil, or_false] at h
  rcases h with rfl | rfl | rfl | rfl | rfl | rfl | rfl | rfl <;> kernel_rfl
theorem ev_in {w : Str} (h : w ∈ evW) : cmpD .notIn (.str w) v_EVENTS = some false := by
  simp only [evW, List.mem_cons, List.not_mem_nil, or_false] at h
  rcases h with rfl | rfl | rfl | rfl | rfl | rfl | rfl | rfl <;> kernel_rfl
theorem ev_ne {w : Str} (h : w ∈ evW) : PyData.eqv (.str w) (.str (Os "")) = false := by
  simp only [evW, List.mem_cons, List.not_mem_nil, or_false] at h
  rcases h with rfl | rfl | rfl | rfl | rfl | rfl | rfl | rfl <;> kernel_rfl
/-! equal texts -/
theorem py_strs : ∀ ws : List Str, D.pyL (ws.map Eg.D.str) = some (ws.map PyData.str)
  | [] => rfl
  | w :: ws => by
    show (match D.py (.str w), D.pyL (ws.map Eg.D.str) with
      | some x, some xs => some (x :: xs)
      | _, _ => none) = _
    rw [py_strs ws]
    rfl
theorem lay_strs : ∀ ws : List Str, (∀ w ∈ ws, PyData.strOk w = true) → PyData.canLayAll0 (ws.map PyData.str) = true ∧ PyData.depthAll (ws.map PyData.str) ≤ 1
  | [], _ => ⟨rfl, by decide⟩
  | w :: ws, h => by
    obtain ⟨h1, h2⟩ := lay_strs ws fun x hx => h x (List.mem_cons_of_mem _ hx)
    have h0 := h w (by simp)
    constructor
    · show (PyData.canLay0 (.str w) && PyData.canLayAll0 (ws.map PyData.str)) = true
      rw [h1]
      simpa [PyData.canLay0] using h0
    · simp only [List.map_cons, PyData.depthAll]
      have : (PyData.str w).depth ≤ 1 := by simp [PyData.depth]
      omega
theorem sh_lstr {ws : List Str} (h : ∀ w ∈ ws, PyData.strOk w = true) : SeqAt.shaped (.list (ws.map PyData.str)) = true ∧ SeqAt.shaped (.tuple (ws.map PyData.str)) = true := by
  obtain ⟨h1, h2⟩ := lay_strs ws h
  unfold SeqAt.shaped
  simp only [Bool.and_eq_true, decide_eq_true_eq]
  refine ⟨⟨by simpa [PyData.canLay0] using h1, ?_⟩, by simpa [PyData.canLay0] using h1, ?_⟩ <;> (simp only [PyData.depth]; omega)
theorem eq_lstr {ws : List Str} (h : ∀ w ∈ ws, PyData.strOk w = true) : cmpD .ne (.lst (ws.map Eg.D.str)) (.lst (ws.map Eg.D.str)) = some false ∧ cmpD .ne (.tup (ws.map Eg.D.str)) (.tup (ws.map Eg.D.str)) = some false := by
  obtain ⟨h1, h2⟩ := sh_lstr h
  obtain ⟨h3, _⟩ := lay_strs ws h
  have e1 : D.eqq (.lst (ws.map Eg.D.str)) (.lst (ws.map Eg.D.str)) = some true := by
    unfold D.eqq
    have p : (Eg.D.lst (ws.map Eg.D.str)).py = some (.list (ws.map PyData.str)) := by
      show (D.pyL _).map PyData.list = _
      rw [py_strs]
      rfl
    rw [p]
    simp only [h1, Bool.and_self, if_true]
    rw [SeqAt.eqv_refl _ (by simpa [PyData.canLay0] using h3)]
  have e2 : D.eqq (.tup (ws.map Eg.D.str)) (.tup (ws.map Eg.D.str)) = some true := by
    unfold D.eqq
    have p : (Eg.D.tup (ws.map Eg.D.str)).py = some (.tuple (ws.map PyData.str)) := by
      show (D.pyL _).map PyData.tuple = _
      rw [py_strs]
      rfl
    rw [p]
    simp only [h2, Bool.and_self, if_true]
    rw [SeqAt.eqv_refl _ (by simpa [PyData.canLay0] using h3)]
  constructor
  · show (D.eqq _ _).map (!·) = _
    rw [e1]
    rfl
  · show (D.eqq _ _).map (!·) = _
    rw [e2]
    rfl
theorem ne_2s {t : Str} (h : PyData.strOk t = true) : cmpD .ne (.lst [.str t, .str t]) (.lst [.str t, .str t]) = some false :=
  (eq_lstr (ws := [t, t]) (by intro w hw; simp at hw; subst hw; exact h)).1
theorem ne_blank {ws : List Str} (h : ∀ w ∈ ws, w ∈ evW) (hn : ws ≠ []) : cmpD .ne (.lst (ws.map Eg.D.str)) (.lst [.str (Os "")]) = some true := by
  obtain ⟨h1, _⟩ := sh_lstr (ws := ws) fun w hw => (ev_gw (h w hw)).k
  have h2 : SeqAt.shaped (.list [.str (Os "")]) = true := by kernel_rfl
  have p : (Eg.D.lst (ws.map Eg.D.str)).py = some (.list (ws.map PyData.str)) := by
    show (D.pyL _).map PyData.list = _
    rw [py_strs]
    rfl
  have p2 : (Eg.D.lst [.str (Os "")]).py = some (.list [.str (Os "")]) := rfl
  have e : PyData.eqv (.list (ws.map PyData.str)) (.list [.str (Os "")]) = false := by
    cases ws with
    | nil => exact absurd rfl hn
    | cons w t =>
      have := ev_ne (h w (by simp))
      simp only [PyData.eqv] at this
      simp only [List.map_cons, PyData.eqv, PyData.eqvAll]
      rw [this]
      simp
  have q : D.eqq (.lst (ws.map Eg.D.str)) (.lst [.str (Os "")]) = some false := by
    unfold D.eqq
    rw [p, p2]
    simp only [h1, h2, Bool.and_self, if_true, e]
  show (D.eqq _ _).map (!·) = _
  rw [q]
  rfl
/-- drawn events and their line -/
structure Evs (ws : List Str) : Prop where
  m : ∀ w ∈ ws, w ∈ evW
  l : ws.length ≤ 20
def evS (ws : List Str) : Str := Str.join (Os " ") ws
theorem Evs.len {ws : List Str} (h : Evs ws) : (evS ws).length ≤ 220 := by
  have := join_len (Os " ") 10 1 (by rw [blank_l]; omega) ws fun w hw => (ev_gw (h.m w hw)).l
  have := h.l
  unfold evS
  omega
theorem Evs.ok {ws : List Str} (h : Evs ws) : PyData.strOk (evS ws) = true := sok_join (sok_of _) ws fun w hw => (ev_gw (h.m w hw)).k
theorem Evs.jo {ws : List Str} (h : Evs ws) : txD .join (Os " ") (.lst (ws.map Eg.D.str)) = some (false, .str (evS ws)) :=
  join_D (Os " ") ws 10 (by rw [blank_l]; omega) (fun w hw => (ev_gw (h.m w hw)).l) (by have := h.l; omega)
theorem Evs.feed {ws : List Str} (h : Evs ws) : Txt.split (evS ws) (Os "\n") = [evS ws] := by
  have e := TL.split_join (y := Os "\n") (s := 10) (S := []) feed_tl feed_k (parts := [evS ws]) (by simp) fun p hp => by
    simp at hp
    subst hp
    exact notin_join (by rw [blank_tl]; decide) ws fun w hw => (ev_gw (h.m w hw)).f
  rw [TL.join_eq] at e
  exact e
theorem Evs.blank {ws : List Str} (h : Evs ws) (hn : ws ≠ []) : Txt.split (evS ws) (Os " ") = ws := by
  have e := TL.split_join (y := Os " ") (s := 32) (S := []) blank_tl blank_k (parts := ws) hn fun p hp => (ev_gw (h.m p hp)).b
  rw [TL.join_eq] at e
  exact e
theorem blank_nil : Txt.split (evS []) (Os " ") = [Os ""] := by
  have e := TL.split_join (y := Os " ") (s := 32) (S := []) blank_tl blank_k (parts := [Os ""]) (by simp) fun p hp => by
    simp at hp
    subst hp
    decide
  rw [TL.join_eq] at e
  have e2 : evS [] = Str.join (Os " ") [Os ""] := by kernel_rfl
  rw [e2]
  exact e
abbrev bEt : CS := b_events_text
theorem events_text (n : Nat) (ws : List Str) (h : Evs ws) {f : Fl} {X : Eg.D} (hX : (f = .sh ∧ X = .tup (ws.map Eg.D.str)) ∨ (f = .bo ∧ X = .lst (ws.map Eg.D.str))) :
    callN tab (n + 2) 6 [(f.own, X)] = .ok false (.str (evS ws)) [(f.own, X)] := by
  have ty : tyO [.list, .tuple] X = some true := by rcases hX with ⟨_, rfl⟩ | ⟨_, rfl⟩ <;> rfl
  have li : bltD .list [X] = some (true, .lst (ws.map Eg.D.str)) := by rcases hX with ⟨_, rfl⟩ | ⟨_, rfl⟩ <;> rfl
  have jo := h.jo
  have sr : startR f_events_text [(f.own, X)] = [some (f, X), none, none] := by rcases hX with ⟨rfl, _⟩ | ⟨rfl, _⟩ <;> rfl
  have s0 : Eg.run (callN tab (n + 1)) (nthS bEt 0) [some (f, X), none, none] = .nx [some (f, X), none, none] := by
    simp only [nthS, bEt, b_events_text]
    simp -dsimp -implicitDefEqProofs [Eg.run, ev, evL, evB, evA, evI, evO, evF, startR, two_late, two_none, CE.late, CE.isNil, peek_0, peek_s, slot_0, slot_s, unown_0, unown_s, Fl.shared, st_n, st_h, st_w, store_s, nxO, lift_some, fin_val, fin_bor, fin_tst, Eg.tru_ok, truth_bl, truth_int, subOf, Eg.eq_int, eq_str, ne_str, ne_int, eq_bl, outsOf, Fl.own, small, sizeLine, isT, ↓loopC_P, ↓loopF_P, loopCP_nil, loopCP_cons, loopFP_nil, loopFP_cons, ↓bind_P, ↓stm_P, ↓then_P, bindP_ok, stmP_ok, thenP_nx, thenP_rt, calm_ok, oneOf_1, oneOf_2, storeL, storeF, put_one, put_many_, blt_int_b, blt_int_i, blt_len_l, blt_len_t, blt_min, bin_add, bin_sub, Eg.cmp_gt, cmp_ge, cmp_lt, cmp_le, ix_l0, ixt0, ixt1, ixt2, ixt3, ixt4, ixt5, ixt6, ixl1, ixl2, mayWipe, restore, zipD, itemsD, callA, callB, fl_f, fl_lst, fl_dk, fl_ins, fl_tp, argD, djA, back, lentOf, D.isNon, isMu, muTy, putI_w, putI_b, putI_s, pairD_2, in_str, nin_str, anyEq_nil, anyEq_str, bin_addT, fld_1, ty]
  have body : ∀ (i : Nat) (w : Str) (x1 x2 : Option (Fl × Eg.D)), w ∈ ws → okS x1 = true → okS x2 = true → (oneOf [1, 2]).put [some (f, X), x1, x2] (.tup [.int i, .str w]) = some [some (f, X), some (.sh, .int i), some (.sh, .str w)] ∧
      Eg.run (callN tab (n + 1)) (bodyS (nthS bEt 1)) [some (f, X), some (.sh, .int i), some (.sh, .str w)] = .nx [some (f, X), some (.sh, .int i), some (.sh, .str w)] := by
    intro i w x1 x2 hw h1 h2
    have on := ev_one n (h.m w hw)
    constructor
    · show Tg.put _ (.many [1, 2]) _ = _
      rw [put_many_]
      simp only [storeL, store_s, store_0 h1, store_0 h2, Option.map_some]
      rfl
    · simp only [nthS, bodyS, bEt, b_events_text]
      simp -dsimp -implicitDefEqProofs [Eg.run, ev, evL, evB, evA, evI, evO, evF, startR, two_late, two_none, CE.late, CE.isNil, peek_0, peek_s, slot_0, slot_s, unown_0, unown_s, Fl.shared, st_n, st_h, st_w, store_s, nxO, lift_some, fin_val, fin_bor, fin_tst, Eg.tru_ok, truth_bl, truth_int, subOf, Eg.eq_int, eq_str, ne_str, ne_int, eq_bl, outsOf, Fl.own, small, sizeLine, isT, ↓loopC_P, ↓loopF_P, loopCP_nil, loopCP_cons, loopFP_nil, loopFP_cons, ↓bind_P, ↓stm_P, ↓then_P, bindP_ok, stmP_ok, thenP_nx, thenP_rt, calm_ok, oneOf_1, oneOf_2, storeL, storeF, put_one, put_many_, blt_int_b, blt_int_i, blt_len_l, blt_len_t, blt_min, bin_add, bin_sub, Eg.cmp_gt, cmp_ge, cmp_lt, cmp_le, ix_l0, ixt0, ixt1, ixt2, ixt3, ixt4, ixt5, ixt6, ixl1, ixl2, mayWipe, restore, zipD, itemsD, callA, callB, fl_f, fl_lst, fl_dk, fl_ins, fl_tp, argD, djA, back, lentOf, D.isNon, isMu, muTy, putI_w, putI_b, putI_s, pairD_2, in_str, nin_str, anyEq_nil, anyEq_str, bin_addT, fld_1, on]
  have s1 : ∃ x1 x2, Eg.run (callN tab (n + 1)) (nthS bEt 1) [some (f, X), none, none] = .nx [some (f, X), x1, x2] := by
    rcases hX with ⟨rfl, rfl⟩ | ⟨rfl, rfl⟩
    · have eI : evI (callN tab (n + 1)) (.enum (.var 0)) [some (.sh, .tup (ws.map Eg.D.str)), none, none] = .ok (enumD 0 (ws.map Eg.D.str)) [some (.sh, .tup (ws.map Eg.D.str)), none, none] := by rfl
      have e0 : Eg.run (callN tab (n + 1)) (nthS bEt 1) [some (.sh, .tup (ws.map Eg.D.str)), none, none] = Eg.run (callN tab (n + 1)) (.fors [1, 2] (.enum (.var 0)) (bodyS (nthS bEt 1))) [some (.sh, .tup (ws.map Eg.D.str)), none, none] := run_forsE_sh (tg := [1, 2]) (i := 0) (b := bodyS (nthS bEt 1)) (d := .tup (ws.map Eg.D.str)) rfl
      have e := run_fors (tg := [1, 2]) (b := bodyS (nthS bEt 1)) eI
      obtain ⟨r', e2, x1, x2, _, _, hr⟩ := loopF_all (tg := oneOf [1, 2]) (fb := Eg.run (callN tab (n + 1)) (bodyS (nthS bEt 1))) (I := fun r => ∃ x1 x2, okS x1 = true ∧ okS x2 = true ∧ r = [some (.sh, .tup (ws.map Eg.D.str)), x1, x2]) (enumD 0 (ws.map Eg.D.str)) _ ⟨none, none, rfl, rfl, rfl⟩ (fun x hx r hr => by
        obtain ⟨i, y, hy, rfl⟩ := mem_enumD hx
        obtain ⟨w, hw, rfl⟩ := List.mem_map.mp hy
        obtain ⟨x1, x2, h1, h2, rfl⟩ := hr
        obtain ⟨b1, b2⟩ := body i w x1 x2 hw h1 h2
        exact ⟨_, _, b1, b2, _, _, rfl, rfl, rfl⟩)
      subst hr
      exact ⟨x1, x2, by rw [e0, e, e2]⟩
    · have e0 : Eg.run (callN tab (n + 1)) (nthS bEt 1) [some (.bo, .lst (ws.map Eg.D.str)), none, none] = loopB (oneOf [1, 2]) 0 (Eg.run (callN tab (n + 1)) (bodyS (nthS bEt 1))) (ws.map Eg.D.str).length 0 [some (.bo, .lst (ws.map Eg.D.str)), none, none] := run_forsE_bo (tg := [1, 2]) (i := 0) (b := bodyS (nthS bEt 1)) (ys := ws.map Eg.D.str) rfl
      obtain ⟨r', e2, x1, x2, _, _, hr⟩ := loopB_all (tg := oneOf [1, 2]) (i := 0) (fb := Eg.run (callN tab (n + 1)) (bodyS (nthS bEt 1))) (ys := ws.map Eg.D.str) (I := fun r => ∃ x1 x2, okS x1 = true ∧ okS x2 = true ∧ r = [some (.bo, .lst (ws.map Eg.D.str)), x1, x2]) (fun r hr => by
        obtain ⟨x1, x2, _, _, rfl⟩ := hr
        rfl) (fun j y hy r hr => by
        obtain ⟨w, hw, rfl⟩ := List.mem_map.mp (List.mem_of_getElem? hy)
        obtain ⟨x1, x2, h1, h2, rfl⟩ := hr
        obtain ⟨b1, b2⟩ := body j w x1 x2 hw h1 h2
        exact ⟨_, _, b1, b2, _, _, rfl, rfl, rfl⟩) (ws.map Eg.D.str).length 0 [some (.bo, .lst (ws.map Eg.D.str)), none, none] (by omega) ⟨none, none, rfl, rfl, rfl⟩
      subst hr
      exact ⟨x1, x2, by rw [e0, e2]⟩
  obtain ⟨x1, x2, s1⟩ := s1
  have s2 : Eg.run (callN tab (n + 1)) (nthS bEt 2) [some (f, X), x1, x2] = .rt false (.str (evS ws)) [some (f, X), x1, x2] := by
    generalize hY : ws.map Eg.D.str = Y at li jo
    simp only [nthS, bEt, b_events_text]
    simp -dsimp -implicitDefEqProofs [Eg.run, ev, evL, evB, evA, evI, evO, evF, startR, two_late, two_none, CE.late, CE.isNil, peek_0, peek_s, slot_0, slot_s, unown_0, unown_s, Fl.shared, st_n, st_h, st_w, store_s, nxO, lift_some, fin_val, fin_bor, fin_tst, Eg.tru_ok, truth_bl, truth_int, subOf, Eg.eq_int, eq_str, ne_str, ne_int, eq_bl, outsOf, Fl.own, small, sizeLine, isT, ↓loopC_P, ↓loopF_P, loopCP_nil, loopCP_cons, loopFP_nil, loopFP_cons, ↓bind_P, ↓stm_P, ↓then_P, bindP_ok, stmP_ok, thenP_nx, thenP_rt, calm_ok, oneOf_1, oneOf_2, storeL, storeF, put_one, put_many_, blt_int_b, blt_int_i, blt_len_l, blt_len_t, blt_min, bin_add, bin_sub, Eg.cmp_gt, cmp_ge, cmp_lt, cmp_le, ix_l0, ixt0, ixt1, ixt2, ixt3, ixt4, ixt5, ixt6, ixl1, ixl2, mayWipe, restore, zipD, itemsD, callA, callB, fl_f, fl_lst, fl_dk, fl_ins, fl_tp, argD, djA, back, lentOf, D.isNon, isMu, muTy, putI_w, putI_b, putI_s, pairD_2, in_str, nin_str, anyEq_nil, anyEq_str, bin_addT, fld_1, v_BLANK, li, ↓jo]
  show callFn (callN tab (n + 1)) f_events_text [_] = _
  refine (callFn_rt (cl := callN tab (n + 1)) (f := f_events_text) (as := [(f.own, X)]) (r := [some (f, X), x1, x2]) (fr := false) (d := .str (evS ws)) rfl ?_).trans rfl
  rw [sr]
  show (Eg.run (callN tab (n + 1)) (nthS bEt 0) _).then (fun r => (Eg.run (callN tab (n + 1)) (nthS bEt 1) r).then fun r => (Eg.run (callN tab (n + 1)) (nthS bEt 2) r).then fun r => .nx r) = _
  rw [s0, then_nx, s1, then_nx, s2]
  rfl
abbrev bRe : CS := b_read_events
theorem read_events (n : Nat) (ws : List Str) (h : Evs ws) : callN tab (n + 2) 11 [(false, .str (evS ws))] = .ok false (.tup (ws.map Eg.D.str)) [(false, .str (evS ws))] := by
  let wd : List Str := if ws = [] then [Os ""] else ws
  have hwd : Txt.split (evS ws) (Os " ") = wd := by
    by_cases hn : ws = []
    · subst hn
      exact blank_nil
    · rw [h.blank hn]
      simp [wd, hn]
  have li := lines_in n (evS ws) [evS ws] (fun _ => wd) (by have := h.len; omega) h.feed (by simp) fun x hx => by
    simp at hx
    subst hx
    exact ⟨by have := h.len; omega, hwd⟩
  simp only [List.map_cons, List.map_nil] at li
  let L : Eg.D := .lst [.lst (wd.map Eg.D.str)]
  have s0 : Eg.run (callN tab (n + 1)) (nthS bRe 0) [some (.sh, .str (evS ws)), none, none, none, none] = .nx [some (.sh, .str (evS ws)), some (.ow, L), none, none, none] := by
    simp only [L]
    generalize hX : wd.map Eg.D.str = X at li
    simp only [nthS, bRe, b_read_events]
    simp -dsimp -implicitDefEqProofs [Eg.run, ev, evL, evB, evA, evI, evO, evF, startR, two_late, two_none, CE.late, CE.isNil, peek_0, peek_s, slot_0, slot_s, unown_0, unown_s, Fl.shared, st_n, st_h, st_w, store_s, nxO, lift_some, fin_val, fin_bor, fin_tst, Eg.tru_ok, truth_bl, truth_int, subOf, Eg.eq_int, eq_str, ne_str, ne_int, eq_bl, outsOf, Fl.own, small, sizeLine, isT, ↓loopC_P, ↓loopF_P, loopCP_nil, loopCP_cons, loopFP_nil, loopFP_cons, ↓bind_P, ↓stm_P, ↓then_P, bindP_ok, stmP_ok, thenP_nx, thenP_rt, calm_ok, oneOf_1, oneOf_2, storeL, storeF, put_one, put_many_, blt_int_b, blt_int_i, blt_len_l, blt_len_t, blt_min, bin_add, bin_sub, Eg.cmp_gt, cmp_ge, cmp_lt, cmp_le, ix_l0, ixt0, ixt1, ixt2, ixt3, ixt4, ixt5, ixt6, ixl1, ixl2, mayWipe, restore, zipD, itemsD, callA, callB, fl_f, fl_lst, fl_dk, fl_ins, fl_tp, argD, djA, back, lentOf, D.isNon, isMu, muTy, putI_w, putI_b, putI_s, pairD_2, in_str, nin_str, anyEq_nil, anyEq_str, bin_addT, fld_1, li]
  have s1 : ∃ f : Fl, (f = .sh ∨ f = .ow) ∧ Eg.run (callN tab (n + 1)) (nthS bRe 1) [some (.sh, .str (evS ws)), some (.ow, L), none, none, none] = .nx [some (.sh, .str (evS ws)), some (.ow, L), some (f, .lst (ws.map Eg.D.str)), none, none] := by
    by_cases hn : ws = []
    · have q : cmpD .ne (.lst [.str (Os "")]) (.lst [.str (Os "")]) = some false := by kernel_rfl
      refine ⟨.ow, .inr rfl, ?_⟩
      subst hn
      simp only [L, wd, if_true, List.map_cons, List.map_nil]
      simp only [nthS, bRe, b_read_events]
      simp -dsimp -implicitDefEqProofs [Eg.run, ev, evL, evB, evA, evI, evO, evF, startR, two_late, two_none, CE.late, CE.isNil, peek_0, peek_s, slot_0, slot_s, unown_0, unown_s, Fl.shared, st_n, st_h, st_w, store_s, nxO, lift_some, fin_val, fin_bor, fin_tst, Eg.tru_ok, truth_bl, truth_int, subOf, Eg.eq_int, eq_str, ne_str, ne_int, eq_bl, outsOf, Fl.own, small, sizeLine, isT, ↓loopC_P, ↓loopF_P, loopCP_nil, loopCP_cons, loopFP_nil, loopFP_cons, ↓bind_P, ↓stm_P, ↓then_P, bindP_ok, stmP_ok, thenP_nx, thenP_rt, calm_ok, oneOf_1, oneOf_2, storeL, storeF, put_one, put_many_, blt_int_b, blt_int_i, blt_len_l, blt_len_t, blt_min, bin_add, bin_sub, Eg.cmp_gt, cmp_ge, cmp_lt, cmp_le, ix_l0, ixt0, ixt1, ixt2, ixt3, ixt4, ixt5, ixt6, ixl1, ixl2, mayWipe, restore, zipD, itemsD, callA, callB, fl_f, fl_lst, fl_dk, fl_ins, fl_tp, argD, djA, back, lentOf, D.isNon, isMu, muTy, putI_w, putI_b, putI_s, pairD_2, in_str, nin_str, anyEq_nil, anyEq_str, bin_addT, fld_1, q]
    · have q := ne_blank h.m hn
      have ew : wd = ws := by simp [wd, hn]
      refine ⟨.sh, .inl rfl, ?_⟩
      simp only [L, ew]
      generalize hY : ws.map Eg.D.str = Y at q
      simp only [nthS, bRe, b_read_events]
      simp -dsimp -implicitDefEqProofs [Eg.run, ev, evL, evB, evA, evI, evO, evF, startR, two_late, two_none, CE.late, CE.isNil, peek_0, peek_s, slot_0, slot_s, unown_0, unown_s, Fl.shared, st_n, st_h, st_w, store_s, nxO, lift_some, fin_val, fin_bor, fin_tst, Eg.tru_ok, truth_bl, truth_int, subOf, Eg.eq_int, eq_str, ne_str, ne_int, eq_bl, outsOf, Fl.own, small, sizeLine, isT, ↓loopC_P, ↓loopF_P, loopCP_nil, loopCP_cons, loopFP_nil, loopFP_cons, ↓bind_P, ↓stm_P, ↓then_P, bindP_ok, stmP_ok, thenP_nx, thenP_rt, calm_ok, oneOf_1, oneOf_2, storeL, storeF, put_one, put_many_, blt_int_b, blt_int_i, blt_len_l, blt_len_t, blt_min, bin_add, bin_sub, Eg.cmp_gt, cmp_ge, cmp_lt, cmp_le, ix_l0, ixt0, ixt1, ixt2, ixt3, ixt4, ixt5, ixt6, ixl1, ixl2, mayWipe, restore, zipD, itemsD, callA, callB, fl_f, fl_lst, fl_dk, fl_ins, fl_tp, argD, djA, back, lentOf, D.isNon, isMu, muTy, putI_w, putI_b, putI_s, pairD_2, in_str, nin_str, anyEq_nil, anyEq_str, bin_addT, fld_1, q]
  obtain ⟨f, hf, s1⟩ := s1
  have s2 : ∃ x3 x4, Eg.run (callN tab (n + 1)) (nthS bRe 2) [some (.sh, .str (evS ws)), some (.ow, L), some (f, .lst (ws.map Eg.D.str)), none, none] = .nx [some (.sh, .str (evS ws)), some (.ow, L), some (.sh, .lst (ws.map Eg.D.str)), x3, x4] := by
    have eI : evI (callN tab (n + 1)) (.enum (.var 2)) [some (.sh, .str (evS ws)), some (.ow, L), some (f, .lst (ws.map Eg.D.str)), none, none] = .ok (enumD 0 (ws.map Eg.D.str)) [some (.sh, .str (evS ws)), some (.ow, L), some (.sh, .lst (ws.map Eg.D.str)), none, none] := by
      rcases hf with rfl | rfl <;> rfl
    have e0 : Eg.run (callN tab (n + 1)) (nthS bRe 2) [some (.sh, .str (evS ws)), some (.ow, L), some (f, .lst (ws.map Eg.D.str)), none, none] = Eg.run (callN tab (n + 1)) (.fors [3, 4] (.enum (.var 2)) (bodyS (nthS bRe 2))) [some (.sh, .str (evS ws)), some (.ow, L), some (f, .lst (ws.map Eg.D.str)), none, none] := by
      rcases hf with rfl | rfl
      · exact run_forsE_sh (tg := [3, 4]) (i := 2) (b := bodyS (nthS bRe 2)) (d := .lst (ws.map Eg.D.str)) rfl
      · exact run_forsE_ow (tg := [3, 4]) (i := 2) (b := bodyS (nthS bRe 2)) (d := .lst (ws.map Eg.D.str)) rfl
    have e := run_fors (tg := [3, 4]) (b := bodyS (nthS bRe 2)) eI
    obtain ⟨r', e2, x3, x4, _, _, hr⟩ := loopF_all (tg := oneOf [3, 4]) (fb := Eg.run (callN tab (n + 1)) (bodyS (nthS bRe 2))) (I := fun r => ∃ x3 x4, okS x3 = true ∧ okS x4 = true ∧ r = [some (.sh, .str (evS ws)), some (.ow, L), some (.sh, .lst (ws.map Eg.D.str)), x3, x4]) (enumD 0 (ws.map Eg.D.str)) _ ⟨none, none, rfl, rfl, rfl⟩ (fun x hx r hr => by
      obtain ⟨i, y, hy, rfl⟩ := mem_enumD hx
      obtain ⟨w, hw, rfl⟩ := List.mem_map.mp hy
      obtain ⟨x3, x4, h3, h4, rfl⟩ := hr
      have ei := ev_in (h.m w hw)
      refine ⟨[some (.sh, .str (evS ws)), some (.ow, L), some (.sh, .lst (ws.map Eg.D.str)), some (.sh, .int i), some (.sh, .str w)], [some (.sh, .str (evS ws)), some (.ow, L), some (.sh, .lst (ws.map Eg.D.str)), some (.sh, .int i), some (.sh, .str w)], ?_, ?_, _, _, rfl, rfl, rfl⟩
      · show Tg.put _ (.many [3, 4]) _ = _
        rw [put_many_]
        simp only [storeL, store_s, store_0 h3, store_0 h4, Option.map_some]
        rfl
      · simp only [nthS, bodyS, bRe, b_read_events]
        generalize ws.map Eg.D.str = Y
        generalize L = L0
        simp -dsimp -implicitDefEqProofs [Eg.run, ev, evL, evB, evA, evI, evO, evF, startR, two_late, two_none, CE.late, CE.isNil, peek_0, peek_s, slot_0, slot_s, unown_0, unown_s, Fl.shared, st_n, st_h, st_w, store_s, nxO, lift_some, fin_val, fin_bor, fin_tst, Eg.tru_ok, truth_bl, truth_int, subOf, Eg.eq_int, eq_str, ne_str, ne_int, eq_bl, outsOf, Fl.own, small, sizeLine, isT, ↓loopC_P, ↓loopF_P, loopCP_nil, loopCP_cons, loopFP_nil, loopFP_cons, ↓bind_P, ↓stm_P, ↓then_P, bindP_ok, stmP_ok, thenP_nx, thenP_rt, calm_ok, oneOf_1, oneOf_2, storeL, storeF, put_one, put_many_, blt_int_b, blt_int_i, blt_len_l, blt_len_t, blt_min, bin_add, bin_sub, Eg.cmp_gt, cmp_ge, cmp_lt, cmp_le, ix_l0, ixt0, ixt1, ixt2, ixt3, ixt4, ixt5, ixt6, ixl1, ixl2, mayWipe, restore, zipD, itemsD, callA, callB, fl_f, fl_lst, fl_dk, fl_ins, fl_tp, argD, djA, back, lentOf, D.isNon, isMu, muTy, putI_w, putI_b, putI_s, pairD_2, in_str, nin_str, anyEq_nil, anyEq_str, bin_addT, fld_1, ei])
    subst hr
    exact ⟨x3, x4, by rw [e0, e, e2]⟩
  obtain ⟨x3, x4, s2⟩ := s2
  have s3 : Eg.run (callN tab (n + 1)) (nthS bRe 3) [some (.sh, .str (evS ws)), some (.ow, L), some (.sh, .lst (ws.map Eg.D.str)), x3, x4] = .nx [some (.sh, .str (evS ws)), some (.ow, L), some (.sh, .lst (ws.map Eg.D.str)), x3, x4] := by
    have fl : bltD .len [L] = some (false, .int 1) := rfl
    generalize L = L0 at fl
    generalize ws.map Eg.D.str = Y
    simp only [nthS, bRe, b_read_events]
    simp -dsimp -implicitDefEqProofs [Eg.run, ev, evL, evB, evA, evI, evO, evF, startR, two_late, two_none, CE.late, CE.isNil, peek_0, peek_s, slot_0, slot_s, unown_0, unown_s, Fl.shared, st_n, st_h, st_w, store_s, nxO, lift_some, fin_val, fin_bor, fin_tst, Eg.tru_ok, truth_bl, truth_int, subOf, Eg.eq_int, eq_str, ne_str, ne_int, eq_bl, outsOf, Fl.own, small, sizeLine, isT, ↓loopC_P, ↓loopF_P, loopCP_nil, loopCP_cons, loopFP_nil, loopFP_cons, ↓bind_P, ↓stm_P, ↓then_P, bindP_ok, stmP_ok, thenP_nx, thenP_rt, calm_ok, oneOf_1, oneOf_2, storeL, storeF, put_one, put_many_, blt_int_b, blt_int_i, blt_len_l, blt_len_t, blt_min, bin_add, bin_sub, Eg.cmp_gt, cmp_ge, cmp_lt, cmp_le, ix_l0, ixt0, ixt1, ixt2, ixt3, ixt4, ixt5, ixt6, ixl1, ixl2, mayWipe, restore, zipD, itemsD, callA, callB, fl_f, fl_lst, fl_dk, fl_ins, fl_tp, argD, djA, back, lentOf, D.isNon, isMu, muTy, putI_w, putI_b, putI_s, pairD_2, in_str, nin_str, anyEq_nil, anyEq_str, bin_addT, fld_1, fl]
  have s4 : Eg.run (callN tab (n + 1)) (nthS bRe 4) [some (.sh, .str (evS ws)), some (.ow, L), some (.sh, .lst (ws.map Eg.D.str)), x3, x4] = .rt false (.tup (ws.map Eg.D.str)) [some (.sh, .str (evS ws)), some (.ow, L), some (.sh, .lst (ws.map Eg.D.str)), x3, x4] := by
    generalize L = L0
    generalize ws.map Eg.D.str = Y
    simp only [nthS, bRe, b_read_events]
    simp -dsimp -implicitDefEqProofs [Eg.run, ev, evL, evB, evA, evI, evO, evF, startR, two_late, two_none, CE.late, CE.isNil, peek_0, peek_s, slot_0, slot_s, unown_0, unown_s, Fl.shared, st_n, st_h, st_w, store_s, nxO, lift_some, fin_val, fin_bor, fin_tst, Eg.tru_ok, truth_bl, truth_int, subOf, Eg.eq_int, eq_str, ne_str, ne_int, eq_bl, outsOf, Fl.own, small, sizeLine, isT, ↓loopC_P, ↓loopF_P, loopCP_nil, loopCP_cons, loopFP_nil, loopFP_cons, ↓bind_P, ↓stm_P, ↓then_P, bindP_ok, stmP_ok, thenP_nx, thenP_rt, calm_ok, oneOf_1, oneOf_2, storeL, storeF, put_one, put_many_, blt_int_b, blt_int_i, blt_len_l, blt_len_t, blt_min, bin_add, bin_sub, Eg.cmp_gt, cmp_ge, cmp_lt, cmp_le, ix_l0, ixt0, ixt1, ixt2, ixt3, ixt4, ixt5, ixt6, ixl1, ixl2, mayWipe, restore, zipD, itemsD, callA, callB, fl_f, fl_lst, fl_dk, fl_ins, fl_tp, argD, djA, back, lentOf, D.isNon, isMu, muTy, putI_w, putI_b, putI_s, pairD_2, in_str, nin_str, anyEq_nil, anyEq_str, bin_addT, fld_1, tpL]
  show callFn (callN tab (n + 1)) f_read_events [_] = _
  refine (callFn_rt (cl := callN tab (n + 1)) (f := f_read_events) (as := [(false, .str (evS ws))]) (r := [some (.sh, .str (evS ws)), some (.ow, L), some (.sh, .lst (ws.map Eg.D.str)), x3, x4]) rfl ?_).trans rfl
  show (Eg.run (callN tab (n + 1)) (nthS bRe 0) [some (.sh, .str (evS ws)), none, none, none, none]).then (fun r => (Eg.run (callN tab (n + 1)) (nthS bRe 1) r).then fun r => (Eg.run (callN tab (n + 1)) (nthS bRe 2) r).then fun r => (Eg.run (callN tab (n + 1)) (nthS bRe 3) r).then fun r => (Eg.run (callN tab (n + 1)) (nthS bRe 4) r).then fun r => .nx r) = _
  rw [s0, then_nx, s1, then_nx, s2, then_nx, s3, then_nx, s4]
  rfl
end Law
namespace Law
open PySem Eg
theorem evI_rngC {cl : Cal} {e : CE} {r r' : Rho} {b : Bool} {i : Int} {xs : List Eg.D} (h : ev cl e .bor r = .ok (b, .int i) r') (hx : rangeD 0 i = some xs) : evI cl (.rng1 e) r = .ok xs r' := by
  show (ev cl e .bor r).bind _ = _
  rw [h, bind_ok]
  show lift (rangeD 0 i) r' = _
  rw [hx]
  rfl
theorem rng_D (u : Nat) (h : u ≤ 1000) : rangeD 0 (u : Int) = some ((List.range u).map fun j => Eg.D.int (j : Nat)) := by
  unfold rangeD
  rw [if_pos (by omega)]
  simp
def evL8 : Eg.D := .lst (evW.map Eg.D.str)
theorem ev_of (n : Nat) {B : Int} {m : Eg.D} (h : Mt B m) (hB : B < 900000) (b : Bool) : ∃ w m', callN tab (n + 2) 14 [(true, m), (b, evL8)] = .ok false (.str w) [(true, m'), (b, evL8)] ∧ w ∈ evW ∧ Mt (B + 1) m' := by
  obtain ⟨d, m', e, hd, hm⟩ := ofM n b h hB (xs := evW.map Eg.D.str) (by simp [evW]) (by decide)
  obtain ⟨w, hw, rfl⟩ := List.mem_map.mp hd
  exact ⟨w, m', e, hw, hm⟩
theorem all_ev : ∀ {ys : List Eg.D}, (∀ y ∈ ys, ∃ w ∈ evW, y = .str w) → ∃ ws : List Str, ys = ws.map Eg.D.str ∧ ∀ w ∈ ws, w ∈ evW
  | [], _ => ⟨[], rfl, fun _ h => nomatch h⟩
  | y :: ys, h => by
    obtain ⟨w, hw, rfl⟩ := h y (by simp)
    obtain ⟨ws, rfl, hs⟩ := all_ev (ys := ys) fun z hz => h z (by simp [hz])
    refine ⟨w :: ws, rfl, fun z hz => ?_⟩
    rcases List.mem_cons.mp hz with rfl | hz
    · exact hw
    · exact hs z hz
theorem list_t0 (ss : List St) : bltD .list [ssD ss] = some (true, slD ss) := rfl
theorem eqk0 (ss : List St) : eqOk [41] (scD ss) = true := rfl
theorem dn_ne0 (b : Bool) : dunD .ne (false, .bl b) = some (false, .bl (!b)) := rfl
abbrev bT : CS := b_law
abbrev bT1 : CS := bodyS (nthS bT 0)
/-- the slots of the law -/
def lS (S : Eg.D) (k : Int) (x2 x3 x4 x5 x6 x7 x8 : Option (Fl × Eg.D)) : Rho := [some (.sh, S), some (.sh, .int k), x2, x3, x4, x5, x6, x7, x8, none, none]
theorem fld_sc (ss : List St) : fldD [41] (Str.ofString "steps") (scD ss) = some (ssD ss) := sc_fld ss
theorem ne_self {a : List St} (ha : Row a) : cmpD .ne (ssD a) (ssD a) = some false := by
  have e := (eq_self ha).1
  show (D.eqq (ssD a) (ssD a)).map (!·) = _
  rw [show D.eqq (ssD a) (ssD a) = some true from e]
  rfl
theorem law_turn (n : Nat) (ns : List Int) (hn : ns.length ≤ 63) (k : Nat) (x2 x3 x4 x5 x6 x7 x8 : Option (Fl × Eg.D)) (h2 : okS x2 = true) (h3 : okS x3 = true) (h4 : okS x4 = true) (h5 : okS x5 = true) (h6 : okS x6 = true) (h7 : okS x7 = true) (h8 : okS x8 = true) :
    ∃ y2 y3 y4 y5 y6 y7 y8, Eg.run (callN tab (n + 6)) bT1 (lS (.lst (ns.map Eg.D.int)) k x2 x3 x4 x5 x6 x7 x8) = .nx (lS (.lst (ns.map Eg.D.int)) k y2 y3 y4 y5 y6 y7 y8) ∧ okS y2 = true ∧ okS y3 = true ∧ okS y4 = true ∧ okS y5 = true ∧ okS y6 = true ∧ okS y7 = true ∧ okS y8 = true := by
  obtain ⟨l, s, c, eb, hc⟩ := begun (n + 5) ns k hn
  have hm : Mt 0 (mD l s c 0) := ⟨l, s, c, 0, rfl, hc, Int.le_refl _, Int.le_refl _⟩
  have fm : flatR true (mD l s c 0) = (true, mD l s c 0) := rfl
  generalize mD l s c 0 = m at eb hm fm
  obtain ⟨ss, m1, e1, hss, g0, g8, hm1⟩ := any_steps (n + 2) hm (by omega)
  have h : Row ss := ⟨hss, g0, g8⟩
  have et := script (n + 2) ss (src_t ss) hss g0 g8
  have el := script (n + 2) ss (src_l ss) hss g0 g8
  simp only [Fl.own] at et el
  have st := script_text (n + 4) ss h
  have rs := read_script (n + 1) ss h
  have nt := ne_2s (text_ok h)
  have jl := join_lines h
  generalize hS : Eg.D.lst (ns.map Eg.D.int) = S at eb
  have s0 : Eg.run (callN tab (n + 6)) (nthS bT1 0) (lS S k x2 x3 x4 x5 x6 x7 x8) = .nx (lS S k (some (.ow, m)) x3 x4 x5 x6 x7 x8) := by
    simp only [nthS, bT1, bodyS, bT, b_law, lS]
    simp -dsimp -implicitDefEqProofs [Eg.run, ev, evL, evB, evA, evI, evO, evF, startR, two_late, two_none, CE.late, CE.isNil, peek_0, peek_s, slot_0, slot_s, unown_0, unown_s, Fl.shared, st_n, st_h, st_w, store_s, nxO, lift_some, fin_val, fin_bor, fin_tst, Eg.tru_ok, truth_bl, truth_int, subOf, Eg.eq_int, eq_str, ne_str, ne_int, eq_bl, outsOf, Fl.own, small, sizeLine, isT, ↓loopC_P, ↓loopF_P, loopCP_nil, loopCP_cons, loopFP_nil, loopFP_cons, ↓bind_P, ↓stm_P, ↓then_P, bindP_ok, stmP_ok, thenP_nx, thenP_rt, calm_ok, oneOf_1, oneOf_2, storeL, storeF, put_one, put_many_, blt_int_b, blt_int_i, blt_len_l, blt_len_t, blt_min, bin_add, bin_sub, Eg.cmp_gt, cmp_ge, cmp_lt, cmp_le, ix_l0, ixt0, ixt1, ixt2, ixt3, ixt4, ixt5, ixt6, ixl1, ixl2, mayWipe, restore, zipD, itemsD, callA, callB, fl_f, fl_lst, fl_dk, fl_ins, fl_tp, argD, djA, back, lentOf, D.isNon, isMu, muTy, putI_w, putI_b, putI_s, pairD_2, in_str, nin_str, anyEq_nil, anyEq_str, bin_addT, fld_1, eb, fm, store_0 h2]
  have s1 : Eg.run (callN tab (n + 6)) (nthS bT1 1) (lS S k (some (.ow, m)) x3 x4 x5 x6 x7 x8) = .nx (lS S k (some (.ow, m1)) (some (.sh, ssD ss)) x4 x5 x6 x7 x8) := by
    simp only [nthS, bT1, bodyS, bT, b_law, lS]
    simp -dsimp -implicitDefEqProofs [Eg.run, ev, evL, evB, evA, evI, evO, evF, startR, two_late, two_none, CE.late, CE.isNil, peek_0, peek_s, slot_0, slot_s, unown_0, unown_s, Fl.shared, st_n, st_h, st_w, store_s, nxO, lift_some, fin_val, fin_bor, fin_tst, Eg.tru_ok, truth_bl, truth_int, subOf, Eg.eq_int, eq_str, ne_str, ne_int, eq_bl, outsOf, Fl.own, small, sizeLine, isT, ↓loopC_P, ↓loopF_P, loopCP_nil, loopCP_cons, loopFP_nil, loopFP_cons, ↓bind_P, ↓stm_P, ↓then_P, bindP_ok, stmP_ok, thenP_nx, thenP_rt, calm_ok, oneOf_1, oneOf_2, storeL, storeF, put_one, put_many_, blt_int_b, blt_int_i, blt_len_l, blt_len_t, blt_min, bin_add, bin_sub, Eg.cmp_gt, cmp_ge, cmp_lt, cmp_le, ix_l0, ixt0, ixt1, ixt2, ixt3, ixt4, ixt5, ixt6, ixl1, ixl2, mayWipe, restore, zipD, itemsD, callA, callB, fl_f, fl_lst, fl_dk, fl_ins, fl_tp, argD, djA, back, lentOf, D.isNon, isMu, muTy, putI_w, putI_b, putI_s, pairD_2, in_str, nin_str, anyEq_nil, anyEq_str, bin_addT, fld_1, e1, store_0 h3]
  have s2 : Eg.run (callN tab (n + 6)) (nthS bT1 2) (lS S k (some (.ow, m1)) (some (.sh, ssD ss)) x4 x5 x6 x7 x8) = .nx (lS S k (some (.ow, m1)) (some (.sh, ssD ss)) (some (.sh, .str (textS ss))) x5 x6 x7 x8) := by
    have cm : ev (callN tab (n + 6)) (.comp [("_law_one", 10)] [10] (.seq (.var 3)) .nil (.call 18 "_law_line" (.cons (.var 10) .nil))) .val (lS S k (some (.ow, m1)) (some (.sh, ssD ss)) x4 x5 x6 x7 x8) = .ok (true, .lst (ss.map fun s => Eg.D.str (lineS s))) (lS S k (some (.ow, m1)) (some (.sh, ssD ss)) x4 x5 x6 x7 x8) := by
      refine comp_map (r0 := lS S k (some (.ow, m1)) (some (.sh, ssD ss)) x4 x5 x6 x7 x8) (I := fun r => ∃ x, okS x = true ∧ r = [some (.sh, S), some (.sh, .int k), some (.ow, m1), some (.sh, ssD ss), x4, x5, x6, x7, x8, none, x]) St.d (fun s => Eg.D.str (lineS s)) ss rfl rfl (by omega) ⟨none, rfl, rfl⟩ ?_ ?_
      · intro s hs r hr
        obtain ⟨x, hx, rfl⟩ := hr
        have ln := law_line (n + 5) s ss.length (h.all s hs) g8
        refine ⟨false, [some (.sh, S), some (.sh, .int k), some (.ow, m1), some (.sh, ssD ss), x4, x5, x6, x7, x8, none, some (.sh, s.d)], [some (.sh, S), some (.sh, .int k), some (.ow, m1), some (.sh, ssD ss), x4, x5, x6, x7, x8, none, some (.sh, s.d)], rfl, ?_, _, rfl, rfl⟩
        simp -dsimp -implicitDefEqProofs [Eg.run, ev, evL, evB, evA, evI, evO, evF, startR, two_late, two_none, CE.late, CE.isNil, peek_0, peek_s, slot_0, slot_s, unown_0, unown_s, Fl.shared, st_n, st_h, st_w, store_s, nxO, lift_some, fin_val, fin_bor, fin_tst, Eg.tru_ok, truth_bl, truth_int, subOf, Eg.eq_int, eq_str, ne_str, ne_int, eq_bl, outsOf, Fl.own, small, sizeLine, isT, ↓loopC_P, ↓loopF_P, loopCP_nil, loopCP_cons, loopFP_nil, loopFP_cons, ↓bind_P, ↓stm_P, ↓then_P, bindP_ok, stmP_ok, thenP_nx, thenP_rt, calm_ok, oneOf_1, oneOf_2, storeL, storeF, put_one, put_many_, blt_int_b, blt_int_i, blt_len_l, blt_len_t, blt_min, bin_add, bin_sub, Eg.cmp_gt, cmp_ge, cmp_lt, cmp_le, ix_l0, ixt0, ixt1, ixt2, ixt3, ixt4, ixt5, ixt6, ixl1, ixl2, mayWipe, restore, zipD, itemsD, callA, callB, fl_f, fl_lst, fl_dk, fl_ins, fl_tp, argD, djA, back, lentOf, D.isNon, isMu, muTy, putI_w, putI_b, putI_s, pairD_2, in_str, nin_str, anyEq_nil, anyEq_str, bin_addT, fld_1, ln]
      · intro r' hr
        obtain ⟨x, hx, rfl⟩ := hr
        rfl
    have e := ev_join (cl := callN tab (n + 6)) (a := .lit (.str "\n")) (r := lS S k (some (.ow, m1)) (some (.sh, ssD ss)) x4 x5 x6 x7 x8) (f := false) (s := Os "\n") rfl (bor_comp.trans cm) jl
    show (ev (callN tab (n + 6)) (.txt .join (.lit (.str "\n")) _) .val _).stm _ = _
    rw [e]
    show nxO (store (lS S k (some (.ow, m1)) (some (.sh, ssD ss)) x4 x5 x6 x7 x8) 4 false (.str (textS ss))) = _
    simp only [lS, store_s, store_0 h4, Option.map_some]
    rfl
  have s3 : Eg.run (callN tab (n + 6)) (nthS bT1 3) (lS S k (some (.ow, m1)) (some (.sh, ssD ss)) (some (.sh, .str (textS ss))) x5 x6 x7 x8) = .nx (lS S k (some (.ow, m1)) (some (.sh, ssD ss)) (some (.sh, .str (textS ss))) x5 x6 x7 x8) := by
    simp only [nthS, bT1, bodyS, bT, b_law, lS]
    simp -dsimp -implicitDefEqProofs [Eg.run, ev, evL, evB, evA, evI, evO, evF, startR, two_late, two_none, CE.late, CE.isNil, peek_0, peek_s, slot_0, slot_s, unown_0, unown_s, Fl.shared, st_n, st_h, st_w, store_s, nxO, lift_some, fin_val, fin_bor, fin_tst, Eg.tru_ok, truth_bl, truth_int, subOf, Eg.eq_int, eq_str, ne_str, ne_int, eq_bl, outsOf, Fl.own, small, sizeLine, isT, ↓loopC_P, ↓loopF_P, loopCP_nil, loopCP_cons, loopFP_nil, loopFP_cons, ↓bind_P, ↓stm_P, ↓then_P, bindP_ok, stmP_ok, thenP_nx, thenP_rt, calm_ok, oneOf_1, oneOf_2, storeL, storeF, put_one, put_many_, blt_int_b, blt_int_i, blt_len_l, blt_len_t, blt_min, bin_add, bin_sub, Eg.cmp_gt, cmp_ge, cmp_lt, cmp_le, ix_l0, ixt0, ixt1, ixt2, ixt3, ixt4, ixt5, ixt6, ixl1, ixl2, mayWipe, restore, zipD, itemsD, callA, callB, fl_f, fl_lst, fl_dk, fl_ins, fl_tp, argD, djA, back, lentOf, D.isNon, isMu, muTy, putI_w, putI_b, putI_s, pairD_2, in_str, nin_str, anyEq_nil, anyEq_str, bin_addT, fld_1, et, el, list_t0, fl_sc0, st, ↓nt]
  have s4 : Eg.run (callN tab (n + 6)) (nthS bT1 4) (lS S k (some (.ow, m1)) (some (.sh, ssD ss)) (some (.sh, .str (textS ss))) x5 x6 x7 x8) = .nx (lS S k (some (.ow, m1)) (some (.sh, ssD ss)) (some (.sh, .str (textS ss))) (some (.ow, .lst [scD ss, scD ss])) x6 x7 x8) := by
    simp only [nthS, bT1, bodyS, bT, b_law, lS]
    simp -dsimp -implicitDefEqProofs [Eg.run, ev, evL, evB, evA, evI, evO, evF, startR, two_late, two_none, CE.late, CE.isNil, peek_0, peek_s, slot_0, slot_s, unown_0, unown_s, Fl.shared, st_n, st_h, st_w, store_s, nxO, lift_some, fin_val, fin_bor, fin_tst, Eg.tru_ok, truth_bl, truth_int, subOf, Eg.eq_int, eq_str, ne_str, ne_int, eq_bl, outsOf, Fl.own, small, sizeLine, isT, ↓loopC_P, ↓loopF_P, loopCP_nil, loopCP_cons, loopFP_nil, loopFP_cons, ↓bind_P, ↓stm_P, ↓then_P, bindP_ok, stmP_ok, thenP_nx, thenP_rt, calm_ok, oneOf_1, oneOf_2, storeL, storeF, put_one, put_many_, blt_int_b, blt_int_i, blt_len_l, blt_len_t, blt_min, bin_add, bin_sub, Eg.cmp_gt, cmp_ge, cmp_lt, cmp_le, ix_l0, ixt0, ixt1, ixt2, ixt3, ixt4, ixt5, ixt6, ixl1, ixl2, mayWipe, restore, zipD, itemsD, callA, callB, fl_f, fl_lst, fl_dk, fl_ins, fl_tp, argD, djA, back, lentOf, D.isNon, isMu, muTy, putI_w, putI_b, putI_s, pairD_2, in_str, nin_str, anyEq_nil, anyEq_str, bin_addT, fld_1, rs, fl_sc0, store_0 h5]
  have qe := m_eq (n + 5) false false ss ss true (eq_self h).1
  have qn := ne_self h
  have s5 : Eg.run (callN tab (n + 6)) (nthS bT1 5) (lS S k (some (.ow, m1)) (some (.sh, ssD ss)) (some (.sh, .str (textS ss))) (some (.ow, .lst [scD ss, scD ss])) x6 x7 x8) = .nx (lS S k (some (.ow, m1)) (some (.sh, ssD ss)) (some (.sh, .str (textS ss))) (some (.ow, .lst [scD ss, scD ss])) x6 x7 x8) := by
    simp only [nthS, bT1, bodyS, bT, b_law, lS]
    simp -dsimp -implicitDefEqProofs [Eg.run, ev, evL, evB, evA, evI, evO, evF, startR, two_late, two_none, CE.late, CE.isNil, peek_0, peek_s, slot_0, slot_s, unown_0, unown_s, Fl.shared, st_n, st_h, st_w, store_s, nxO, lift_some, fin_val, fin_bor, fin_tst, Eg.tru_ok, truth_bl, truth_int, subOf, Eg.eq_int, eq_str, ne_str, ne_int, eq_bl, outsOf, Fl.own, small, sizeLine, isT, ↓loopC_P, ↓loopF_P, loopCP_nil, loopCP_cons, loopFP_nil, loopFP_cons, ↓bind_P, ↓stm_P, ↓then_P, bindP_ok, stmP_ok, thenP_nx, thenP_rt, calm_ok, oneOf_1, oneOf_2, storeL, storeF, put_one, put_many_, blt_int_b, blt_int_i, blt_len_l, blt_len_t, blt_min, bin_add, bin_sub, Eg.cmp_gt, cmp_ge, cmp_lt, cmp_le, ix_l0, ixt0, ixt1, ixt2, ixt3, ixt4, ixt5, ixt6, ixl1, ixl2, mayWipe, restore, zipD, itemsD, callA, callB, fl_f, fl_lst, fl_dk, fl_ins, fl_tp, argD, djA, back, lentOf, D.isNon, isMu, muTy, putI_w, putI_b, putI_s, pairD_2, in_str, nin_str, anyEq_nil, anyEq_str, bin_addT, fld_1, et, fl_sc0, dunF, eqk0, mo_eq, qe, dn_ne0, sc_fld2, qn]
  have s6 : Eg.run (callN tab (n + 6)) (nthS bT1 6) (lS S k (some (.ow, m1)) (some (.sh, ssD ss)) (some (.sh, .str (textS ss))) (some (.ow, .lst [scD ss, scD ss])) x6 x7 x8) = .nx (lS S k (some (.ow, m1)) (some (.sh, ssD ss)) (some (.sh, .str (textS ss))) (some (.ow, .lst [scD ss, scD ss])) (some (.ow, evL8)) x7 x8) := by
    simp only [nthS, bT1, bodyS, bT, b_law, lS, evL8, evW]
    simp -dsimp -implicitDefEqProofs [Eg.run, ev, evL, evB, evA, evI, evO, evF, startR, two_late, two_none, CE.late, CE.isNil, peek_0, peek_s, slot_0, slot_s, unown_0, unown_s, Fl.shared, st_n, st_h, st_w, store_s, nxO, lift_some, fin_val, fin_bor, fin_tst, Eg.tru_ok, truth_bl, truth_int, subOf, Eg.eq_int, eq_str, ne_str, ne_int, eq_bl, outsOf, Fl.own, small, sizeLine, isT, ↓loopC_P, ↓loopF_P, loopCP_nil, loopCP_cons, loopFP_nil, loopFP_cons, ↓bind_P, ↓stm_P, ↓then_P, bindP_ok, stmP_ok, thenP_nx, thenP_rt, calm_ok, oneOf_1, oneOf_2, storeL, storeF, put_one, put_many_, blt_int_b, blt_int_i, blt_len_l, blt_len_t, blt_min, bin_add, bin_sub, Eg.cmp_gt, cmp_ge, cmp_lt, cmp_le, ix_l0, ixt0, ixt1, ixt2, ixt3, ixt4, ixt5, ixt6, ixl1, ixl2, mayWipe, restore, zipD, itemsD, callA, callB, fl_f, fl_lst, fl_dk, fl_ins, fl_tp, argD, djA, back, lentOf, D.isNon, isMu, muTy, putI_w, putI_b, putI_s, pairD_2, in_str, nin_str, anyEq_nil, anyEq_str, bin_addT, fld_1, store_0 h6]
  obtain ⟨v, m2, e2, v0, v20, hm2⟩ := drawM (n + 5) (many := 20) hm1 (by omega) (by omega) (by omega)
  obtain ⟨u, rfl⟩ : ∃ u : Nat, v = u := ⟨v.toNat, by omega⟩
  let R : Eg.D → Option (Fl × Eg.D) → Option (Fl × Eg.D) → Option (Fl × Eg.D) → Rho := fun m x7 x8 x9 => [some (.sh, S), some (.sh, .int k), some (.ow, m), some (.sh, ssD ss), some (.sh, .str (textS ss)), some (.ow, .lst [scD ss, scD ss]), some (.ow, evL8), x7, x8, x9, none]
  have eI : evI (callN tab (n + 6)) (.rng1 (.call 13 "_law_draw" (.cons (.var 2) (.cons (.lit (.int (20))) .nil)))) (R m1 x7 x8 none) = .ok ((List.range u).map fun j => Eg.D.int (j : Nat)) (R m2 x7 x8 none) := by
    refine evI_rngC (b := false) ?_ (rng_D u (by omega))
    simp only [R]
    simp -dsimp -implicitDefEqProofs [Eg.run, ev, evL, evB, evA, evI, evO, evF, startR, two_late, two_none, CE.late, CE.isNil, peek_0, peek_s, slot_0, slot_s, unown_0, unown_s, Fl.shared, st_n, st_h, st_w, store_s, nxO, lift_some, fin_val, fin_bor, fin_tst, Eg.tru_ok, truth_bl, truth_int, subOf, Eg.eq_int, eq_str, ne_str, ne_int, eq_bl, outsOf, Fl.own, small, sizeLine, isT, ↓loopC_P, ↓loopF_P, loopCP_nil, loopCP_cons, loopFP_nil, loopFP_cons, ↓bind_P, ↓stm_P, ↓then_P, bindP_ok, stmP_ok, thenP_nx, thenP_rt, calm_ok, oneOf_1, oneOf_2, storeL, storeF, put_one, put_many_, blt_int_b, blt_int_i, blt_len_l, blt_len_t, blt_min, bin_add, bin_sub, Eg.cmp_gt, cmp_ge, cmp_lt, cmp_le, ix_l0, ixt0, ixt1, ixt2, ixt3, ixt4, ixt5, ixt6, ixl1, ixl2, mayWipe, restore, zipD, itemsD, callA, callB, fl_f, fl_lst, fl_dk, fl_ins, fl_tp, argD, djA, back, lentOf, D.isNon, isMu, muTy, putI_w, putI_b, putI_s, pairD_2, in_str, nin_str, anyEq_nil, anyEq_str, bin_addT, fld_1, e2]
  obtain ⟨ys, r', el7, ⟨m3, x9, h9, hr, hm3⟩, hP, hn7⟩ := loopC_ix (tg := oneOf [9]) (vs := [9]) (fc := fun r => if CE.nil.isNil then Out.ok true r else (ev (callN tab (n + 6)) CE.nil .tst r).bind fun x r => lift (isT x.2) r) (fe := fun r => (ev (callN tab (n + 6)) (.call 14 "_law_of" (.cons (.var 2) (.cons (.var 6) .nil))) .val r).bind fun x r => .ok x.2 r)
    (I := fun j r => ∃ m x9, okS x9 = true ∧ r = R m x7 x8 x9 ∧ Mt (0 + 70 + 1 + j) m) (P := fun y => ∃ w ∈ evW, y = .str w) ((List.range u).map fun j => Eg.D.int (j : Nat)) [] 0 (R m2 x7 x8 none) ⟨m2, none, rfl, rfl, Mt_le hm2 (by omega)⟩ (by simp [sizeLine]; omega) (fun x hx j r _ hj hr => by
      obtain ⟨i, _, rfl⟩ := List.mem_map.mp hx
      obtain ⟨m, x9, h9, rfl, hm⟩ := hr
      simp at hj
      obtain ⟨w, m', e, hw, hm'⟩ := ev_of (n + 4) (B := 0 + 70 + 1 + j) hm (by omega) true
      refine ⟨R m x7 x8 (some (.sh, .int i)), .str w, R m' x7 x8 (some (.sh, .int i)), rfl, rfl, ?_, ⟨w, hw, rfl⟩, m', _, rfl, rfl, Mt_le hm' (by push_cast; omega)⟩
      simp only [R]
      simp -dsimp -implicitDefEqProofs [Eg.run, ev, evL, evB, evA, evI, evO, evF, startR, two_late, two_none, CE.late, CE.isNil, peek_0, peek_s, slot_0, slot_s, unown_0, unown_s, Fl.shared, st_n, st_h, st_w, store_s, nxO, lift_some, fin_val, fin_bor, fin_tst, Eg.tru_ok, truth_bl, truth_int, subOf, Eg.eq_int, eq_str, ne_str, ne_int, eq_bl, outsOf, Fl.own, small, sizeLine, isT, ↓loopC_P, ↓loopF_P, loopCP_nil, loopCP_cons, loopFP_nil, loopFP_cons, ↓bind_P, ↓stm_P, ↓then_P, bindP_ok, stmP_ok, thenP_nx, thenP_rt, calm_ok, oneOf_1, oneOf_2, storeL, storeF, put_one, put_many_, blt_int_b, blt_int_i, blt_len_l, blt_len_t, blt_min, bin_add, bin_sub, Eg.cmp_gt, cmp_ge, cmp_lt, cmp_le, ix_l0, ixt0, ixt1, ixt2, ixt3, ixt4, ixt5, ixt6, ixl1, ixl2, mayWipe, restore, zipD, itemsD, callA, callB, fl_f, fl_lst, fl_dk, fl_ins, fl_tp, argD, djA, back, lentOf, D.isNon, isMu, muTy, putI_w, putI_b, putI_s, pairD_2, in_str, nin_str, anyEq_nil, anyEq_str, bin_addT, fld_1, e])
  subst hr
  obtain ⟨ws, rfl, hws⟩ := all_ev hP
  have hE : Evs ws := ⟨hws, by have : ws.length = u := by simpa using hn7
                               omega⟩
  have s7 : Eg.run (callN tab (n + 6)) (nthS bT1 7) (lS S k (some (.ow, m1)) (some (.sh, ssD ss)) (some (.sh, .str (textS ss))) (some (.ow, .lst [scD ss, scD ss])) (some (.ow, evL8)) x7 x8) = .nx (R m3 (some (.ow, .lst (ws.map Eg.D.str))) x8 none) := by
    have ec := ev_comp (cl := callN tab (n + 6)) (vs := [("_law_turn", 9)]) (tg := [9]) (cond := .nil) (elt := .call 14 "_law_of" (.cons (.var 2) (.cons (.var 6) .nil))) eI (by rfl) el7
    show (ev (callN tab (n + 6)) (.comp [("_law_turn", 9)] [9] (.rng1 (.call 13 "_law_draw" (.cons (.var 2) (.cons (.lit (.int (20))) .nil)))) .nil (.call 14 "_law_of" (.cons (.var 2) (.cons (.var 6) .nil)))) .val (R m1 x7 x8 none)).stm _ = _
    rw [ec]
    show nxO (store (R m3 x7 x8 none) 7 true (.lst (ws.map Eg.D.str))) = _
    simp only [R, store_s, store_0 h7, Option.map_some]
    rfl
  have jo := hE.jo
  have s8 : Eg.run (callN tab (n + 6)) (nthS bT1 8) (R m3 (some (.ow, .lst (ws.map Eg.D.str))) x8 none) = .nx (R m3 (some (.ow, .lst (ws.map Eg.D.str))) (some (.sh, .str (evS ws))) none) := by
    have e := ev_join (cl := callN tab (n + 6)) (a := .lit (.str " ")) (b := .var 7) (r := R m3 (some (.ow, .lst (ws.map Eg.D.str))) x8 none) (f := false) (s := Os " ") rfl rfl jo
    show (ev (callN tab (n + 6)) (.txt .join (.lit (.str " ")) (.var 7)) .val _).stm _ = _
    rw [e]
    show nxO (store (R m3 (some (.ow, .lst (ws.map Eg.D.str))) x8 none) 8 false (.str (evS ws))) = _
    simp only [R, store_s, store_0 h8, Option.map_some]
    rfl
  have et1 := events_text (n + 4) ws hE (f := .bo) (.inr ⟨rfl, rfl⟩)
  have et2 := events_text (n + 4) ws hE (f := .sh) (.inl ⟨rfl, rfl⟩)
  simp only [Fl.own] at et1 et2
  have n2 := ne_2s hE.ok
  have re := read_events (n + 4) ws hE
  have nq := (eq_lstr (ws := ws) fun w hw => (ev_gw (hws w hw)).k).2
  have s9 : Eg.run (callN tab (n + 6)) (nthS bT1 9) (R m3 (some (.ow, .lst (ws.map Eg.D.str))) (some (.sh, .str (evS ws))) none) = .nx (R m3 (some (.ow, .lst (ws.map Eg.D.str))) (some (.sh, .str (evS ws))) none) := by
    generalize ws.map Eg.D.str = Y at et1 et2 re nq
    generalize evS ws = T at et1 et2 n2 re
    simp only [nthS, bT1, bodyS, bT, b_law, R]
    simp -dsimp -implicitDefEqProofs [Eg.run, ev, evL, evB, evA, evI, evO, evF, startR, two_late, two_none, CE.late, CE.isNil, peek_0, peek_s, slot_0, slot_s, unown_0, unown_s, Fl.shared, st_n, st_h, st_w, store_s, nxO, lift_some, fin_val, fin_bor, fin_tst, Eg.tru_ok, truth_bl, truth_int, subOf, Eg.eq_int, eq_str, ne_str, ne_int, eq_bl, outsOf, Fl.own, small, sizeLine, isT, ↓loopC_P, ↓loopF_P, loopCP_nil, loopCP_cons, loopFP_nil, loopFP_cons, ↓bind_P, ↓stm_P, ↓then_P, bindP_ok, stmP_ok, thenP_nx, thenP_rt, calm_ok, oneOf_1, oneOf_2, storeL, storeF, put_one, put_many_, blt_int_b, blt_int_i, blt_len_l, blt_len_t, blt_min, bin_add, bin_sub, Eg.cmp_gt, cmp_ge, cmp_lt, cmp_le, ix_l0, ixt0, ixt1, ixt2, ixt3, ixt4, ixt5, ixt6, ixl1, ixl2, mayWipe, restore, zipD, itemsD, callA, callB, fl_f, fl_lst, fl_dk, fl_ins, fl_tp, argD, djA, back, lentOf, D.isNon, isMu, muTy, putI_w, putI_b, putI_s, pairD_2, in_str, nin_str, anyEq_nil, anyEq_str, bin_addT, fld_1, et1, et2, tpL, ↓n2, re, nq]
  subst hS
  refine ⟨some (.ow, m3), some (.sh, ssD ss), some (.sh, .str (textS ss)), some (.ow, .lst [scD ss, scD ss]), some (.ow, evL8), some (.ow, .lst (ws.map Eg.D.str)), some (.sh, .str (evS ws)), ?_, rfl, rfl, rfl, rfl, rfl, rfl, rfl⟩
  show (Eg.run (callN tab (n + 6)) (nthS bT1 0) _).then (fun r => (Eg.run (callN tab (n + 6)) (nthS bT1 1) r).then fun r => (Eg.run (callN tab (n + 6)) (nthS bT1 2) r).then fun r => (Eg.run (callN tab (n + 6)) (nthS bT1 3) r).then fun r => (Eg.run (callN tab (n + 6)) (nthS bT1 4) r).then fun r => (Eg.run (callN tab (n + 6)) (nthS bT1 5) r).then fun r => (Eg.run (callN tab (n + 6)) (nthS bT1 6) r).then fun r => (Eg.run (callN tab (n + 6)) (nthS bT1 7) r).then fun r => (Eg.run (callN tab (n + 6)) (nthS bT1 8) r).then fun r => (Eg.run (callN tab (n + 6)) (nthS bT1 9) r).then fun r => .nx r) = _
  rw [s0, then_nx, s1, then_nx, s2, then_nx, s3, then_nx, s4, then_nx, s5, then_nx, s6, then_nx, s7, then_nx, s8, then_nx, s9, then_nx]
  rfl
theorem tail_ok (S : Eg.D) (x1 x2 x3 x4 x5 x6 x7 x8 : Option (Fl × Eg.D)) (h3 : okS x3 = true) (h4 : okS x4 = true) : ∃ r, Eg.run (callN tab 13) (.cons (nthS bT 1) (.cons (nthS bT 2) (.cons (nthS bT 3) (.cons (nthS bT 4) .nil)))) [some (.sh, S), x1, x2, x3, x4, x5, x6, x7, x8, none, none] = .rt false (.bl true) r := by
  let T : Eg.D := .str (Os ("read tag got 1 mine 1 " ++ "unchanged 2 absent 2 " ++ "lost 0\nput stamp small " ++ "yes 2 no 0 lost 0\nend " ++ "open"))
  let U : Eg.D := .tup [.tup [.str (Os "read"), .str (Os "tag"), .int 1, .int 1, .int 2, .int 2, .int 0], .tup [.str (Os "put"), .str (Os "stamp"), .str (Os "small"), .int 2, .int 0, .int 0], .tup [.str (Os "end"), .str (Os "open")]]
  have a1 : Eg.run (callN tab 13) (nthS bT 1) [some (.sh, S), x1, x2, x3, x4, x5, x6, x7, x8, none, none] = .nx [some (.sh, S), x1, x2, x3, some (.sh, T), x5, x6, x7, x8, none, none] := by
    simp only [nthS, bT, b_law, T]
    simp -dsimp -implicitDefEqProofs [Eg.run, ev, evL, evB, evA, evI, evO, evF, startR, two_late, two_none, CE.late, CE.isNil, peek_0, peek_s, slot_0, slot_s, unown_0, unown_s, Fl.shared, st_n, st_h, st_w, store_s, nxO, lift_some, fin_val, fin_bor, fin_tst, Eg.tru_ok, truth_bl, truth_int, subOf, Eg.eq_int, eq_str, ne_str, ne_int, eq_bl, outsOf, Fl.own, small, sizeLine, isT, ↓loopC_P, ↓loopF_P, loopCP_nil, loopCP_cons, loopFP_nil, loopFP_cons, ↓bind_P, ↓stm_P, ↓then_P, bindP_ok, stmP_ok, thenP_nx, thenP_rt, calm_ok, oneOf_1, oneOf_2, storeL, storeF, put_one, put_many_, blt_int_b, blt_int_i, blt_len_l, blt_len_t, blt_min, bin_add, bin_sub, Eg.cmp_gt, cmp_ge, cmp_lt, cmp_le, ix_l0, ixt0, ixt1, ixt2, ixt3, ixt4, ixt5, ixt6, ixl1, ixl2, mayWipe, restore, zipD, itemsD, callA, callB, fl_f, fl_lst, fl_dk, fl_ins, fl_tp, argD, djA, back, lentOf, D.isNon, isMu, muTy, putI_w, putI_b, putI_s, pairD_2, in_str, nin_str, anyEq_nil, anyEq_str, bin_addT, fld_1, store_0 h4]
    kernel_rfl
  have a2 : Eg.run (callN tab 13) (nthS bT 2) [some (.sh, S), x1, x2, x3, some (.sh, T), x5, x6, x7, x8, none, none] = .nx [some (.sh, S), x1, x2, some (.sh, U), some (.sh, T), x5, x6, x7, x8, none, none] := by
    generalize T = T0
    simp only [nthS, bT, b_law, U]
    simp -dsimp -implicitDefEqProofs [Eg.run, ev, evL, evB, evA, evI, evO, evF, startR, two_late, two_none, CE.late, CE.isNil, peek_0, peek_s, slot_0, slot_s, unown_0, unown_s, Fl.shared, st_n, st_h, st_w, store_s, nxO, lift_some, fin_val, fin_bor, fin_tst, Eg.tru_ok, truth_bl, truth_int, subOf, Eg.eq_int, eq_str, ne_str, ne_int, eq_bl, outsOf, Fl.own, small, sizeLine, isT, ↓loopC_P, ↓loopF_P, loopCP_nil, loopCP_cons, loopFP_nil, loopFP_cons, ↓bind_P, ↓stm_P, ↓then_P, bindP_ok, stmP_ok, thenP_nx, thenP_rt, calm_ok, oneOf_1, oneOf_2, storeL, storeF, put_one, put_many_, blt_int_b, blt_int_i, blt_len_l, blt_len_t, blt_min, bin_add, bin_sub, Eg.cmp_gt, cmp_ge, cmp_lt, cmp_le, ix_l0, ixt0, ixt1, ixt2, ixt3, ixt4, ixt5, ixt6, ixl1, ixl2, mayWipe, restore, zipD, itemsD, callA, callB, fl_f, fl_lst, fl_dk, fl_ins, fl_tp, argD, djA, back, lentOf, D.isNon, isMu, muTy, putI_w, putI_b, putI_s, pairD_2, in_str, nin_str, anyEq_nil, anyEq_str, bin_addT, fld_1, store_0 h3]
  have a3 : Eg.run (callN tab 13) (.cons (nthS bT 3) (.cons (nthS bT 4) .nil)) [some (.sh, S), x1, x2, some (.sh, U), some (.sh, T), x5, x6, x7, x8, none, none] = .rt false (.bl true) [some (.sh, S), x1, x2, some (.sh, U), some (.sh, T), x5, x6, x7, x8, none, none] := by
    kernel_rfl
  exact ⟨_, by rw [run_cons, a1, then_nx, run_cons, a2, then_nx, a3]⟩
theorem law_ok (ns : List Int) (hn : ns.length ≤ 63) : ∃ outs, callN tab 14 19 [(false, .lst (ns.map Eg.D.int))] = .ok false (.bl true) outs := by
  let N : Int := 1 + (if (9 : Int) < ns.length then 9 else (ns.length : Int))
  obtain ⟨u, hu⟩ : ∃ u : Nat, N = u := ⟨N.toNat, by simp only [N]; split <;> omega⟩
  have hu8 : u ≤ 10 := by
    have : N ≤ 10 := by simp only [N]; split <;> omega
    omega
  have ec : ev (callN tab 13) (.bin .add (.lit (.int (1))) (.blt .min (.cons (.blt .len (.cons (.var 0) .nil)) (.cons (.lit (.int (9))) .nil)))) .bor [some (.sh, .lst (ns.map Eg.D.int)), none, none, none, none, none, none, none, none, none, none] = .ok (false, .int u) [some (.sh, .lst (ns.map Eg.D.int)), none, none, none, none, none, none, none, none, none, none] := by
    rw [← hu]
    simp -dsimp -implicitDefEqProofs [Eg.run, ev, evL, evB, evA, evI, evO, evF, startR, two_late, two_none, CE.late, CE.isNil, peek_0, peek_s, slot_0, slot_s, unown_0, unown_s, Fl.shared, st_n, st_h, st_w, store_s, nxO, lift_some, fin_val, fin_bor, fin_tst, Eg.tru_ok, truth_bl, truth_int, subOf, Eg.eq_int, eq_str, ne_str, ne_int, eq_bl, outsOf, Fl.own, small, sizeLine, isT, ↓loopC_P, ↓loopF_P, loopCP_nil, loopCP_cons, loopFP_nil, loopFP_cons, ↓bind_P, ↓stm_P, ↓then_P, bindP_ok, stmP_ok, thenP_nx, thenP_rt, calm_ok, oneOf_1, oneOf_2, storeL, storeF, put_one, put_many_, blt_int_b, blt_int_i, blt_len_l, blt_len_t, blt_min, bin_add, bin_sub, Eg.cmp_gt, cmp_ge, cmp_lt, cmp_le, ix_l0, ixt0, ixt1, ixt2, ixt3, ixt4, ixt5, ixt6, ixl1, ixl2, mayWipe, restore, zipD, itemsD, callA, callB, fl_f, fl_lst, fl_dk, fl_ins, fl_tp, argD, djA, back, lentOf, D.isNon, isMu, muTy, putI_w, putI_b, putI_s, pairD_2, in_str, nin_str, anyEq_nil, anyEq_str, bin_addT, fld_1, N]
  have eI := evI_rngC ec (rng_D u (by omega))
  obtain ⟨r', el, x1, x2, x3, x4, x5, x6, x7, x8, hr, _, _, h3, h4, _⟩ := loopF_all (tg := oneOf [1]) (fb := Eg.run (callN tab 13) bT1) (I := fun r => ∃ x1 x2 x3 x4 x5 x6 x7 x8, r = [some (.sh, .lst (ns.map Eg.D.int)), x1, x2, x3, x4, x5, x6, x7, x8, none, none] ∧ okS x1 = true ∧ okS x2 = true ∧ okS x3 = true ∧ okS x4 = true ∧ okS x5 = true ∧ okS x6 = true ∧ okS x7 = true ∧ okS x8 = true) ((List.range u).map fun j => Eg.D.int (j : Nat)) [some (.sh, .lst (ns.map Eg.D.int)), none, none, none, none, none, none, none, none, none, none] ⟨none, none, none, none, none, none, none, none, rfl, rfl, rfl, rfl, rfl, rfl, rfl, rfl, rfl⟩ (fun x hx r hr => by
    obtain ⟨k, _, rfl⟩ := List.mem_map.mp hx
    obtain ⟨x1, x2, x3, x4, x5, x6, x7, x8, rfl, h1, h2, h3, h4, h5, h6, h7, h8⟩ := hr
    obtain ⟨y2, y3, y4, y5, y6, y7, y8, eb, k2, k3, k4, k5, k6, k7, k8⟩ := law_turn 7 ns hn k x2 x3 x4 x5 x6 x7 x8 h2 h3 h4 h5 h6 h7 h8
    refine ⟨lS (.lst (ns.map Eg.D.int)) k x2 x3 x4 x5 x6 x7 x8, _, ?_, eb, _, y2, y3, y4, y5, y6, y7, y8, rfl, rfl, k2, k3, k4, k5, k6, k7, k8⟩
    show Tg.put _ (.one 1) _ = _
    rw [put_one]
    simp only [store_s, store_0 h1, Option.map_some]
    rfl)
  subst hr
  have s0 : Eg.run (callN tab 13) (nthS bT 0) [some (.sh, .lst (ns.map Eg.D.int)), none, none, none, none, none, none, none, none, none, none] = _ := (run_fors (tg := [1]) (b := bT1) eI).trans el
  obtain ⟨r, s1⟩ := tail_ok (.lst (ns.map Eg.D.int)) x1 x2 x3 x4 x5 x6 x7 x8 h3 h4
  have eR : Eg.run (callN tab 13) f_law.body (startR f_law [(false, .lst (ns.map Eg.D.int))]) = .rt false (.bl true) r := by
    have h5 : f_law.body = .cons (nthS bT 0) (.cons (nthS bT 1) (.cons (nthS bT 2) (.cons (nthS bT 3) (.cons (nthS bT 4) .nil)))) := rfl
    have hR : startR f_law [(false, .lst (ns.map Eg.D.int))] = [some (.sh, .lst (ns.map Eg.D.int)), none, none, none, none, none, none, none, none, none, none] := rfl
    rw [h5, hR, run_cons, s0, then_nx, s1]
  exact ⟨_, callFn_rt (cl := callN tab 13) (f := f_law) rfl eR⟩
end Law
theorem PySem.Challenge.cw_putonlyif_k62_whole_texts_holds : PySem.Challenge.rw_putonlyif_k62_whole_texts.Holds := by
  exact Law.holds_of Law.law_ok
