import PyProof.Rows.All
import Wide.All
import OpenK.AllK
import Wide.FinOn
import HandS.ForMost
import HandS.IsInst
import HandS.Evl
import HandS.Style
import HandS.Walk
import HandS.Conv
import HandS.Zip
import HandS.StrMore
import HandS.ReplaceList
import HandS.ReplaceLit
import KE.SortKeyHeap
import HandS.TupAny
import HandS.Flow
import HandS.Deep
import HandS.TupLe
import HandS.SetFor
import HandS.Replace
import HandS.RaiseMore
import HandS.ExcIs
import HandS.ExcCtx
import HandS.HotCalls
import HandS.HeadHook1
import HandS.SortKw
import KE.GoesNew
import HandS.Text
import HandS.TryMany
import PySem.Challenge.RW_tablestore_k26_whole_many_deeds
set_option Elab.async false
set_option linter.all false
set_option maxRecDepth 100000
set_option maxHeartbeats 4000000
set_option autoImplicit false
/-! the small language: values, expressions, statements, and what they come to -/
namespace Fw
open PySem L2

abbrev DK := Sum Int (List Nat)
inductive D where
  | non | bl (b : Bool) | int (i : Int) | str (s : List Nat) | tup (xs : List D) | lst (xs : List D)
  | dct (ks : List DK) (vs : List D) | ins (c : Nat) (fs : List D)

inductive R (α : Type) where
  | ok (a : α) | exc (c : Nat) | stuck
def R.bind {α β : Type} : R α → (α → R β) → R β
  | .ok a, f => f a
  | .exc c, _ => .exc c
  | .stuck, _ => .stuck
@[simp] theorem R.bind_ok {α β : Type} (a : α) (f : α → R β) : (R.ok a).bind f = f a := (rfl)
theorem R.bind_inv {α β : Type} {r : R α} {f : α → R β} {b : β} (h : r.bind f = .ok b) : ∃ a, r = .ok a ∧ f a = .ok b := by
  cases r with
  | ok a => exact ⟨a, rfl, h⟩
  | exc c => cases h
  | stuck => cases h

/-- a slot of a def's frame -/
inductive Sl where
  | no | dat (d : D) | own (xs : List D)
abbrev En := List Sl

inductive Op2 where | add | sub | mul | fdiv | mod | pow
inductive Cp where | eq | ne | lt | le | gt | ge | isin | notin
inductive Ty where | int | str | bool | tuple | list | dict
inductive Blt where | len | isi (t : Ty) | intOf | strOf | listOf | tupleOf | absOf | max2 | min2 | sumOf | allOf
inductive Mth where | join | find | replace | index | split | part | count | startsw | lcount
inductive Md where | val | bor | test
inductive E where
  | var (i : Nat) | int (i : Int) | str (s : List Nat) | bl (b : Bool) | non | glob (g : Nat)
  | op (o : Op2) (a b : E) | neg (a : E)
  | cmp (c : Cp) (a b : E) | chain (c c' : Cp) (a b d : E)
  | isN (a : E) | notN (a : E) | isB (b : Bool) (a : E) | notB (b : Bool) (a : E)
  | and (as : List E) | or (as : List E) | not (a : E)
  | ite (c a b : E)
  | tup (as : List E) | lst (as : List E) | dnew
  | call (f : Nat) (as : List E)
  | blt (f : Blt) (as : List E)
  | mth (m : Mth) (o : E) (as : List E)
  | ix (a i : E)
  | sl (a lo hi : E) | nop
  | lc (ws ts : List Nat) (src : E) (c e : E)
  | rep (as : List E) (b : E)
  | qrep (c : List Nat) (o : E) (y z : List Nat)
  | srep (o : E) (lo : Int) (hi : E) (y z : List Nat)
  | pick (kvs : List (List Nat × Int)) (k : E)
  | rng (as : List E) | zip (a b : E) | enum (a : E) | rev (a : E)
  | repl (o : E) (y z : List Nat)
  | srt (f : Nat) (a : E) | bcall (f : Nat) (as : List E)
/-- what may raise: a call; a tuple of such -/
inductive EX where
  | e (a : E) | call (f : Nat) (as : List E) | tup (as : List EX)
/-- what is done with it -/
inductive TK where | set (i : Nat) | own (i : Nat) | expr | ret | retf | app (i : Nat)
/-- an expression of an except suite -/
inductive U where
  | e (a : E) | isx (h : Nat) | isT (hs : List Nat) | no (a : U) | an (a b : U) | orr (a b : U)
  | callE (f : Nat) | ls (us : List U)
/-- a statement of it: return u; if u: return r; raise -/
inductive SU where | ret (u : U) | ifr (u r : U)
inductive S where
  | set (i : Nat) (e : E) | own (i : Nat) (e : E) | freeze (i : Nat)
  | unp (is : List Nat) (e : E)
  | expr (e : E) | app (i : Nat) (e : E) | seti (i : Nat) (k e : E) | orl (i : Nat) (e : E) | pop1 (i : Nat) (e : E) | pop2 (i : Nat) (e : E)
  | ret (e : E) | retF (e : E) | retO (i : Nat) | retN
  | ite (c : E) (a b : List S)
  | fr (ts : List Nat) (src : E) (b : List S)
  | wh (c : E) (b : List S)
  | tryb (b : List S)
  | tks (i : Nat) (a : E) (lo : Int) (hi : E) (rest : List S)
  | x (k : TK) (e : EX) | raise (c : Nat) | trys (b : List S) (m : Nat) (hs : List (Nat × List SU)) | tryas (b : List S) (m h i : Nat) (su : List SU)
  | ext (i : Nat) (e : E) | clr (i : Nat) | unpi (i j : Nat) (k l : Int) (e : E)
  | brk | cont | never

def LIM : Nat := 16777216
def noX {α : Type} : R α → R α
  | .ok a => .ok a
  | _ => .stuck
theorem noX_inv {α : Type} {r : R α} {a : α} (h : noX r = .ok a) : r = .ok a := by
  cases r <;> first | exact h | cases h
@[simp] theorem noX_ok {α : Type} (a : α) : noX (R.ok a) = .ok a := (rfl)
theorem noX_exc {α : Type} {r : R α} {c : Nat} (h : noX r = .exc c) : False := by cases r <;> cases h
def req {α : Type} (p : Prop) [Decidable p] (r : R α) : R α := if p then r else .stuck
theorem req_inv {α : Type} {p : Prop} [Decidable p] {r : R α} {a : α} (h : req p r = .ok a) : p ∧ r = .ok a := by
  unfold req at h
  by_cases hp : p
  · rw [if_pos hp] at h; exact ⟨hp, h⟩
  · rw [if_neg hp] at h; cases h
theorem req_pos {α : Type} {p : Prop} [Decidable p] {r : R α} (hp : p) : req p r = r := if_pos hp

def smallI (i : Int) : Prop := -(2 ^ 64) < i ∧ i < 2 ^ 64
instance (i : Int) : Decidable (smallI i) := inferInstanceAs (Decidable (_ ∧ _))

def op2 : Op2 → D → D → R D
  | .add, .int i, .int j => .ok (.int (i + j))
  | .add, .str x, .str y => req (x.length + y.length ≤ LIM) (.ok (.str (x ++ y)))
  | .add, .lst x, .lst y => req (x.length + y.length ≤ LIM) (.ok (.lst (x ++ y)))
  | .add, .tup x, .tup y => req (x.length + y.length ≤ LIM) (.ok (.tup (x ++ y)))
  | .sub, .int i, .int j => .ok (.int (i - j))
  | .mul, .int i, .int j => req (smallI i ∨ smallI j) (.ok (.int (i * j)))
  | .mul, .str x, .int k => req (-2147483648 < k ∧ k < 2147483648 ∧ x.length ≤ LIM ∧ x.length * k.toNat ≤ LIM) (.ok (.str (List.replicate k.toNat x).flatten))
  | .fdiv, .int i, .int j => req (0 < j ∧ j < 1073741824) (.ok (.int (i / j)))
  | .mod, .int i, .int j => req (0 < j) (.ok (.int (i % j)))
  | .pow, .int i, .int j => req (0 ≤ j ∧ j ≤ 1000000 ∧ i.natAbs < 2 ^ 64) (.ok (.int (i ^ j.toNat)))
  | _, _, _ => .stuck

/-! equality of data -/
mutual
def eqD : D → D → Bool
  | .non, .non => true
  | .bl a, .bl b => a == b
  | .bl a, .int j => (if a then 1 else 0) == j
  | .int i, .bl b => i == (if b then 1 else 0)
  | .int i, .int j => i == j
  | .str x, .str y => x == y
  | .tup xs, .tup ys => eqDs xs ys
  | .lst xs, .lst ys => eqDs xs ys
  | _, _ => false
def eqDs : List D → List D → Bool
  | [], [] => true
  | x :: xs, y :: ys => eqD x y && eqDs xs ys
  | _, _ => false
end
/-- nested at most so deep, of plain things -/
def dle : Nat → D → Bool
  | _, .non => true
  | _, .bl _ => true
  | _, .int _ => true
  | _, .str _ => true
  | n + 1, .tup xs => xs.all (dle n)
  | n + 1, .lst xs => xs.all (dle n)
  | _, _ => false
def isFlat : D → Bool
  | .non => true | .bl _ => true | .int _ => true | .str _ => true | _ => false

def ltS : List Nat → List Nat → Bool := fun x y => decide (x < y)
/-- tuples of numbers and texts, from the left -/
def cmpF : D → D → Bool
  | .int _, .int _ => true
  | .str _, .str _ => true
  | .non, .non => true
  | _, _ => false
def pairsOk : List D → List D → Bool
  | x :: xs, y :: ys => cmpF x y && pairsOk xs ys
  | _, _ => true
def ltF : D → D → Bool
  | .int i, .int j => decide (i < j)
  | .str x, .str y => ltS x y
  | _, _ => false
def lexT : List D → List D → Bool
  | [], [] => false
  | [], _ :: _ => true
  | _ :: _, [] => false
  | x :: xs, y :: ys => if eqD x y = true then lexT xs ys else ltF x y
def lexG : List D → List D → Bool
  | [], [] => false
  | [], _ :: _ => false
  | _ :: _, [] => true
  | x :: xs, y :: ys => if eqD x y = true then lexG xs ys else ltF y x
def cmpD : Cp → D → D → R Bool
  | .eq, a, b => req (dle 60 a = true ∧ dle 60 b = true) (.ok (eqD a b))
  | .ne, a, b => req (dle 60 a = true ∧ dle 60 b = true) (.ok (!eqD a b))
  | .lt, .int i, .int j => .ok (decide (i < j))
  | .le, .int i, .int j => .ok (decide (i ≤ j))
  | .gt, .int i, .int j => .ok (decide (j < i))
  | .ge, .int i, .int j => .ok (decide (j ≤ i))
  | .lt, .str x, .str y => .ok (ltS x y)
  | .lt, .tup xs, .tup ys => req (pairsOk xs ys = true) (.ok (lexT xs ys))
  | .le, .str x, .str y => .ok (!ltS y x)
  | .gt, .str x, .str y => .ok (ltS y x)
  | .gt, .tup xs, .tup ys => req (pairsOk xs ys = true) (.ok (lexG xs ys))
  | .ge, .str x, .str y => .ok (!ltS x y)
  | .isin, .str [c], .str y => .ok (decide (c ∈ y))
  | .notin, .str [c], .str y => .ok (!decide (c ∈ y))
  | .isin, a, .lst ys => req (dle 60 a = true ∧ ys.all (dle 59) = true) (.ok (ys.any fun y => eqD y a))
  | .notin, a, .lst ys => req (dle 60 a = true ∧ ys.all (dle 59) = true) (.ok (!ys.any fun y => eqD y a))
  | .isin, a, .tup ys => req (isFlat a = true ∧ ys.all isFlat = true) (.ok (ys.any fun y => eqD y a))
  | .notin, a, .tup ys => req (isFlat a = true ∧ ys.all isFlat = true) (.ok (!ys.any fun y => eqD y a))
  | _, _, _ => .stuck

def tru : D → R Bool
  | .non => .ok false
  | .bl b => .ok b
  | .int i => .ok (i != 0)
  | .str s => req (s.length ≤ LIM) (.ok (!s.isEmpty))
  | .lst xs => .ok (!xs.isEmpty)
  | .tup xs => .ok (!xs.isEmpty)
  | _ => .stuck
def isTy : Ty → D → R Bool
  | _, .ins _ _ => .stuck
  | .int, .int _ => .ok true
  | .int, .bl _ => .ok true
  | .bool, .bl _ => .ok true
  | .str, .str _ => .ok true
  | .tuple, .tup _ => .ok true
  | .list, .lst _ => .ok true
  | .dict, .dct _ _ => .ok true
  | _, _ => .ok false

/-- the place of a subscript -/
def atD {α : Type} (xs : List α) (i : Int) : R α := match atI xs i with
  | some a => .ok a
  | none => .stuck
def ixD : D → D → R D
  | .lst xs, .int i => atD xs i
  | .tup xs, .int i => atD xs i
  | .str s, .int i => req (s.length ≤ LIM) ((atD s i).bind fun c => .ok (.str [c]))
  | _, _ => .stuck
def cutL {α : Type} (xs : List α) (lo hi : Option Int) : List α := (xs.drop (HT.sIx xs.length 0 lo)).take (HT.sIx xs.length xs.length hi - HT.sIx xs.length 0 lo)
def slD : D → Option Int → Option Int → R D
  | .lst xs, lo, hi => .ok (.lst (cutL xs lo hi))
  | .tup xs, lo, hi => .ok (.tup (cutL xs lo hi))
  | .str s, lo, hi => req (s.length ≤ LIM) (.ok (.str (cutL s lo hi)))
  | _, _, _ => .stuck

/-- the texts of a list -/
def strsD : List D → R (List (List Nat))
  | [] => .ok []
  | .str s :: r => (strsD r).bind fun q => .ok (s :: q)
  | _ :: _ => .stuck
def okB (s : List Nat) : Bool := s.all fun c => decide (c < 0x110000)
def strI (i : Int) : List Nat := (Str.ofString (toString i)).cps.toList
def blsD : List D → R (List Bool)
  | [] => .ok []
  | .bl b :: r => (blsD r).bind fun q => .ok (b :: q)
  | _ :: _ => .stuck
def intsD : List D → R (List Int)
  | [] => .ok []
  | .int b :: r => (intsD r).bind fun q => .ok (b :: q)
  | _ :: _ => .stuck
def bltD : Blt → List D → R D
  | .len, [.str s] => req (s.length ≤ LIM) (.ok (.int s.length))
  | .len, [.lst xs] => .ok (.int xs.length)
  | .len, [.tup xs] => .ok (.int xs.length)
  | .isi t, [d] => (isTy t d).bind fun b => .ok (.bl b)
  | .intOf, [.bl b] => .ok (.int (if b then 1 else 0))
  | .intOf, [.int i] => .ok (.int i)
  | .intOf, [.str s] => (match intText? ⟨s.toArray⟩ with
    | some n => req (s.length ≤ 640) (.ok (.int n))
    | none => .stuck)
  | .strOf, [.str s] => .ok (.str s)
  | .strOf, [.int i] => req (i.natAbs < 2 ^ 1000 ∧ okB (strI i) = true) (.ok (.str (strI i)))
  | .allOf, [.lst xs] => (blsD xs).bind fun bs => .ok (.bl (bs.all id))
  | .sumOf, [.lst xs] => (intsD xs).bind fun ns => .ok (.int ns.sum)
  | .listOf, [.lst xs] => .ok (.lst xs)
  | .listOf, [.tup xs] => .ok (.lst xs)
  | .tupleOf, [.lst xs] => .ok (.tup xs)
  | .tupleOf, [.tup xs] => .ok (.tup xs)
  | .absOf, [.int i] => .ok (.int (if i < 0 then -i else i))
  | .max2, [.int i, .int j] => .ok (.int (if j > i then j else i))
  | .min2, [.int i, .int j] => .ok (.int (if j < i then j else i))
  | _, _ => .stuck
def findL (a b : List Nat) : Int := Txt.find ⟨a.toArray⟩ ⟨b.toArray⟩
def splitT (a b : List Nat) : List (List Nat) := (Txt.split ⟨a.toArray⟩ ⟨b.toArray⟩).map fun s => s.cps.toList
def part3 (a b : List Nat) : Str × Str × Str := Txt.partition ⟨a.toArray⟩ ⟨b.toArray⟩
def cntL (a b : List Nat) : Int := Txt.count ⟨a.toArray⟩ ⟨b.toArray⟩
def find3L (a b : List Nat) (i : Int) : Int := Txt.find3 ⟨a.toArray⟩ ⟨b.toArray⟩ i
def mthD : Mth → D → List D → R D
  | .join, .str s, [.lst xs] => (strsD xs).bind fun q => req ((q.map (·.length)).sum + q.length * s.length ≤ LIM) (.ok (.str (TL.joinL s q)))
  | .find, .str a, [.str b] => .ok (.int (findL a b))
  | .find, .str a, [.str b, .int i] => .ok (.int (find3L a b i))
  | .index, .str a, [.str b] => (match PySem.Builtin.Str.occurrences ⟨a.toArray⟩ ⟨b.toArray⟩ 0 a.length 1 with
    | i :: _ => .ok (.int (i : Nat))
    | [] => .stuck)
  | .count, .str a, [.str b] => .ok (.int (cntL a b))
  | .lcount, .lst xs, [.int k] => (intsD xs).bind fun ns => .ok (.int (ns.count k : Nat))
  | .split, .str a, [.str b] => req (b ≠ [] ∧ a.length + 2 ≤ LIM) (.ok (.lst ((splitT a b).map .str)))
  | .part, .str a, [.str b] => req (b ≠ [] ∧ a.length ≤ LIM) (.ok (.tup [.str (part3 a b).1.cps.toList, .str (part3 a b).2.1.cps.toList, .str (part3 a b).2.2.cps.toList]))
  | _, _, _ => .stuck

def post : Md → D → R D
  | .test, d => (tru d).bind fun b => .ok (.bl b)
  | _, d => .ok d
def getV : Md → Option Sl → R D
  | _, some (.dat d) => .ok d
  | .bor, some (.own xs) => .ok (.lst xs)
  | .test, some (.own xs) => .ok (.lst xs)
  | _, _ => .stuck
def wipeE (δ : En) : List Nat → En
  | [] => δ
  | v :: vs => (wipeE δ vs).set v .no
/-- what is laid into names -/
def layN (ts : List Nat) (d : D) (δ : En) : R En := match ts, d with
  | [t], d => .ok (δ.set t (.dat d))
  | [t, u], .tup [x, y] => .ok ((δ.set t (.dat x)).set u (.dat y))
  | _, _ => .stuck
def lcL (lay : D → R En) (c e : En → R D) : List D → R (List D)
  | [] => .ok []
  | x :: xs => (lay x).bind fun δ => (c δ).bind fun b => match b with
    | .bl true => (e δ).bind fun y => (lcL lay c e xs).bind fun ys => .ok (y :: ys)
    | .bl false => lcL lay c e xs
    | _ => .stuck
def itemsD : D → R (List D)
  | .lst xs => .ok xs
  | .tup xs => .ok xs
  | .str s => .ok (s.map fun c => .str [c])
  | _ => .stuck
def zipD : List D → List D → List D
  | x :: xs, y :: ys => .tup [x, y] :: zipD xs ys
  | _, _ => []
def enumD : Nat → List D → List D
  | _, [] => []
  | n, x :: xs => .tup [.int n, x] :: enumD (n + 1) xs
def zipR : D → D → R (List D)
  | .lst xs, .lst ys => .ok (zipD xs ys)
  | .tup xs, .tup ys => .ok (zipD xs ys)
  | .str xs, .str ys => .ok (zipD (xs.map fun c => .str [c]) (ys.map fun c => .str [c]))
  | _, _ => .stuck
def enumR : D → R (List D)
  | .lst xs => .ok (enumD 0 xs)
  | .tup xs => .ok (enumD 0 xs)
  | _ => .stuck
def rngD : List D → R (List D)
  | [.int j] => req (-4611686018427387904 ≤ j ∧ j < 4611686018427387904) (.ok ((List.range j.toNat).map fun (k : Nat) => .int k))
  | [.int i, .int j] => req ((-4611686018427387904 ≤ i ∧ i < 4611686018427387904) ∧ (-4611686018427387904 ≤ j ∧ j < 4611686018427387904)) (.ok ((List.range (j - i).toNat).map fun (k : Nat) => .int (i + k)))
  | [.int i, .int j, .int c] => req (c ≠ 0 ∧ c.natAbs < 1073741824 ∧ PySem.Builtin.Range.small i j c = true) (.ok ((List.range (PySem.Builtin.Range.rangeSize i j c).toNat).map fun (k : Nat) => .int (i + k * c)))
  | _ => .stuck
def partD : D → R (Option Int)
  | .int i => .ok (some i)
  | _ => .stuck

/-- the last pair with the key -/
def pickF (kvs : List (List Nat × Int)) (s : List Nat) : Option Int := kvs.foldl (fun acc kv => if s = kv.1 then some kv.2 else acc) none
def pickD (kvs : List (List Nat × Int)) : D → R D
  | .str s => (match pickF kvs s with | some i => .ok (.int i) | none => .stuck)
  | _ => .stuck
/-- the last of a list; the last two -/
def last1 (xs : List D) : Option (List D × D) := match xs.reverse with
  | y :: r => some (r.reverse, y)
  | _ => none
def last2 (xs : List D) : Option (List D × D × D) := match xs.reverse with
  | y :: x :: r => some (r.reverse, x, y)
  | _ => none
mutual
/-- no list and no dict within -/
def noL : D → Bool
  | .lst _ => false
  | .dct _ _ => false
  | .ins _ _ => false
  | .tup xs => noLs xs
  | _ => true
def noLs : List D → Bool
  | [] => true
  | x :: xs => noL x && noLs xs
end
/-! sorted by keys that a def gives: tuples of numbers and texts -/
def pdOf : D → Option PyData
  | .int i => some (.int i)
  | .str s => some (.str ⟨s.toArray⟩)
  | _ => none
def pdsOf : List D → Option (List PyData)
  | [] => some []
  | d :: ds => match pdOf d with
    | some k => (match pdsOf ds with
      | some ks => some (k :: ks)
      | none => none)
    | none => none
def keyOf : D → Option PyData
  | .tup [] => none
  | .tup ds => (match pdsOf ds with
    | some ks => some (.tuple ks)
    | none => none)
  | _ => none
def keysD : List D → Option (List PyData)
  | [] => some []
  | d :: ds => match keyOf d with
    | some k => (match keysD ds with
      | some ks => some (k :: ks)
      | none => none)
    | none => none
def mapC (g : List D → R (D × Bool)) : List D → R (List D)
  | [] => .ok []
  | d :: ds => (g [d]).bind fun r => (mapC g ds).bind fun ks => .ok (r.1 :: ks)
def srtD (xs ks : List D) : R D := match keysD ks with
  | some kz => req ((kz.all fun d => kz.all fun d' => PySem.W.alike d d') = true) (.ok (.lst (((kz.zip xs).mergeSort (PySem.W.dataLe false Prod.fst)).map Prod.snd)))
  | none => .stuck
section
variable (C : Nat → List D → R (D × Bool)) (G : List D)
mutual
def ev (m : Md) : E → En → R D
  | .var i, δ => (getV m δ[i]?).bind (post m)
  | .int i, _ => post m (.int i)
  | .str s, _ => post m (.str s)
  | .bl b, _ => .ok (.bl b)
  | .non, _ => post m .non
  | .glob g, _ => match G[g]? with
    | some d => post m d
    | none => .stuck
  | .op o a b, δ => (ev .bor a δ).bind fun x => (ev .bor b δ).bind fun y => (op2 o x y).bind (post m)
  | .neg a, δ => (ev .val a δ).bind fun x => match x with
    | .int i => post m (.int (-i))
    | _ => .stuck
  | .cmp c a b, δ => (ev .bor a δ).bind fun x => (ev .bor b δ).bind fun y => (cmpD c x y).bind fun k => .ok (.bl k)
  | .chain c c' a b d, δ => (ev .bor a δ).bind fun x => (ev .bor b δ).bind fun y => (cmpD c x y).bind fun k =>
      if k then (ev .bor d δ).bind fun z => (cmpD c' y z).bind fun k' => .ok (.bl k') else .ok (.bl false)
  | .isN a, δ => (ev .bor a δ).bind fun x => match x with
    | .non => .ok (.bl true)
    | _ => .ok (.bl false)
  | .notN a, δ => (ev .bor a δ).bind fun x => match x with
    | .non => .ok (.bl false)
    | _ => .ok (.bl true)
  | .isB b a, δ => (ev .bor a δ).bind fun x => match x with
    | .bl c => .ok (.bl (c == b))
    | _ => .ok (.bl false)
  | .notB b a, δ => (ev .bor a δ).bind fun x => match x with
    | .bl c => .ok (.bl (!(c == b)))
    | _ => .ok (.bl true)
  | .and as, δ => evA m as δ
  | .or as, δ => evO m as δ
  | .not a, δ => match m with
    | .test => (ev .test a δ).bind fun x => match x with
      | .bl b => .ok (.bl (!b))
      | _ => .stuck
    | _ => (ev .bor a δ).bind fun x => (tru x).bind fun b => .ok (.bl (!b))
  | .ite c a b, δ => match m with
    | .test => .stuck
    | _ => (ev .test c δ).bind fun k => match k with
      | .bl true => ev m a δ
      | .bl false => ev m b δ
      | _ => .stuck
  | .tup as, δ => (evs as δ).bind fun xs => req (xs.length ≤ LIM) (post m (.tup xs))
  | .lst as, δ => (evs as δ).bind fun xs => req (xs.length ≤ LIM) (post m (.lst xs))
  | .dnew, _ => match m with
    | .test => .stuck
    | _ => .ok (.dct [] [])
  | .call f as, δ => (evs as δ).bind fun xs => (C f xs).bind fun r => post m r.1
  | .blt f as, δ => (evb as δ).bind fun xs => (bltD f xs).bind (post m)
  | .mth f o as, δ => (ev .bor o δ).bind fun x => (evb as δ).bind fun xs => (mthD f x xs).bind (post m)
  | .ix a i, δ => (ev .bor a δ).bind fun x => (ev .val i δ).bind fun y => (ixD x y).bind (post m)
  | .sl a lo hi, δ => (ev .bor a δ).bind fun x => (match lo with | .nop => (R.ok none : R (Option Int)) | lo => (ev .val lo δ).bind partD).bind fun l =>
      (match hi with | .nop => (R.ok none : R (Option Int)) | hi => (ev .val hi δ).bind partD).bind fun h => (slD x l h).bind (post m)
  | .nop, _ => .stuck
  | .lc ws ts src c e, δ => (match src with
      | .rng as => (evs as δ).bind rngD
      | .zip a b => (ev .bor a δ).bind fun x => (ev .bor b δ).bind fun y => zipR x y
      | .enum a => (ev .bor a δ).bind enumR
      | src => (ev .bor src δ).bind itemsD).bind fun xs =>
      (lcL (fun x => layN ts x (wipeE δ ws)) (fun δ' => match c with | .nop => .ok (.bl true) | c => ev .test c δ') (fun δ' => ev .val e δ') xs).bind fun ys => req (ys.length < LIM) (post m (.lst ys))
  | .rep as b, δ => (evs as δ).bind fun xs => (ev .bor b δ).bind fun y => match y with
    | .int k => req (xs.length ≤ LIM ∧ -2147483648 < k ∧ k < 2147483648 ∧ xs.length * k.toNat ≤ LIM) (post m (.lst (List.replicate k.toNat xs).flatten))
    | _ => .stuck
  | .qrep c o y z, δ => (ev .bor o δ).bind fun x => match x with
    | .str s => req (s.length + (s.length + 1) * z.length ≤ 16777216 ∧ c.length + (StrLaws.replL y z s).length ≤ LIM ∧ okB (StrLaws.replL y z s) = true) (post m (.str (c ++ StrLaws.replL y z s)))
    | _ => .stuck
  | .srep o lo hi y z, δ => (ev .bor o δ).bind fun x => (match hi with | .nop => (R.ok none : R (Option Int)) | hi => (ev .val hi δ).bind partD).bind fun h => (slD x (some lo) h).bind fun w => match w with
    | .str s => req (s.length + (s.length + 1) * z.length ≤ 16777216 ∧ okB (StrLaws.replL y z s) = true) (post m (.str (StrLaws.replL y z s)))
    | _ => .stuck
  | .pick kvs k, δ => (ev .bor k δ).bind fun x => (pickD kvs x).bind (post m)
  | .rng _, _ => .stuck
  | .zip _ _, _ => .stuck
  | .enum _, _ => .stuck
  | .rev a, δ => (ev .bor a δ).bind fun x => match x with
    | .str s => req (s.length ≤ LIM) (post m (.str s.reverse))
    | _ => .stuck
  | .repl o y z, δ => (ev .bor o δ).bind fun x => match x with
    | .str s => req (s.length + (s.length + 1) * z.length ≤ 16777216 ∧ okB (StrLaws.replL y z s) = true) (post m (.str (StrLaws.replL y z s)))
    | _ => .stuck
  | .srt f a, δ => (ev .bor a δ).bind fun x => match x with
    | .lst xs => (mapC (C f) xs).bind fun ks => (srtD xs ks).bind (post m)
    | _ => .stuck
  | .bcall f as, δ => (evb as δ).bind fun xs => (C f xs).bind fun r => req (noL r.1 = true) (post m r.1)
def evs : List E → En → R (List D)
  | [], _ => .ok []
  | a :: as, δ => (ev .val a δ).bind fun x => (evs as δ).bind fun xs => .ok (x :: xs)
def evb : List E → En → R (List D)
  | [], _ => .ok []
  | a :: as, δ => (ev .bor a δ).bind fun x => (evb as δ).bind fun xs => .ok (x :: xs)
def evA (m : Md) : List E → En → R D
  | [], _ => .stuck
  | [a], δ => (ev m a δ).bind fun x => match x with
    | .bl b => .ok (.bl b)
    | _ => .stuck
  | a :: as, δ => (ev m a δ).bind fun x => match x with
    | .bl true => evA m as δ
    | .bl false => .ok (.bl false)
    | _ => .stuck
def evO (m : Md) : List E → En → R D
  | [], _ => .stuck
  | [a], δ => (ev m a δ).bind fun x => match x with
    | .bl b => .ok (.bl b)
    | _ => .stuck
  | a :: as, δ => (ev m a δ).bind fun x => match x with
    | .bl true => .ok (.bl true)
    | .bl false => evO m as δ
    | _ => .stuck
end
def evI (m : Md) : E → En → R (List D)
  | .rng as, δ => (evs C G as δ).bind rngD
  | .zip a b, δ => (ev C G m a δ).bind fun x => (ev C G m b δ).bind fun y => zipR x y
  | .enum a, δ => (ev C G m a δ).bind enumR
  | src, δ => (ev C G m src δ).bind itemsD
def evP : E → En → R (Option Int)
  | .nop, _ => .ok none
  | e, δ => (ev C G .val e δ).bind partD
def evC : E → En → R D
  | .nop, _ => .ok (.bl true)
  | c, δ => ev C G .test c δ
end

/-! statements -/
inductive F where
  | nx (δ : En) | rt (d : D) (fresh : Bool) | bk (δ : En) | ct (δ : En) | ex (c : Nat) (δ : En)
def forL (lay : D → En → R En) (body : En → R F) : List D → En → R F
  | [], δ => .ok (.nx δ)
  | x :: xs, δ => (lay x δ).bind fun δ1 => (body δ1).bind fun f => match f with
    | .nx δ2 => forL lay body xs δ2
    | .ct δ2 => forL lay body xs δ2
    | .bk δ2 => .ok (.nx δ2)
    | .rt d k => .ok (.rt d k)
    | .ex c δ2 => .ok (.ex c δ2)
def whL (c : En → R D) (body : En → R F) : Nat → En → R F
  | 0, _ => .stuck
  | n + 1, δ => (c δ).bind fun b => match b with
    | .bl true => (body δ).bind fun f => match f with
      | .nx δ2 => whL c body n δ2
      | .ct δ2 => whL c body n δ2
      | .bk δ2 => .ok (.nx δ2)
      | .rt d k => .ok (.rt d k)
      | .ex c δ2 => .ok (.ex c δ2)
    | .bl false => .ok (.nx δ)
    | _ => .stuck
/-- turns of a while that are told at most -/
def WMAX : Nat := 100000000
def layNs : List Nat → List D → En → R En
  | [], [], δ => .ok δ
  | t :: ts, x :: xs, δ => layNs ts xs (δ.set t (.dat x))
  | _, _, _ => .stuck
section
variable (C : Nat → List D → R (D × Bool)) (G : List D)
/-- a new list by an expression -/
def evF : E → En → R (List D)
  | .call f as, δ => (evs C G as δ).bind fun xs => (C f xs).bind fun r => match r with
    | (.lst ys, true) => .ok ys
    | _ => .stuck
  | .lst as, δ => (evs C G as δ).bind fun xs => req (xs.length ≤ LIM) (.ok xs)
  | .blt .listOf as, δ => (evb C G as δ).bind fun xs => (bltD .listOf xs).bind fun d => match d with
    | .lst ys => .ok ys
    | _ => .stuck
  | .lc ws ts src c e, δ => (ev C G .val (.lc ws ts src c e) δ).bind fun d => match d with
    | .lst ys => .ok ys
    | _ => .stuck
  | .op .add a b, δ => (ev C G .val (.op .add a b) δ).bind fun d => match d with
    | .lst ys => .ok ys
    | _ => .stuck
  | _, _ => .stuck
def setD (i : Nat) (δ : En) (d j : D) : Option Sl → R F
  | some (.own xs) => (match j with
    | .int z => (match ixN xs.length z with
      | some k => .ok (.nx (δ.set i (.own (xs.set k d))))
      | none => .stuck)
    | _ => .stuck)
  | _ => .stuck
/-- class c stands below class h: 0 is ValueError, 1 is the text's own base of all others -/
def subc (c h : Nat) : Bool := decide (h ≤ 1) || c == h
mutual
def evX : EX → En → R (D × Bool)
  | .e a, δ => (noX (ev C G .val a δ)).bind fun d => .ok (d, false)
  | .call f as, δ => (noX (evs C G as δ)).bind fun xs => C f xs
  | .tup as, δ => (evXs as δ).bind fun ds => req (ds.length ≤ LIM) (.ok (.tup ds, false))
def evXs : List EX → En → R (List D)
  | [], _ => .ok []
  | a :: as, δ => (evX a δ).bind fun d => (evXs as δ).bind fun ds => .ok (d.1 :: ds)
end
mutual
def evU (m : Md) (c : Nat) : U → En → R D
  | .e a, δ => ev C G m a δ
  | .isx h, _ => .ok (.bl (subc c h))
  | .isT hs, _ => .ok (.bl (hs.any (subc c)))
  | .no a, δ => (evU m c a δ).bind fun d => match d with
    | .bl b => .ok (.bl (!b))
    | _ => .stuck
  | .an a b, δ => (evU m c a δ).bind fun d => match d with
    | .bl true => (evU m c b δ).bind fun d => match d with
      | .bl b => .ok (.bl b)
      | _ => .stuck
    | .bl false => .ok (.bl false)
    | _ => .stuck
  | .orr a b, δ => (evU m c a δ).bind fun d => match d with
    | .bl true => .ok (.bl true)
    | .bl false => (evU m c b δ).bind fun d => match d with
      | .bl b => .ok (.bl b)
      | _ => .stuck
    | _ => .stuck
  | .callE f, _ => (C f [.ins c []]).bind fun r => post m r.1
  | .ls us, δ => (evUs c us δ).bind fun xs => req (xs.length ≤ LIM) (post m (.lst xs))
def evUs (c : Nat) : List U → En → R (List D)
  | [], _ => .ok []
  | u :: us, δ => (evU .val c u δ).bind fun x => (evUs c us δ).bind fun xs => .ok (x :: xs)
end
def exU (c : Nat) : List SU → En → R F
  | [], δ => .ok (.nx δ)
  | .ret u :: _, δ => (evU C G .val c u δ).bind fun d => .ok (.rt d false)
  | .ifr u r :: ss, δ => (evU C G .test c u δ).bind fun d => match d with
    | .bl true => (evU C G .val c r δ).bind fun d => .ok (.rt d false)
    | .bl false => exU c ss δ
    | _ => .stuck
def suiteD (c : Nat) (δ : En) : List (Nat × List SU) → R F
  | [] => .ok (.ex c δ)
  | (h, su) :: hs => if subc c h = true then exU C G c su δ else suiteD c δ hs
def tkD (r : D × Bool) (δ : En) : TK → R F
  | .set i => .ok (.nx (δ.set i (.dat r.1)))
  | .own i => (match r with | (.lst ys, true) => .ok (.nx (δ.set i (.own ys))) | _ => .stuck)
  | .expr => .ok (.nx δ)
  | .ret => .ok (.rt r.1 false)
  | .retf => (match r with | (.lst ys, true) => .ok (.rt (.lst ys) true) | _ => .stuck)
  | .app i => (match δ[i]? with
    | some (.own xs) => req (xs.length < LIM) (.ok (.nx (δ.set i (.own (xs ++ [r.1])))))
    | _ => .stuck)
def appOk (δ : En) : TK → Bool
  | .app i => (match δ[i]? with | some (.own _) => true | _ => false)
  | _ => true
def tkX (δ : En) (k : TK) : R (D × Bool) → R F
  | .ok r => tkD r δ k
  | .exc c => if appOk δ k = true then .ok (.ex c δ) else .stuck
  | .stuck => .stuck
mutual
def ex : S → En → R F
  | .set i e, δ => (ev C G .val e δ).bind fun d => .ok (.nx (δ.set i (.dat d)))
  | .own i e, δ => (evF C G e δ).bind fun xs => .ok (.nx (δ.set i (.own xs)))
  | .freeze i, δ => match δ[i]? with
    | some (.own xs) => .ok (.nx (δ.set i (.dat (.lst xs))))
    | some (.dat _) => .ok (.nx δ)
    | _ => .stuck
  | .unp is e, δ => (ev C G .val e δ).bind fun d => match d with
    | .tup xs => (layNs is xs δ).bind fun δ' => .ok (.nx δ')
    | _ => .stuck
  | .expr e, δ => (ev C G .val e δ).bind fun _ => .ok (.nx δ)
  | .app i e, δ => (ev C G .val e δ).bind fun d => match δ[i]? with
    | some (.own xs) => req (xs.length < LIM) (.ok (.nx (δ.set i (.own (xs ++ [d])))))
    | _ => .stuck
  | .seti i k e, δ => (ev C G .val e δ).bind fun d => (ev C G .val k δ).bind fun j => setD i δ d j δ[i]?
  | .orl i e, δ => match δ[i]? with
    | some (.own xs) => if xs.isEmpty = true then (evF C G e δ).bind fun ys => .ok (.nx (δ.set i (.own ys))) else .ok (.nx δ)
    | _ => .stuck
  | .pop1 i e, δ => (ev C G .val e δ).bind fun d => match δ[i]? with
    | some (.own xs) => (match last1 xs with
      | some (r, y) => req (r.length + 1 < LIM) (.ok (.nx (δ.set i (.own (r ++ [.tup [d, y]])))))
      | none => .stuck)
    | _ => .stuck
  | .pop2 i e, δ => (ev C G .val e δ).bind fun d => match δ[i]? with
    | some (.own xs) => (match last2 xs with
      | some (r, x, y) => req (r.length + 2 < LIM) (.ok (.nx (δ.set i (.own (r ++ [.tup [d, x, y]])))))
      | none => .stuck)
    | _ => .stuck
  | .ret e, δ => (ev C G .val e δ).bind fun d => .ok (.rt d false)
  | .retF e, δ => (evF C G e δ).bind fun xs => .ok (.rt (.lst xs) true)
  | .retO i, δ => match δ[i]? with
    | some (.own xs) => .ok (.rt (.lst xs) true)
    | _ => .stuck
  | .retN, _ => .ok (.rt .non false)
  | .ite c a b, δ => (ev C G .test c δ).bind fun k => match k with
    | .bl true => exs a δ
    | .bl false => exs b δ
    | _ => .stuck
  | .fr ts src b, δ => (evI C G .val src δ).bind fun xs => forL (fun x δ => layN ts x δ) (fun δ => exs b δ) xs δ
  | .wh c b, δ => whL (fun δ => ev C G .test c δ) (fun δ => exs b δ) WMAX δ
  | .tryb b, δ => (exs b δ).bind fun f => match f with
    | .ex _ _ => .stuck
    | f => .ok f
  | .x k e, δ => tkX δ k (evX C G e δ)
  | .tks i a lo hi rest, δ => (ev C G .val (.sl a (.int lo) hi) δ).bind fun d => exs rest (δ.set i (.dat d))
  | .raise c, δ => .ok (.ex c δ)
  | .trys b m hs, δ => (exs b δ).bind fun f => match f with
    | .ex c δ' => req (2 ≤ c ∧ c < m) (suiteD C G c δ' hs)
    | f => .ok f
  | .tryas b m h i su, δ => (exs b δ).bind fun f => match f with
    | .ex c δ' => req ((2 ≤ c ∧ c < m) ∧ i < δ'.length) <| if subc c h = true then (exU C G c su (δ'.set i .no)).bind fun f => match f with
        | .nx δ2 => .ok (.nx (δ2.set i .no))
        | .rt d k => .ok (.rt d k)
        | _ => .stuck
      else .ok (.ex c δ')
    | f => .ok f
  | .ext i e, δ => (evF C G e δ).bind fun ys => match δ[i]? with
    | some (.own xs) => req (xs.length + ys.length ≤ LIM) (.ok (.nx (δ.set i (.own (xs ++ ys)))))
    | _ => .stuck
  | .unpi i j k l e, δ => (ev C G .val e δ).bind fun d => match d with
    | .tup [d1, d2] => (setD i δ d1 (.int k) δ[i]?).bind fun f => match f with
      | .nx δ1 => setD j δ1 d2 (.int l) δ1[j]?
      | _ => .stuck
    | _ => .stuck
  | .clr i, δ => match δ[i]? with
    | some (.own _) => .ok (.nx (δ.set i (.own [])))
    | _ => .stuck
  | .brk, δ => .ok (.bk δ)
  | .cont, δ => .ok (.ct δ)
  | .never, _ => .stuck
def exs : List S → En → R F
  | [], δ => .ok (.nx δ)
  | s :: ss, δ => (ex s δ).bind fun f => match f with
    | .nx δ' => exs ss δ'
    | .rt d k => .ok (.rt d k)
    | .bk δ' => .ok (.bk δ')
    | .ct δ' => .ok (.ct δ')
    | .ex c δ' => .ok (.ex c δ')
end
end
/-- a def: its parameters, its slots, its body -/
structure Fn where
  np : Nat
  nn : Nat
  body : List S
  /-- a def that is called within except suites, with the error alone -/
  su : List SU
def frame (fn : Fn) (xs : List D) : En := xs.map .dat ++ List.replicate (fn.nn - xs.length) .no
def fin : F → R (D × Bool)
  | .nx _ => .ok (.non, false)
  | .rt d k => .ok (d, k)
  | .ex c _ => .exc c
  | _ => .stuck
def hotE : List SU → List D → Option Nat
  | _ :: _, [.ins c []] => some c
  | _, _ => none
def run (Γ : List Fn) (G : List D) : Nat → Nat → List D → R (D × Bool)
  | 0, _, _ => .stuck
  | n + 1, f, xs => match Γ[f]? with
    | some fn => match hotE fn.su xs with
      | some c => (noX (exU (run Γ G n) G c fn.su (List.replicate fn.nn .no))).bind fin
      | none => if xs.length = fn.np then (noX (exs (run Γ G n) G fn.body (frame fn xs))).bind fin else .stuck
    | none => .stuck
example : ev (fun _ _ => .stuck) [] .val (.op .add (.int 3) (.int 4)) [] = .ok (.int 7) := rfl
example (x : Int) : ev (fun _ _ => .stuck) [] .val (.lc [0] [0] (.rng [.int 2]) .nop (.op .add (.var 0) (.int x))) [.no] = .ok (.lst [.int (0+x), .int (1+x)]) := rfl
example (x : Nat) : ev (fun _ _ => .stuck) [] .val (.sl (.str [1,x,3]) (.int 1) .nop) [.no] = .ok (.str [x,3]) := rfl
end Fw

/-! what stands for what: data and the heap -/
namespace Fw
open PySem PySem.Spec PyProof.Rows L2
open Evl (Ex ex_rd ex_l ex_t)

def kyOf : DK → Key
  | .inl i => .inl i
  | .inr s => .inr ⟨s.toArray⟩
/-- codes of signs -/
def okS (s : List Nat) : Prop := ∀ c ∈ s, c < 0x110000
mutual
inductive Rep (K : PySem.W.Frag) (M : Hp) : D → V → Prop
  | non : Rep K M .non .non
  | bl (b : Bool) : Rep K M (.bl b) (.bl b)
  | int (i : Int) : Rep K M (.int i) (.int i)
  | str (s : List Nat) : okS s → Rep K M (.str s) (.str ⟨s.toArray⟩)
  | tup {a : Addr} {xs : List D} {vs : List V} : SqT K M a vs → Reps K M xs vs → Rep K M (.tup xs) (.ref a)
  | lst {a : Addr} {xs : List D} {vs : List V} : SqL K M a vs → Reps K M xs vs → Rep K M (.lst xs) (.ref a)
  | dct {a : Addr} {ks : List DK} {xs : List D} {kvs : List (Key × V)} : M a = some (.dK kvs) → kvs.map (·.1) = ks.map kyOf → Reps K M xs (kvs.map (·.2)) → Rep K M (.dct ks xs) (.ref a)
inductive Reps (K : PySem.W.Frag) (M : Hp) : List D → List V → Prop
  | nil : Reps K M [] []
  | cons {d : D} {v : V} {ds : List D} {vs : List V} : Rep K M d v → Reps K M ds vs → Reps K M (d :: ds) (v :: vs)
end
section
variable {K : PySem.W.Frag} {M M' H H' : Hp}
mutual
theorem Rep.mono (e : Ex M M') : ∀ (d : D) (v : V), Rep K M d v → Rep K M' d v
  | .non, _, h => by cases h; exact .non
  | .bl b, _, h => by cases h; exact .bl b
  | .int i, _, h => by cases h; exact .int i
  | .str s, _, h => by cases h with | str _ o => exact .str s o
  | .tup xs, _, h => by cases h with | tup a b => exact .tup (ex_t e a) (Reps.mono e xs _ b)
  | .lst xs, _, h => by cases h with | lst a b => exact .lst (ex_l e a) (Reps.mono e xs _ b)
  | .dct ks xs, _, h => by cases h with | dct a b c => exact .dct (e _ _ a) b (Reps.mono e xs _ c)
  | .ins _ _, _, h => by cases h
theorem Reps.mono (e : Ex M M') : ∀ (ds : List D) (vs : List V), Reps K M ds vs → Reps K M' ds vs
  | [], _, h => by cases h; exact .nil
  | d :: ds, _, h => by cases h with | cons a b => exact .cons (Rep.mono e d _ a) (Reps.mono e ds _ b)
end
theorem Rep.up {d : D} {v : V} (h : Rep K M d v) (e : Ex M M') : Rep K M' d v := Rep.mono e d v h
theorem Reps.up {d : List D} {v : List V} (h : Reps K M d v) (e : Ex M M') : Reps K M' d v := Reps.mono e d v h
theorem Reps.length : ∀ {ds : List D} {vs : List V}, Reps K M ds vs → ds.length = vs.length
  | [], _, h => by cases h; rfl
  | d :: ds, _, h => by cases h with | cons a b => simp [Reps.length b]
theorem Reps.get : ∀ {ds : List D} {vs : List V} {i : Nat} {d : D}, Reps K M ds vs → ds[i]? = some d → ∃ v, vs[i]? = some v ∧ Rep K M d v
  | [], _, _, _, h, e => by simp at e
  | d :: ds, _, 0, _, h, e => by cases h with | cons a b => simp at e; subst e; exact ⟨_, rfl, a⟩
  | d :: ds, _, i + 1, _, h, e => by cases h with | cons a b => simpa using Reps.get (i := i) b (by simpa using e)
theorem Reps.get' : ∀ {ds : List D} {vs : List V} {i : Nat} {v : V}, Reps K M ds vs → vs[i]? = some v → ∃ d, ds[i]? = some d ∧ Rep K M d v
  | [], _, _, _, h, e => by cases h; simp at e
  | d :: ds, _, 0, _, h, e => by cases h with | cons a b => simp at e; subst e; exact ⟨_, rfl, a⟩
  | d :: ds, _, i + 1, _, h, e => by cases h with | cons a b => simpa using Reps.get' (i := i) b (by simpa using e)
theorem Reps.append : ∀ {ds es : List D} {vs us : List V}, Reps K M ds vs → Reps K M es us → Reps K M (ds ++ es) (vs ++ us)
  | [], _, _, _, h, h2 => by cases h; exact h2
  | d :: ds, _, _, _, h, h2 => by cases h with | cons a b => exact .cons a (Reps.append b h2)
theorem Reps.take : ∀ (n : Nat) {ds : List D} {vs : List V}, Reps K M ds vs → Reps K M (ds.take n) (vs.take n)
  | 0, _, _, _ => .nil
  | n + 1, [], _, h => by cases h; exact .nil
  | n + 1, d :: ds, _, h => by cases h with | cons a b => exact .cons a (Reps.take n b)
theorem Reps.drop : ∀ (n : Nat) {ds : List D} {vs : List V}, Reps K M ds vs → Reps K M (ds.drop n) (vs.drop n)
  | 0, _, _, h => h
  | n + 1, [], _, h => by cases h; exact .nil
  | n + 1, d :: ds, _, h => by cases h with | cons a b => exact Reps.drop n b
theorem Reps.snoc {ds : List D} {vs : List V} {d : D} {v : V} (h : Reps K M ds vs) (r : Rep K M d v) : Reps K M (ds ++ [d]) (vs ++ [v]) := h.append (.cons r .nil)
theorem Reps.ints : ∀ ns : List Int, Reps K M (ns.map D.int) (ns.map V.int)
  | [] => .nil
  | n :: ns => .cons (.int n) (Reps.ints ns)
theorem Reps.cut {lo hi : Option Int} {ds : List D} {vs : List V} (h : Reps K M ds vs) : Reps K M (cutL ds lo hi) (cutV vs lo hi) := by
  have e := h.length
  unfold cutL cutV
  rw [e]
  exact (h.drop _).take _

/-! ### extension -/
structure Xt (M H M' H' : Hp) : Prop where
  m : Ex M M'
  h : Ex H H'
  mh : Ex M' H'
  fr : ∀ a, M a = none → H a ≠ none → M' a = none
theorem Ex.some {a : Addr} (e : Ex H H') (h : H a ≠ none) : H' a ≠ none := by
  cases q : H a with
  | none => exact absurd q h
  | some o => rw [e a o q]; exact fun z => nomatch z
theorem Xt.refl (e : Ex M H) : Xt M H M H := ⟨Evl.Ex.refl M, Evl.Ex.refl H, e, fun _ h _ => h⟩
theorem Xt.trans {M1 H1 M2 H2 : Hp} (a : Xt M H M1 H1) (b : Xt M1 H1 M2 H2) : Xt M H M2 H2 :=
  ⟨a.m.trans b.m, a.h.trans b.h, b.mh, fun x h1 h2 => b.fr x (a.fr x h1 h2) (Ex.some a.h h2)⟩
/-- a new object, told for good -/
theorem Xt.new {a : Addr} {o : HO} (e : Ex M H) (h : H a = none) : Xt M H (upd M a o) (upd H a o) := by
  have hm : M a = none := by
    cases q : M a with
    | none => rfl
    | some u => rw [e a u q] at h; cases h
  refine ⟨Evl.Ex.new hm, Evl.Ex.new h, fun b u q => ?_, fun b h1 h2 => ?_⟩
  · by_cases hb : b = a
    · subst hb; rw [upd_same] at q ⊢; exact q
    · rw [upd_ne hb] at q ⊢; exact e b u q
  · rw [upd_ne (fun z => h2 (by rw [z]; exact h))]; exact h1
/-- a new object, not told -/
theorem Xt.lay {a : Addr} {o : HO} (e : Ex M H) (h : H a = none) : Xt M H M (upd H a o) :=
  ⟨Evl.Ex.refl M, Evl.Ex.new h, e.trans (Evl.Ex.new h), fun _ h1 _ => h1⟩
/-- told later -/
theorem Xt.tell {M1 H1 : Hp} {a : Addr} {o : HO} (x : Xt M H M1 H1) (h0 : H a = none) (hm : M1 a = none) (h1 : H1 a = some o) : Xt M H (upd M1 a o) H1 := by
  refine ⟨x.m.trans (Evl.Ex.new hm), x.h, fun b u q => ?_, fun b e1 e2 => ?_⟩
  · by_cases hb : b = a
    · subst hb; rw [upd_same] at q; cases q; exact h1
    · rw [upd_ne hb] at q; exact x.mh b u q
  · rw [upd_ne (fun z => e2 (by rw [z]; exact h0))]; exact x.fr b e1 e2
theorem Ex.none_of {a : Addr} (e : Ex M H) (h : H a = none) : M a = none := by
  cases q : M a with
  | none => rfl
  | some u => rw [e a u q] at h; cases h

/-! ### what may be read now -/
def RepB (K : PySem.W.Frag) (M H : Hp) (d : D) (v : V) : Prop := Rep K M d v ∨ ∃ p vs xs, d = .lst xs ∧ v = .ref p ∧ H p = some (.lst vs) ∧ Reps K M xs vs
theorem Rep.b {d : D} {v : V} (h : Rep K M d v) : RepB K M H d v := .inl h
theorem RepB.up {M1 H1 : Hp} {d : D} {v : V} (h : RepB K M H d v) (x : Xt M H M1 H1) : RepB K M1 H1 d v := by
  rcases h with h | ⟨p, vs, xs, e1, e2, e3, e4⟩
  · exact .inl (h.up x.m)
  · exact .inr ⟨p, vs, xs, e1, e2, x.h _ _ e3, e4.up x.m⟩
theorem RepB.now {d : D} {v : V} (h : RepB K M H d v) (e : Ex M H) : Rep K H d v := by
  rcases h with h | ⟨p, vs, xs, rfl, rfl, e3, e4⟩
  · exact h.up e
  · exact .lst (.inl (.inl e3)) (e4.up e)
theorem RepB.lst {xs : List D} {v : V} (h : RepB K M H (.lst xs) v) (e : Ex M H) : ∃ p vs, v = .ref p ∧ SqL K H p vs ∧ Reps K M xs vs := by
  rcases h with h | ⟨p, vs, xs, q, e2, e3, e4⟩
  · cases h with | lst a b => exact ⟨_, _, rfl, ex_l e a, b⟩
  · cases q
    exact ⟨p, vs, e2, .inl (.inl e3), e4⟩
theorem RepB.rep {d : D} {v : V} (h : RepB K M H d v) (n : ∀ xs, d ≠ .lst xs) : Rep K M d v := by
  rcases h with h | ⟨p, vs, xs, q, _⟩
  · exact h
  · exact absurd q (n xs)

/-! ### slots -/
def SlOk (K : PySem.W.Frag) (M H : Hp) (s : Option V) : Sl → Prop
  | .no => True
  | .dat d => ∃ v, s = some v ∧ Rep K M d v
  | .own xs => ∃ p vs, s = some (.ref p) ∧ M p = none ∧ H p = some (.lst vs) ∧ Reps K M xs vs
structure OKs (K : PySem.W.Frag) (H0 M H : Hp) (σ : L2.St) (δ : En) : Prop where
  len : σ.length = δ.length
  sl : ∀ (i : Nat) s d, σ[i]? = some s → δ[i]? = some d → SlOk K M H s d
  dis : ∀ (i j : Nat) xs ys p, i ≠ j → δ[i]? = some (.own xs) → δ[j]? = some (.own ys) → σ[i]? = some (some (.ref p)) → σ[j]? ≠ some (some (.ref p))
  new : ∀ (i : Nat) xs p, δ[i]? = some (.own xs) → σ[i]? = some (some (.ref p)) → H0 p = none
  ex : Ex M H
  h0 : Ex H0 H
variable {H0 : Hp} {σ : L2.St} {δ : En}
theorem OKs.up {M1 H1 : Hp} (o : OKs K H0 M H σ δ) (x : Xt M H M1 H1) : OKs K H0 M1 H1 σ δ := by
  refine ⟨o.len, fun i s d e1 e2 => ?_, o.dis, o.new, x.mh, o.h0.trans x.h⟩
  have q := o.sl i s d e1 e2
  cases d with
  | no => trivial
  | dat d => obtain ⟨v, h1, h2⟩ := q; exact ⟨v, h1, h2.up x.m⟩
  | own xs =>
    obtain ⟨p, vs, h1, h2, h3, h4⟩ := q
    exact ⟨p, vs, h1, x.fr p h2 (by rw [h3]; exact fun z => nomatch z), x.h _ _ h3, h4.up x.m⟩
theorem OKs.at {i : Nat} {d : Sl} (o : OKs K H0 M H σ δ) (h : δ[i]? = some d) : ∃ s, σ[i]? = some s ∧ SlOk K M H s d := by
  have hi : i < δ.length := (List.getElem?_eq_some_iff.mp h).1
  have hs : i < σ.length := by rw [o.len]; exact hi
  exact ⟨σ[i], List.getElem?_eq_getElem hs, o.sl i _ d (List.getElem?_eq_getElem hs) h⟩
theorem OKs.getD {i : Nat} {d : D} (o : OKs K H0 M H σ δ) (h : δ[i]? = some (.dat d)) : ∃ v, σ[i]? = some (some v) ∧ Rep K M d v := by
  obtain ⟨s, h1, v, rfl, h2⟩ := o.at h
  exact ⟨v, h1, h2⟩
theorem OKs.getO {i : Nat} {xs : List D} (o : OKs K H0 M H σ δ) (h : δ[i]? = some (.own xs)) : ∃ p vs, σ[i]? = some (some (.ref p)) ∧ M p = none ∧ H p = some (.lst vs) ∧ Reps K M xs vs := by
  obtain ⟨s, h1, p, vs, rfl, h2⟩ := o.at h
  exact ⟨p, vs, h1, h2⟩
/-- data is laid into a slot -/
theorem OKs.set {i : Nat} {d : D} {v : V} (o : OKs K H0 M H σ δ) (r : Rep K M d v) : OKs K H0 M H (σ.set i (some v)) (δ.set i (.dat d)) := by
  have key : ∀ (j : Nat) xs, (δ.set i (.dat d))[j]? = some (.own xs) → j ≠ i ∧ δ[j]? = some (.own xs) := fun j xs e => by
    by_cases hj : j = i
    · subst hj
      by_cases hl : j < δ.length
      · rw [List.getElem?_set_self hl] at e; cases e
      · rw [List.getElem?_eq_none (by simpa using hl)] at e; cases e
    · rw [List.getElem?_set_ne (Ne.symm hj)] at e; exact ⟨hj, e⟩
  refine ⟨by rw [List.length_set, List.length_set]; exact o.len, fun j s d' e1 e2 => ?_, fun j k xs ys p hjk e1 e2 e3 => ?_, fun j xs p e1 e2 => ?_, o.ex, o.h0⟩
  · by_cases hj : j = i
    · subst hj
      have hl : j < δ.length := by simpa using (List.getElem?_eq_some_iff.mp e2).1
      rw [List.getElem?_set_self (by rw [o.len]; exact hl)] at e1
      rw [List.getElem?_set_self hl] at e2
      cases e1; cases e2
      exact ⟨v, rfl, r⟩
    · rw [List.getElem?_set_ne (Ne.symm hj)] at e1 e2
      exact o.sl j s d' e1 e2
  · obtain ⟨h1, h2⟩ := key j xs e1
    obtain ⟨h3, h4⟩ := key k ys e2
    rw [List.getElem?_set_ne (Ne.symm h1)] at e3
    rw [List.getElem?_set_ne (Ne.symm h3)]
    exact o.dis j k xs ys p hjk h2 h4 e3
  · obtain ⟨h1, h2⟩ := key j xs e1
    rw [List.getElem?_set_ne (Ne.symm h1)] at e2
    exact o.new j xs p h2 e2
/-- a list of one's own is laid into a slot -/
theorem OKs.setO {i : Nat} {xs : List D} {p : Addr} {vs : List V} (o : OKs K H0 M H σ δ) (hm : M p = none) (h : H p = some (.lst vs)) (r : Reps K M xs vs) (h0 : H0 p = none)
    (hd : ∀ (j : Nat) ys, j ≠ i → δ[j]? = some (.own ys) → σ[j]? ≠ some (some (.ref p))) : OKs K H0 M H (σ.set i (some (.ref p))) (δ.set i (.own xs)) := by
  have len := o.len
  refine ⟨by rw [List.length_set, List.length_set]; exact o.len, fun j s d' e1 e2 => ?_, fun j k ys zs q hjk e1 e2 e3 e4 => ?_, fun j ys q e1 e2 => ?_, o.ex, o.h0⟩
  · by_cases hj : j = i
    · subst hj
      have hl : j < δ.length := by simpa using (List.getElem?_eq_some_iff.mp e2).1
      rw [List.getElem?_set_self (by rw [o.len]; exact hl)] at e1
      rw [List.getElem?_set_self hl] at e2
      cases e1; cases e2
      exact ⟨p, vs, rfl, hm, h, r⟩
    · rw [List.getElem?_set_ne (Ne.symm hj)] at e1 e2
      exact o.sl j s d' e1 e2
  · have hjl : j < δ.length := by simpa using (List.getElem?_eq_some_iff.mp e1).1
    have hkl : k < δ.length := by simpa using (List.getElem?_eq_some_iff.mp e2).1
    by_cases hj : j = i
    · subst hj
      rw [List.getElem?_set_self (by omega)] at e3
      cases e3
      rw [List.getElem?_set_ne hjk] at e2 e4
      exact hd k zs (Ne.symm hjk) e2 e4
    · rw [List.getElem?_set_ne (Ne.symm hj)] at e1 e3
      by_cases hk : k = i
      · subst hk
        rw [List.getElem?_set_self (by omega)] at e4
        cases e4
        exact hd j ys hj e1 e3
      · rw [List.getElem?_set_ne (Ne.symm hk)] at e2 e4
        exact o.dis j k ys zs q hjk e1 e2 e3 e4
  · have hjl : j < δ.length := by simpa using (List.getElem?_eq_some_iff.mp e1).1
    by_cases hj : j = i
    · subst hj
      rw [List.getElem?_set_self (by omega)] at e2
      cases e2
      exact h0
    · rw [List.getElem?_set_ne (Ne.symm hj)] at e1 e2
      exact o.new j ys q e1 e2
/-- no slot of one's own holds what is new -/
theorem OKs.fresh {p : Addr} (o : OKs K H0 M H σ δ) (h : H p = none) : ∀ (j : Nat) ys, δ[j]? = some (.own ys) → σ[j]? ≠ some (some (.ref p)) := fun j ys e1 e2 => by
  obtain ⟨q, vs, h1, _, h3, _⟩ := o.getO e1
  rw [e2] at h1
  cases h1
  rw [h] at h3
  cases h3
theorem wipe_get (σ : L2.St) (δ : En) : ∀ ws : List Nat, σ.length = δ.length → ∀ i : Nat, ((wipe σ ws)[i]? = σ[i]? ∧ (wipeE δ ws)[i]? = δ[i]?) ∨ ((wipeE δ ws)[i]? = some .no ∨ δ[i]? = none ∧ (wipeE δ ws)[i]? = none)
  | [], _, i => .inl ⟨rfl, rfl⟩
  | w :: ws, h, i => by
    have hl1 : (wipe σ ws).length = σ.length := wipe_length σ ws
    have hl2 : ∀ ws : List Nat, (wipeE δ ws).length = δ.length := fun ws => by
      induction ws with
      | nil => rfl
      | cons a r ih => unfold wipeE; rw [List.length_set]; exact ih
    unfold wipe wipeE
    by_cases hi : i = w
    · subst hi
      right
      by_cases hil : i < δ.length
      · left
        rw [List.getElem?_set_self (by rw [hl2]; exact hil)]
      · right
        exact ⟨List.getElem?_eq_none (by omega), List.getElem?_eq_none (by rw [List.length_set, hl2]; omega)⟩
    · rw [List.getElem?_set_ne (Ne.symm hi), List.getElem?_set_ne (Ne.symm hi)]
      exact wipe_get σ δ ws h i
theorem wipeE_length (δ : En) : ∀ ws : List Nat, (wipeE δ ws).length = δ.length
  | [] => rfl
  | w :: ws => by unfold wipeE; rw [List.length_set]; exact wipeE_length δ ws
theorem OKs.wiped (ws : List Nat) (o : OKs K H0 M H σ δ) : OKs K H0 M H (wipe σ ws) (wipeE δ ws) := by
  refine ⟨by rw [wipe_length, wipeE_length]; exact o.len, fun i s d e1 e2 => ?_, fun i j xs ys p hij e1 e2 e3 e4 => ?_, fun i xs p e1 e2 => ?_, o.ex, o.h0⟩
  · rcases wipe_get σ δ ws o.len i with ⟨h1, h2⟩ | h | ⟨_, h⟩
    · rw [h1] at e1; rw [h2] at e2; exact o.sl i s d e1 e2
    · rw [h] at e2; cases e2; trivial
    · rw [h] at e2; cases e2
  · rcases wipe_get σ δ ws o.len i with ⟨h1, h2⟩ | h | ⟨_, h⟩
    · rw [h1] at e3; rw [h2] at e1
      rcases wipe_get σ δ ws o.len j with ⟨g1, g2⟩ | g | ⟨_, g⟩
      · rw [g1] at e4; rw [g2] at e2; exact o.dis i j xs ys p hij e1 e2 e3 e4
      · rw [g] at e2; cases e2
      · rw [g] at e2; cases e2
    · rw [h] at e1; cases e1
    · rw [h] at e1; cases e1
  · rcases wipe_get σ δ ws o.len i with ⟨h1, h2⟩ | h | ⟨_, h⟩
    · rw [h1] at e2; rw [h2] at e1; exact o.new i xs p e1 e2
    · rw [h] at e1; cases e1
    · rw [h] at e1; cases e1
end
end Fw

/-! which expression of the small language stands for which of the text -/
namespace Fw
open PySem PySem.Spec PyProof.Rows L2
open Evl (Ex ex_rd ex_l ex_t)

/-- names of the table's defs, of the constants, of the built-ins that are as they were -/
structure Nm where
  FN : List Str
  GN : List Str
  BN : List Str
  /-- the exceptions' classes: 0 is ValueError, 1 the text's own base -/
  EN : List Str
  /-- the defs that are called within except suites -/
  HF : List Nat
  /-- of these 2, 3, .. are raised, below RN -/
  RN : Nat
  /-- within an except suite: no calls of defs, no comprehensions -/
  hot : Bool
def dbg : Str := "__debug__"
def cdi : Str := "__classdict__"
def nmn : Str := "__name__"
def visB (sc : Scope) (x : Str) : Bool := (match sc.names.lookup x with | some .local => true | some .cell => true | some .free => true | _ => false) && !(x == dbg) && !(x == cdi)
def locB (sc : Scope) (x : Str) : Bool := match sc.names.lookup x with | some .local => true | some .cell => true | _ => false
def glB (sc : Scope) (x : Str) : Bool := (match sc.names.lookup x with | some .globalImplicit => true | _ => false) && !(x == dbg)
def bnB (L : Nm) (sc : Scope) (x : Str) (s : Str) : Bool := decide (x = s) && glB sc x && decide (x ∈ L.BN) && !(x == nmn)
def op2B : Op2 → Operator → Bool
  | .add, .Add => true | .sub, .Sub => true | .mul, .Mult => true | .fdiv, .FloorDiv => true | .mod, .Mod => true | .pow, .Pow => true
  | _, _ => false
def cpB : Cp → CmpOp → Bool
  | .eq, .Eq => true | .ne, .NotEq => true | .lt, .Lt => true | .le, .LtE => true | .gt, .Gt => true | .ge, .GtE => true | .isin, .In => true | .notin, .NotIn => true
  | _, _ => false
def bltN : Blt → Str
  | .len => "len" | .isi _ => "isinstance" | .intOf => "int" | .strOf => "str" | .listOf => "list" | .tupleOf => "tuple" | .absOf => "abs"
  | .max2 => "max" | .min2 => "min" | .sumOf => "sum" | .allOf => "all"
def tyN : Ty → Str
  | .int => "int" | .str => "str" | .bool => "bool" | .tuple => "tuple" | .list => "list" | .dict => "dict"
def mthN : Mth → Str
  | .join => "join" | .find => "find" | .replace => "replace" | .index => "index" | .split => "split" | .part => "partition" | .count => "count" | .startsw => "startswith" | .lcount => "count"
def tyArg (L : Nm) (sc : Scope) (t : Ty) : Expr → Bool
  | .Name x _ => bnB L sc x (tyN t)
  | _ => false
def isNoneC : Expr → Bool
  | .Constant .none _ _ => true
  | _ => false
def isBoolC (b : Bool) : Expr → Bool
  | .Constant (.bool c) _ _ => b == c
  | _ => false
def ownOf (N : List Str) (ws : List Nat) : List (Str × Nat) := ws.filterMap fun i => N[i]?.map fun x => (x, i)
/-- a comprehension's target within its block -/
def tgB (N : List Str) (raw sc : Scope) (i : Nat) : Expr → Bool
  | .Name x _ => decide (N[i]? = some x) && locB sc x && (decide (raw.names.lookup x = some .cell) || decide (sc.names.lookup x = some .local))
  | _ => false
def tgsB (N : List Str) (raw sc : Scope) : List Nat → Expr → Bool
  | [i], e => tgB N raw sc i e
  | [i, j], .Tuple [a, b] _ _ => tgB N raw sc i a && tgB N raw sc j b
  | _, _ => false
def isTupE : Expr → Bool
  | .Tuple _ _ _ => true
  | _ => false
def notCall : Expr → Bool
  | .Call _ _ _ _ => false
  | _ => true
def isNop : E → Bool
  | .nop => true
  | _ => false
def needTup : E → Bool
  | .zip _ _ => true | .enum _ => true | _ => false
def plainI : E → Bool
  | .rng _ => false | .zip _ _ => false | .enum _ => false | _ => true
def pickB : List (List Nat × Int) → List (Option Expr) → List Expr → Bool
  | [], [], [] => true
  | (s, i) :: r, some (.Constant (.str y) _ _) :: ks, (.Constant (.int j) _ _) :: vs => decide (y.cps.toList = s) && decide (i = j) && pickB r ks vs
  | _, _, _ => false
/-- built-ins that have no rule within an except suite -/
def hotN : Blt → Bool
  | .max2 => true | .min2 => true | .sumOf => true | .allOf => true | _ => false
mutual
def mE (L : Nm) (N : List Str) (sc : Scope) : E → Expr → Bool
  | .var i, x => match x with
    | .Name y _ => decide (N[i]? = some y) && visB sc y
    | _ => false
  | .int i, x => match x with
    | .Constant (.int j) _ _ => decide (i = j)
    | _ => false
  | .str s, x => match x with
    | .Constant (.str y) _ _ => decide (y.cps.toList = s) && s.all (fun c => decide (c < 0x110000))
    | _ => false
  | .bl b, x => match x with
    | .Constant (.bool c) _ _ => b == c
    | _ => false
  | .non, x => match x with
    | .Constant .none _ _ => true
    | _ => false
  | .glob g, x => match x with
    | .Name y _ => decide (L.GN[g]? = some y) && glB sc y
    | _ => false
  | .op o a b, x => match x with
    | .BinOp l p r _ => op2B o p && mE L N sc a l && mE L N sc b r
    | _ => false
  | .neg a, x => match x with
    | .UnaryOp .USub y _ => mE L N sc a y
    | _ => false
  | .cmp c a b, x => match x with
    | .Compare l [p] [r] _ => cpB c p && mE L N sc a l && mE L N sc b r
    | _ => false
  | .chain c c' a b d, x => match x with
    | .Compare l [p, p'] [r, r'] _ => cpB c p && cpB c' p' && mE L N sc a l && mE L N sc b r && mE L N sc d r'
    | _ => false
  | .isN a, x => match x with
    | .Compare l [.Is] [r] _ => mE L N sc a l && isNoneC r
    | _ => false
  | .notN a, x => match x with
    | .Compare l [.IsNot] [r] _ => mE L N sc a l && isNoneC r
    | _ => false
  | .isB b a, x => match x with
    | .Compare l [.Is] [r] _ => mE L N sc a l && isBoolC b r
    | _ => false
  | .notB b a, x => match x with
    | .Compare l [.IsNot] [r] _ => mE L N sc a l && isBoolC b r
    | _ => false
  | .and as, x => match x with
    | .BoolOp .And xs _ => mEs L N sc as xs
    | _ => false
  | .or as, x => match x with
    | .BoolOp .Or xs _ => mEs L N sc as xs
    | _ => false
  | .not a, x => match x with
    | .UnaryOp .Not y _ => mE L N sc a y
    | _ => false
  | .ite c a b, x => match x with
    | .IfExp t y z _ => mE L N sc c t && mE L N sc a y && mE L N sc b z
    | _ => false
  | .tup as, x => match x with
    | .Tuple xs _ _ => mEs L N sc as xs
    | _ => false
  | .lst as, x => match x with
    | .List xs _ => mEs L N sc as xs
    | _ => false
  | .dnew, x => match x with
    | .Dict [] [] _ => true
    | _ => false
  | .call f as, x => match x with
    | .Call (.Name y _) xs [] _ => !L.hot && decide (L.FN[f]? = some y) && glB sc y && mEs L N sc as xs
    | _ => false
  | .blt (.isi t) as, x => match x with
    | .Call (.Name y _) [a, b] [] _ => bnB L sc y "isinstance" && tyArg L sc t b && mEs L N sc as [a]
    | _ => false
  | .blt f as, x => match x with
    | .Call (.Name y _) xs [] _ => (!hotN f || !L.hot) && bnB L sc y (bltN f) && mEs L N sc as xs
    | _ => false
  | .mth m o as, x => match x with
    | .Call (.Attribute y nm p) xs [] q => decide (nm = mthN m) && (p.endLine == q.line) && decide (xs.length < 25) && notCall y && mE L N sc o y && mEs L N sc as xs
    | _ => false
  | .ix a i, x => match x with
    | .Subscript y z _ => mE L N sc a y && mE L N sc i z
    | _ => false
  | .sl a lo hi, x => match x with
    | .Subscript y (.Slice l h none _) _ => mE L N sc a y && (match l with | none => isNop lo | some l => mE L N sc lo l) && (match h with | none => isNop hi | some h => mE L N sc hi h)
    | _ => false
  | .nop, _ => false
  | .lc ws ts src c e, x => match x with
    | .ListComp elt [⟨tg, it, ifs, asy⟩] scope _ => !L.hot && decide (asy = 0) && blkC N sc scope (ownOf N ws) && decide ((ownOf N ws).map (·.2) = ws) && ts.all (fun t => decide (t ∈ ws)) && tgsB N scope (relS scope sc) ts tg
        && (isTupE tg || !needTup src) && mE L N sc src it
        && (match ifs with | [] => isNop c | [t] => mE L N (relS scope sc) c t | _ => false)
        && mE L N (relS scope sc) e elt
    | _ => false
  | .rep as b, x => match x with
    | .BinOp (.List xs _) .Mult y _ => mEs L N sc as xs && mE L N sc b y
    | _ => false
  | .qrep c o y z, x => match x with
    | .BinOp (.Constant (.str c') _ _) .Add (.Call (.Attribute r nm p) [.Constant (.str a) _ _, .Constant (.str b) _ _] [] q) _ =>
      decide (c'.cps.toList = c) && okB c && decide (nm = "replace") && notCall r && (p.endLine == q.line) && decide (a.cps.toList = y) && decide (b.cps.toList = z) && !(a == b) && decide (1 ≤ a.length) && mE L N sc o r
    | _ => false
  | .srep o lo hi y z, x => match x with
    | .Call (.Attribute (.Subscript r (.Slice (some (.Constant (.int i) _ _)) h none _) _) nm p) [.Constant (.str a) _ _, .Constant (.str b) _ _] [] q =>
      decide (lo = i) && decide (nm = "replace") && (p.endLine == q.line) && decide (a.cps.toList = y) && decide (b.cps.toList = z) && !(a == b) && decide (1 ≤ a.length) && (match h with | none => isNop hi | some h => mE L N sc hi h) && mE L N sc o r
    | _ => false
  | .pick kvs k, x => match x with
    | .Subscript (.Dict ks vs _) i _ => pickB kvs ks vs && decide (kvs ≠ []) && decide (kvs.length ≤ 15) && mE L N sc k i
    | _ => false
  | .rng as, x => match x with
    | .Call (.Name y _) xs [] _ => bnB L sc y "range" && mEs L N sc as xs
    | _ => false
  | .zip a b, x => match x with
    | .Call (.Name y _) [l, r] [] _ => bnB L sc y "zip" && mE L N sc a l && mE L N sc b r
    | _ => false
  | .enum a, x => match x with
    | .Call (.Name y _) [l] [] _ => bnB L sc y "enumerate" && mE L N sc a l
    | _ => false
  | .repl _ _ _, _ => false
  | .srt f a, x => match x with
    | .Call (.Name y _) [l] [⟨some kw, .Name z _, _⟩] _ => !L.hot && decide (y = "sorted") && decide (kw = "key") && bnB L sc "sorted" "sorted" && decide (L.FN[f]? = some z) && glB sc z && mE L N sc a l
    | _ => false
  | .bcall f as, x => match x with
    | .Call (.Name y _) xs [] _ => !L.hot && decide (L.FN[f]? = some y) && glB sc y && mEs L N sc as xs
    | _ => false
  | .rev a, x => match x with
    | .Subscript e (.Slice none none (some (.UnaryOp .USub (.Constant (.int i) _ _) _)) _) _ => decide (i = 1) && mE L N sc a e
    | _ => false
def mEs (L : Nm) (N : List Str) (sc : Scope) : List E → List Expr → Bool
  | [], xs => match xs with
    | [] => true
    | _ => false
  | a :: as, xs => match xs with
    | y :: ys => mE L N sc a y && mEs L N sc as ys
    | _ => false
end
end Fw

/-! operations, by data -/
namespace Fw
open PySem PySem.Spec PyProof.Rows L2
open Evl (Ex ex_rd ex_l ex_t)

def rD (K : PySem.W.Frag) (g : D → D → R D) : R2 := fun v u H Q => ∃ M x y d, Ex M H ∧ RepB K M H x v ∧ RepB K M H y u ∧ g x y = .ok d ∧ ∀ M' H' z, Xt M H M' H' → Rep K M' d z → Q z H'
theorem lim_eq : LIM = sizeLine := by rw [sizeLine_eq]; rfl
theorem str_len (s : List Nat) : (⟨s.toArray⟩ : Str).length = s.length := rfl
theorem str_app (s t : List Nat) : (⟨s.toArray⟩ : Str) ++ ⟨t.toArray⟩ = ⟨(s ++ t).toArray⟩ := TL.ext_tl (by rw [TL.tl_append])
theorem okS.app {s t : List Nat} (h : okS s) (h2 : okS t) : okS (s ++ t) := fun c hc => (List.mem_append.mp hc).elim (h c) (h2 c)
theorem okS.sub {s t : List Nat} (h : okS s) (h2 : ∀ c ∈ t, c ∈ s) : okS t := fun c hc => h c (h2 c hc)
theorem cut_sub {α : Type} (xs : List α) (lo hi : Option Int) : ∀ c ∈ cutL xs lo hi, c ∈ xs := fun c hc => List.mem_of_mem_drop (List.mem_of_mem_take hc)
theorem Rep.strI {K : PySem.W.Frag} {M : Hp} {s : List Nat} {v : V} (h : Rep K M (.str s) v) : v = .str ⟨s.toArray⟩ ∧ okS s := by cases h with | str _ o => exact ⟨rfl, o⟩
theorem RepB.str {K : PySem.W.Frag} {M H : Hp} {s : List Nat} {v : V} (h : RepB K M H (.str s) v) : v = .str ⟨s.toArray⟩ ∧ okS s := (h.rep fun _ z => nomatch z).strI
theorem RepB.int {K : PySem.W.Frag} {M H : Hp} {i : Int} {v : V} (h : RepB K M H (.int i) v) : v = .int i := by cases h.rep fun _ z => nomatch z; rfl
theorem RepB.bl {K : PySem.W.Frag} {M H : Hp} {i : Bool} {v : V} (h : RepB K M H (.bl i) v) : v = .bl i := by cases h.rep fun _ z => nomatch z; rfl
theorem RepB.non {K : PySem.W.Frag} {M H : Hp} {v : V} (h : RepB K M H .non v) : v = .non := by cases h.rep fun _ z => nomatch z; rfl
theorem RepB.tup {K : PySem.W.Frag} {M H : Hp} {xs : List D} {v : V} (h : RepB K M H (.tup xs) v) : ∃ a vs, v = .ref a ∧ SqT K M a vs ∧ Reps K M xs vs := by
  cases h.rep fun _ z => nomatch z with
  | tup a b => exact ⟨_, _, rfl, a, b⟩

section
variable {X : Cx}
/-- two lists of any make put together -/
def rCatR (K : PySem.W.Frag) : R2 := fun x y H Q => ∃ l b xs zs, x = .ref l ∧ y = .ref b ∧ SqL K H l xs ∧ SqL K H b zs ∧ xs.length + zs.length ≤ sizeLine ∧ ∀ p, H p = none → Q (.ref p) (upd H p (.lst (xs ++ zs)))
theorem op_catR : OpR X (binaryOp .Add) (rCatR X.K) := by
  intro pins s σ H x y v u Q I rx ry h
  obtain ⟨l, b, xs, zs, rfl, rfl, hH, hB, hz, q⟩ := h
  cases rx
  cases ry
  obtain ⟨its, r, p1, z⟩ := I.list hH
  obtain ⟨its2, r2, p2, z2⟩ := I.list hB
  have hl := r.length
  have hl2 := r2.length
  obtain ⟨⟨cls, dd, data, sl⟩, n, ho, hc, hdd, hd⟩ := id p1
  obtain ⟨⟨cls2, dd2, data2, sl2⟩, n2, ho2, hc2, hdd2, hd2⟩ := id p2
  subst hc; subst hd; subst hdd; subst hc2; subst hd2; subst hdd2
  refine concat_meets ⟨_, ho, rfl⟩ ⟨_, ho2, rfl⟩ noFill_list_add seq_list_add F.slot_list_add F.entry_list_add (F.args_list_add_2 _ _) (list_addW l b its.toArray its2.toArray n n2 none none sl sl2 ?_) ⟨ho, ho2, ?_⟩
  · rw [List.size_toArray, List.size_toArray]; omega
  · have ea : its.toArray ++ its2.toArray = (its ++ its2).toArray := by simp
    rw [ea]
    exact ⟨.ref _, _, I.lnew (t' := s.toks) (r.append r2) (by rw [List.length_append]; omega), rfl, q _ I.fresh⟩

theorem fold_rep (l : List Nat) : ∀ (m : Nat) (acc : List Nat), List.foldl (fun x1 x2 => x1 ++ x2) acc.toArray (List.replicate m l.toArray) = (acc ++ (List.replicate m l).flatten).toArray
  | 0, acc => by simp
  | m + 1, acc => by
    rw [List.replicate_succ, List.foldl_cons, show acc.toArray ++ l.toArray = (acc ++ l).toArray by simp, fold_rep l m (acc ++ l), List.replicate_succ, List.flatten_cons, List.append_assoc]
theorem flat_nil : ∀ m : Nat, (List.replicate m ([] : List Nat)).flatten = []
  | 0 => rfl
  | m + 1 => by rw [List.replicate_succ, List.flatten_cons, flat_nil m]; rfl
def rMulS : R2 := fun x y H Q => ∃ (a : List Nat) (k : Int), x = .str ⟨a.toArray⟩ ∧ y = .int k ∧ -2147483648 < k ∧ k < 2147483648 ∧ a.length ≤ LIM ∧ a.length * k.toNat ≤ LIM ∧ Q (.str ⟨(List.replicate k.toNat a).flatten.toArray⟩) H
theorem op_mulS : OpR X (binaryOp .Mult) rMulS := by
  intro pins s σ H x y v u Q I rx ry h
  obtain ⟨a, k, rfl, rfl, h1, h2, h3, h4, q⟩ := h
  obtain ⟨t, rfl⟩ := rx
  obtain ⟨t', rfl⟩ := ry
  have hl : (⟨a.toArray⟩ : Str).length = a.length := str_len a
  have hL : LIM = 16777216 := rfl
  refine PySem.P.mul_str ?_ (fun hn _ => ?_) (fun hn _ => ?_) ?_
  · rw [decide_eq_false (by omega), decide_eq_false (by omega)]; rfl
  · rw [hl]
    have : (16777216 : Int) ≤ (2 ^ 63 - 1) / k := Int.le_ediv_of_mul_le (by omega) (by omega)
    omega
  · rw [hl]
    unfold PySem.Builtin.Str.tooLong
    have : ¬ a.length * k.toNat > sizeLine := by rw [← lim_eq]; omega
    simpa using this
  · by_cases hn : k < 1
    · rw [if_pos hn]
      have e : k.toNat = 0 := by omega
      rw [e] at q
      exact ⟨by decide, .str ⟨#[]⟩, H, I.tok _, ⟨_, rfl⟩, q⟩
    · rw [if_neg hn]
      by_cases hz : (k == 1 || (⟨a.toArray⟩ : Str).length == 0) = true
      · rw [if_pos hz]
        have e : (List.replicate k.toNat a).flatten = a := by
          rw [Bool.or_eq_true] at hz
          rcases hz with hz | hz
          · have := eq_of_beq hz
            subst this
            show (List.replicate 1 a).flatten = a
            simp
          · have hz := eq_of_beq hz
            rw [hl] at hz
            have := List.length_eq_zero_iff.mp hz
            subst this
            exact flat_nil _
        rw [e] at q
        exact ⟨.str ⟨a.toArray⟩, H, I, ⟨_, rfl⟩, q⟩
      · rw [if_neg hz]
        have e := fold_rep a k.toNat []
        rw [List.nil_append] at e
        have e2 : List.foldl (fun x1 x2 => x1 ++ x2) #[] (List.replicate k.toNat (⟨a.toArray⟩ : Str).cps) = (List.replicate k.toNat a).flatten.toArray := e
        rw [e2]
        refine ⟨?_, .str ⟨(List.replicate k.toNat a).flatten.toArray⟩, H, I.tok _, ⟨_, rfl⟩, q⟩
        rw [str_len, ← lim_eq, List.length_flatten, List.map_replicate, List.sum_replicate_nat]
        rw [Nat.mul_comm]
        exact h4
theorem small_mul {i j : Int} (h : smallI i ∨ smallI j) : CMul i j := h
theorem dop {o : Op2} {p : Operator} (hop : op2B o p = true) : OpR X (binaryOp p) (rD X.K (op2 o)) := by
  intro pins s σ H v u v' u' Q I r1 r2 h
  obtain ⟨M, x, y, d, e, hx, hy, hg, q⟩ := h
  have q0 : ∀ z, Rep X.K M d z → Q z H := fun z r => q M H z (Xt.refl e) r
  cases o with
  | add =>
    cases p <;> first | exact absurd hop (by decide) | skip
    cases x with
    | int i =>
      cases y with
      | int j =>
        cases hg; cases hx.int; cases hy.int
        exact op_add pins s σ H _ _ _ _ Q I r1 r2 ⟨i, j, rfl, rfl, q0 _ (.int _)⟩
      | _ => cases hg
    | str a =>
      cases y with
      | str b =>
        obtain ⟨hl, hg⟩ := req_inv hg
        cases hg
        obtain ⟨rfl, oa⟩ := hx.str
        obtain ⟨rfl, ob⟩ := hy.str
        refine op_add_str pins s σ H _ _ _ _ Q I r1 r2 ⟨_, _, rfl, rfl, by rw [str_len, str_len, ← lim_eq]; exact hl, ?_⟩
        rw [str_app]
        exact q0 _ (.str _ (oa.app ob))
      | _ => cases hg
    | lst xs =>
      cases y with
      | lst ys =>
        obtain ⟨hl, hg⟩ := req_inv hg
        cases hg
        obtain ⟨a, vs, rfl, ha, ra⟩ := hx.lst e
        obtain ⟨b, us, rfl, hb, rb⟩ := hy.lst e
        refine op_catR pins s σ H _ _ _ _ Q I r1 r2 ⟨a, b, vs, us, rfl, rfl, ha, hb, by rw [← ra.length, ← rb.length, ← lim_eq]; exact hl, fun c hc => ?_⟩
        have x1 := Xt.new (o := .lst (vs ++ us)) e hc
        exact q _ _ _ x1 (.lst (.inl (.inl upd_same)) ((ra.append rb).up x1.m))
      | _ => cases hg
    | tup xs =>
      cases y with
      | tup ys =>
        obtain ⟨hl, hg⟩ := req_inv hg
        cases hg
        obtain ⟨a, vs, rfl, ha, ra⟩ := hx.tup
        obtain ⟨b, us, rfl, hb, rb⟩ := hy.tup
        refine op_catA pins s σ H _ _ _ _ Q I r1 r2 ⟨a, b, vs, us, rfl, rfl, ex_t e ha, ex_t e hb, by rw [← ra.length, ← rb.length, ← lim_eq]; exact hl, fun z => ?_, fun _ z => ?_, fun _ _ c hc => ?_⟩
        · subst z
          cases ra
          exact q0 _ (.tup hb rb)
        · subst z
          cases rb
          rw [List.append_nil] at q0
          exact q0 _ (.tup ha ra)
        · have x1 := Xt.new (o := .tup (vs ++ us)) e hc
          exact q _ _ _ x1 (.tup (.inl (.inl upd_same)) ((ra.append rb).up x1.m))
      | _ => cases hg
    | _ => cases hg
  | sub =>
    cases p <;> first | exact absurd hop (by decide) | skip
    cases x <;> first | cases hg | skip
    cases y <;> first | cases hg | skip
    cases hx.int; cases hy.int
    exact op_sub pins s σ H _ _ _ _ Q I r1 r2 ⟨_, _, rfl, rfl, q0 _ (.int _)⟩
  | mul =>
    cases p <;> first | exact absurd hop (by decide) | skip
    cases x <;> first | (cases hg; done) | skip
    · cases y <;> first | (cases hg; done) | skip
      obtain ⟨hl, hg⟩ := req_inv hg
      cases hg; cases hx.int; cases hy.int
      exact op_mul pins s σ H _ _ _ _ Q I r1 r2 ⟨_, _, rfl, rfl, hl, q0 _ (.int _)⟩
    · cases y <;> first | (cases hg; done) | skip
      obtain ⟨⟨k1, k2, k3, k4⟩, hg⟩ := req_inv hg
      cases hg
      obtain ⟨rfl, oa⟩ := hx.str
      cases hy.int
      refine op_mulS pins s σ H _ _ _ _ Q I r1 r2 ⟨_, _, rfl, rfl, k1, k2, k3, k4, q0 _ (.str _ fun z hz => ?_)⟩
      obtain ⟨l, h1, h2⟩ := List.mem_flatten.mp hz
      rw [List.mem_replicate] at h1
      rw [h1.2] at h2
      exact oa _ h2
  | fdiv =>
    cases p <;> first | exact absurd hop (by decide) | skip
    cases x <;> first | cases hg | skip
    cases y <;> first | cases hg | skip
    obtain ⟨hl, hg⟩ := req_inv hg
    cases hg; cases hx.int; cases hy.int
    exact op_fdiv pins s σ H _ _ _ _ Q I r1 r2 ⟨_, _, rfl, rfl, hl, q0 _ (.int _)⟩
  | mod =>
    cases p <;> first | exact absurd hop (by decide) | skip
    cases x <;> first | cases hg | skip
    cases y <;> first | cases hg | skip
    obtain ⟨hl, hg⟩ := req_inv hg
    cases hg; cases hx.int; cases hy.int
    exact op_mod pins s σ H _ _ _ _ Q I r1 r2 ⟨_, _, rfl, rfl, hl, q0 _ (.int _)⟩
  | pow =>
    cases p <;> first | exact absurd hop (by decide) | skip
    cases x <;> first | cases hg | skip
    cases y <;> first | cases hg | skip
    obtain ⟨hl, hg⟩ := req_inv hg
    cases hg; cases hx.int; cases hy.int
    exact op_pow pins s σ H _ _ _ _ Q I r1 r2 ⟨_, _, rfl, rfl, hl, q0 _ (.int _)⟩

/-! ### equality -/
mutual
def toPy : D → PyData
  | .non => .none
  | .bl b => .bool b
  | .int i => .int i
  | .str s => .str ⟨s.toArray⟩
  | .tup xs => .tuple (toPys xs)
  | .lst xs => .list (toPys xs)
  | .dct _ _ => .none
  | .ins _ _ => .none
def toPys : List D → List PyData
  | [] => []
  | x :: xs => toPy x :: toPys xs
end
mutual
theorem Rep.dp {K : PySem.W.Frag} {M : Hp} : ∀ (d : D) (n : Nat) (v : V), dle n d = true → Rep K M d v → Dp K M v (toPy d) ∧ (toPy d).canLay0 = true ∧ (toPy d).depth ≤ n
  | .non, n, v, _, h => by cases h; exact ⟨.non, rfl, Nat.zero_le _⟩
  | .bl b, n, v, _, h => by cases h; exact ⟨.bl b, rfl, Nat.zero_le _⟩
  | .int i, n, v, _, h => by cases h; exact ⟨.int i, rfl, Nat.zero_le _⟩
  | .str s, n, v, _, h => by
    obtain ⟨rfl, o⟩ := h.strI
    exact ⟨.str _, by show PyData.strOk _ = true; unfold PyData.strOk; simpa [okS] using o, Nat.zero_le _⟩
  | .tup xs, n + 1, v, hl, h => by
    cases h with
    | tup a b =>
      obtain ⟨h1, h2, h3⟩ := Reps.dp xs n _ (show xs.all (dle n) = true from hl) b
      exact ⟨.tup a h1, h2, Nat.succ_le_succ h3⟩
  | .lst xs, n + 1, v, hl, h => by
    cases h with
    | lst a b =>
      obtain ⟨h1, h2, h3⟩ := Reps.dp xs n _ (show xs.all (dle n) = true from hl) b
      exact ⟨.lst a h1, h2, Nat.succ_le_succ h3⟩
  | .tup _, 0, _, hl, _ => by cases hl
  | .lst _, 0, _, hl, _ => by cases hl
  | .dct _ _, n, _, hl, _ => by cases n <;> cases hl
  | .ins _ _, n, _, hl, _ => by cases n <;> cases hl
theorem Reps.dp {K : PySem.W.Frag} {M : Hp} : ∀ (ds : List D) (n : Nat) (vs : List V), ds.all (dle n) = true → Reps K M ds vs → DpAll K M vs (toPys ds) ∧ PyData.canLayAll0 (toPys ds) = true ∧ PyData.depthAll (toPys ds) ≤ n
  | [], n, vs, _, h => by cases h; exact ⟨.nil, rfl, Nat.zero_le _⟩
  | d :: ds, n, vs, hl, h => by
    cases h with
    | cons a b =>
      rw [List.all_cons, Bool.and_eq_true] at hl
      obtain ⟨h1, h2, h3⟩ := Rep.dp d n _ hl.1 a
      obtain ⟨g1, g2, g3⟩ := Reps.dp ds n _ hl.2 b
      refine ⟨.cons h1 g1, ?_, ?_⟩
      · show ((toPy d).canLay0 && PyData.canLayAll0 (toPys ds)) = true
        rw [h2, g2]; rfl
      · show max (toPy d).depth (PyData.depthAll (toPys ds)) ≤ n
        omega
end
theorem str_beq (x y : List Nat) : ((⟨x.toArray⟩ : Str) == ⟨y.toArray⟩) = (x == y) := by
  by_cases h : x = y
  · subst h; simp
  · have h2 : ¬ (⟨x.toArray⟩ : Str) = ⟨y.toArray⟩ := fun z => h (by simpa using congrArg (fun t : Str => t.cps.toList) z)
    rw [beq_eq_false_iff_ne.mpr h, beq_eq_false_iff_ne.mpr h2]
mutual
theorem eqv_eq : ∀ (a b : D) (n m : Nat), dle n a = true → dle m b = true → PyData.eqv (toPy a) (toPy b) = eqD a b
  | .non, b, n, m, _, h => by cases b <;> first | rfl | (cases m <;> cases h)
  | .bl _, b, n, m, _, h => by cases b <;> first | rfl | (cases m <;> cases h)
  | .int _, b, n, m, _, h => by cases b <;> first | rfl | (cases m <;> cases h)
  | .str _, b, n, m, _, h => by
    cases b <;> first | rfl | (cases m <;> cases h; done) | skip
    exact str_beq _ _
  | .tup xs, b, 0, m, h, _ => by cases h
  | .lst xs, b, 0, m, h, _ => by cases h
  | .tup xs, b, n + 1, m, hx, h => by
    cases b <;> first | rfl | (cases m <;> cases h; done) | skip
    cases m with
    | zero => cases h
    | succ m => exact eqvs_eq xs _ n m hx h
  | .lst xs, b, n + 1, m, hx, h => by
    cases b <;> first | rfl | (cases m <;> cases h; done) | skip
    cases m with
    | zero => cases h
    | succ m => exact eqvs_eq xs _ n m hx h
  | .dct _ _, _, n, _, h, _ => by cases n <;> cases h
  | .ins _ _, _, n, _, h, _ => by cases n <;> cases h
theorem eqvs_eq : ∀ (xs ys : List D) (n m : Nat), xs.all (dle n) = true → ys.all (dle m) = true → PyData.eqvAll (toPys xs) (toPys ys) = eqDs xs ys
  | [], ys, n, m, _, h => by cases ys <;> rfl
  | x :: xs, [], n, m, _, _ => rfl
  | x :: xs, y :: ys, n, m, h, h2 => by
    rw [List.all_cons, Bool.and_eq_true] at h h2
    show (PyData.eqv (toPy x) (toPy y) && PyData.eqvAll (toPys xs) (toPys ys)) = (eqD x y && eqDs xs ys)
    rw [eqv_eq x y n m h.1 h2.1, eqvs_eq xs ys n m h.2 h2.2]
end
theorem any_toPys (a : D) (n m : Nat) (ha : dle n a = true) : ∀ ys : List D, ys.all (dle m) = true → ((toPys ys).any fun z => PyData.eqv z (toPy a)) = ys.any fun y => eqD y a
  | [], _ => rfl
  | y :: ys, h => by
    rw [List.all_cons, Bool.and_eq_true] at h
    show (PyData.eqv (toPy y) (toPy a) || ((toPys ys).any fun z => PyData.eqv z (toPy a))) = (eqD y a || ys.any fun y => eqD y a)
    rw [eqv_eq y a m n h.1 ha, any_toPys a n m ha ys h.2]
theorem shaped_of {d : PyData} (h : d.canLay0 = true) (h2 : d.depth ≤ 64) : SeqAt.shaped d = true := by
  unfold SeqAt.shaped
  rw [h, decide_eq_true h2]; rfl
theorem flat_of {K : PySem.W.Frag} {M : Hp} {d : D} {v : V} (h : isFlat d = true) (r : Rep K M d v) : flatV v = true := by
  cases d <;> first | (cases h; done) | (cases r; rfl)
theorem flats_of {K : PySem.W.Frag} {M : Hp} : ∀ {ds : List D} {vs : List V}, ds.all isFlat = true → Reps K M ds vs → vs.all flatV = true
  | [], _, _, r => by cases r; rfl
  | d :: ds, _, h, r => by
    cases r with
    | cons a b =>
      rw [List.all_cons, Bool.and_eq_true] at h ⊢
      exact ⟨flat_of h.1 a, flats_of h.2 b⟩
theorem eqV_eq {K : PySem.W.Frag} {M : Hp} {a b : D} {v u : V} (ha : isFlat a = true) (hb : isFlat b = true) (ra : Rep K M a v) (rb : Rep K M b u) : eqV v u = eqD a b := by
  cases a <;> first | cases ha | skip
  all_goals (cases b <;> first | cases hb | skip)
  all_goals (cases ra; cases rb)
  all_goals first | rfl | exact str_beq _ _
theorem inV_eq {K : PySem.W.Frag} {M : Hp} {a : D} {v : V} (ha : isFlat a = true) (ra : Rep K M a v) : ∀ {ds : List D} {vs : List V}, ds.all isFlat = true → Reps K M ds vs → inV v vs = ds.any fun y => eqD y a
  | [], _, _, r => by cases r; rfl
  | d :: ds, _, h, r => by
    cases r with
    | cons x b =>
      rw [List.all_cons, Bool.and_eq_true] at h
      have ih := inV_eq ha ra h.2 b
      unfold inV at ih ⊢
      rw [List.any_cons, List.any_cons, ih, eqV_eq h.1 ha x ra]
def rDc (K : PySem.W.Frag) (g : D → D → R Bool) : R2 := fun v u H Q => ∃ M x y k, Ex M H ∧ RepB K M H x v ∧ RepB K M H y u ∧ g x y = .ok k ∧ Q (.bl k) H
/-! tuples, one ahead of another -/
theorem lexAt_ext {e r e' r' : Nat → Bool} {z : Bool} : ∀ (k i i' : Nat), (∀ j, j < k → e (i + j) = e' (i' + j)) → (∀ j, j < k → r (i + j) = r' (i' + j)) → Ob.lexAt e r z i k = Ob.lexAt e' r' z i' k
  | 0, _, _, _, _ => rfl
  | k + 1, i, i', h1, h2 => by
    rw [Ob.lexAt_succ, Ob.lexAt_succ]
    have a := h1 0 (by omega)
    have b := h2 0 (by omega)
    rw [Nat.add_zero, Nat.add_zero] at a b
    rw [a, b, lexAt_ext k (i + 1) (i' + 1) (fun j hj => by have := h1 (j + 1) (by omega); rwa [show i + (j + 1) = i + 1 + j by omega, show i' + (j + 1) = i' + 1 + j by omega] at this)
      (fun j hj => by have := h2 (j + 1) (by omega); rwa [show i + (j + 1) = i + 1 + j by omega, show i' + (j + 1) = i' + 1 + j by omega] at this)]
theorem lexT_eq : ∀ (xs ys : List D), Ob.lexAt (fun j => eqD (xs.getD j .non) (ys.getD j .non)) (fun j => ltF (xs.getD j .non) (ys.getD j .non)) (decide (xs.length < ys.length)) 0 (min xs.length ys.length) = lexT xs ys
  | [], [] => rfl
  | [], y :: ys => by simp [Ob.lexAt_zero, lexT]
  | x :: xs, [] => by simp [Ob.lexAt_zero, lexT]
  | x :: xs, y :: ys => by
    have ih := lexT_eq xs ys
    have hm : min (x :: xs).length (y :: ys).length = min xs.length ys.length + 1 := by simp
    have hd : decide ((x :: xs).length < (y :: ys).length) = decide (xs.length < ys.length) := by simp
    rw [hm, hd, Ob.lexAt_succ]
    show (if eqD x y = true then _ else ltF x y) = if eqD x y = true then lexT xs ys else ltF x y
    rw [← ih]
    rw [lexAt_ext _ 1 0 (e' := fun j => eqD (xs.getD j .non) (ys.getD j .non)) (r' := fun j => ltF (xs.getD j .non) (ys.getD j .non)) (fun j _ => by rw [Nat.add_comm]; simp) (fun j _ => by rw [Nat.add_comm]; simp)]
theorem pairs_at : ∀ {xs ys : List D} {j : Nat} {x y : D}, pairsOk xs ys = true → xs[j]? = some x → ys[j]? = some y → cmpF x y = true
  | [], _, _, _, _, _, h, _ => by simp at h
  | _ :: _, [], _, _, _, _, _, h => by simp at h
  | x :: xs, y :: ys, 0, _, _, h, h1, h2 => by
    simp at h1 h2
    subst h1; subst h2
    exact (Bool.and_eq_true_iff.mp (show (cmpF x y && pairsOk xs ys) = true from h)).1
  | x :: xs, y :: ys, j + 1, _, _, h, h1, h2 => pairs_at (j := j) (Bool.and_eq_true_iff.mp (show (cmpF x y && pairsOk xs ys) = true from h)).2 (by simpa using h1) (by simpa using h2)
theorem eqAt_D {K : PySem.W.Frag} {M : Hp} {A : Around} {s : Shared} {x y : D} {v w : V} {u u' : Value} (h : cmpF x y = true) (rx : Rep K M x v) (ry : Rep K M y w) (r : RelV v u) (r' : RelV w u') : SeqAt.EqAt A s u u' (eqD x y) := by
  cases x <;> cases y <;> first | (cases h; done) | skip
  · cases rx; cases ry; cases r; cases r'; exact SeqAt.EqAt.same _
  · cases rx; cases ry; obtain ⟨_, rfl⟩ := r; obtain ⟨_, rfl⟩ := r'; exact SeqAt.EqAt.int_int _ _ _ _
  · cases rx; cases ry; obtain ⟨_, rfl⟩ := r; obtain ⟨_, rfl⟩ := r'
    have := SeqAt.EqAt.str_str (A := A) (s := s) (⟨(‹List Nat›).toArray⟩ : Str)
    rw [show eqD (.str _) (.str _) = _ from (str_beq _ _).symm]
    exact SeqAt.EqAt.str_str _ _ _ _
theorem ltAt_D {K : PySem.W.Frag} {M : Hp} {A : Around} {s : Shared} {x y : D} {v w : V} {u u' : Value} (h : cmpF x y = true) (hn : eqD x y = false) (rx : Rep K M x v) (ry : Rep K M y w) (r : RelV v u) (r' : RelV w u') : Ob.RcOp .Lt A s u u' (ltF x y) := by
  cases x <;> cases y <;> first | (cases h; done) | (cases hn; done) | skip
  · cases rx; cases ry; obtain ⟨_, rfl⟩ := r; obtain ⟨_, rfl⟩ := r'; exact Ob.RcOp.lt_int _ _ _ _
  · cases rx; cases ry; obtain ⟨_, rfl⟩ := r; obtain ⟨_, rfl⟩ := r'; exact fun _ _ _ _ h => PyProof.Rows.lt_str h
def rLtT (K : PySem.W.Frag) : R2 := fun v u H Q => ∃ M a b vs us xs ys, v = .ref a ∧ u = .ref b ∧ Ex M H ∧ SqT K M a vs ∧ SqT K M b us ∧ Reps K M xs vs ∧ Reps K M ys us ∧ pairsOk xs ys = true ∧ Q (.bl (lexT xs ys)) H
theorem op_ltTD (hu : X.A.units < cLine) : OpR X (compareOp .Lt) (rLtT X.K) := by
  intro pins s σ H x y v u Q I rx ry h
  obtain ⟨M, a, b, vs, us, xs, ys, rfl, rfl, e, ha, hb, rxs, rys, hp, q⟩ := h
  cases rx
  cases ry
  obtain ⟨its, r1, p1, _⟩ := I.tuple (ex_t e ha)
  obtain ⟨its2, r2, p2, _⟩ := I.tuple (ex_t e hb)
  have l1 : its.toArray.size = xs.length := by rw [List.size_toArray, ← r1.length, rxs.length]
  have l2 : its2.toArray.size = ys.length := by rw [List.size_toArray, ← r2.length, rys.length]
  have at1 : ∀ j (h1 : j < its.toArray.size), ∃ x v, xs[j]? = some x ∧ xs.getD j .non = x ∧ Rep X.K M x v ∧ RelV v its.toArray[j] := fun j h1 => by
    have h2 : j < xs.length := by omega
    obtain ⟨v, e1, e2⟩ := rxs.get (List.getElem?_eq_getElem h2)
    obtain ⟨w, e3, e4⟩ := r1.get e1
    refine ⟨xs[j], v, List.getElem?_eq_getElem h2, by simp [h2], e2, ?_⟩
    have h3 : j < its.length := by simpa using h1
    rw [List.getElem?_eq_getElem h3] at e3
    cases e3
    simpa using e4
  have at2 : ∀ j (h1 : j < its2.toArray.size), ∃ x v, ys[j]? = some x ∧ ys.getD j .non = x ∧ Rep X.K M x v ∧ RelV v its2.toArray[j] := fun j h1 => by
    have h2 : j < ys.length := by omega
    obtain ⟨v, e1, e2⟩ := rys.get (List.getElem?_eq_getElem h2)
    obtain ⟨w, e3, e4⟩ := r2.get e1
    refine ⟨ys[j], v, List.getElem?_eq_getElem h2, by simp [h2], e2, ?_⟩
    have h3 : j < its2.length := by simpa using h1
    rw [List.getElem?_eq_getElem h3] at e3
    cases e3
    simpa using e4
  have RR := Ob.RcOp.tuples_lt (A := X.A) (s := s) (e := fun j => eqD (xs.getD j .non) (ys.getD j .non)) (r := fun j => ltF (xs.getD j .non) (ys.getD j .non)) p1 p2 hu (fun j h1 h2 => by
    obtain ⟨x, v, a1, a2, a3, a4⟩ := at1 j h1
    obtain ⟨y, w, b1, b2, b3, b4⟩ := at2 j h2
    show SeqAt.EqAt _ _ _ _ (eqD (xs.getD j .non) (ys.getD j .non))
    rw [a2, b2]
    exact eqAt_D (pairs_at hp a1 b1) a3 b3 a4 b4) (fun j h1 h2 hn => by
    obtain ⟨x, v, a1, a2, a3, a4⟩ := at1 j h1
    obtain ⟨y, w, b1, b2, b3, b4⟩ := at2 j h2
    show Ob.RcOp _ _ _ _ _ (ltF (xs.getD j .non) (ys.getD j .non))
    have hn : eqD (xs.getD j .non) (ys.getD j .non) = false := hn
    rw [a2, b2] at hn ⊢
    exact ltAt_D (pairs_at hp a1 b1) hn a3 b3 a4 b4)
  rw [l1, l2, lexT_eq] at RR
  have z : wpAny (model X.prog X.w) X.A (compareOp .Lt (.ref a) (.ref b)) (EP X pins σ Q) X.xe s := RR X.prog X.w X.xe (EP X pins σ Q) ⟨.bl _, H, I, rfl, q⟩
  exact z
theorem lexG_eq : ∀ (xs ys : List D), Ob.lexAt (fun j => eqD (xs.getD j .non) (ys.getD j .non)) (fun j => ltF (ys.getD j .non) (xs.getD j .non)) (decide (xs.length > ys.length)) 0 (min xs.length ys.length) = lexG xs ys
  | [], [] => rfl
  | [], y :: ys => by simp [Ob.lexAt_zero, lexG]
  | x :: xs, [] => by simp [Ob.lexAt_zero, lexG]
  | x :: xs, y :: ys => by
    have ih := lexG_eq xs ys
    have hm : min (x :: xs).length (y :: ys).length = min xs.length ys.length + 1 := by simp
    have hd : decide ((x :: xs).length > (y :: ys).length) = decide (xs.length > ys.length) := by simp
    rw [hm, hd, Ob.lexAt_succ]
    show (if eqD x y = true then _ else ltF y x) = if eqD x y = true then lexG xs ys else ltF y x
    rw [← ih]
    rw [lexAt_ext _ 1 0 (e' := fun j => eqD (xs.getD j .non) (ys.getD j .non)) (r' := fun j => ltF (ys.getD j .non) (xs.getD j .non)) (fun j _ => by rw [Nat.add_comm]; simp) (fun j _ => by rw [Nat.add_comm]; simp)]
theorem gtAt_D {K : PySem.W.Frag} {M : Hp} {A : Around} {s : Shared} {x y : D} {v w : V} {u u' : Value} (h : cmpF x y = true) (hn : eqD x y = false) (rx : Rep K M x v) (ry : Rep K M y w) (r : RelV v u) (r' : RelV w u') : Ob.RcOp .Gt A s u u' (ltF y x) := by
  cases x <;> cases y <;> first | (cases h; done) | (cases hn; done) | skip
  · cases rx; cases ry; obtain ⟨_, rfl⟩ := r; obtain ⟨_, rfl⟩ := r'; exact Ob.RcOp.gt_int _ _ _ _
  · cases rx; cases ry; obtain ⟨_, rfl⟩ := r; obtain ⟨_, rfl⟩ := r'; exact fun _ _ _ _ h => PySem.P.gt_str h
def rGtT (K : PySem.W.Frag) : R2 := fun v u H Q => ∃ M a b vs us xs ys, v = .ref a ∧ u = .ref b ∧ Ex M H ∧ SqT K M a vs ∧ SqT K M b us ∧ Reps K M xs vs ∧ Reps K M ys us ∧ pairsOk xs ys = true ∧ Q (.bl (lexG xs ys)) H
theorem op_gtTD (hu : X.A.units < cLine) : OpR X (compareOp .Gt) (rGtT X.K) := by
  intro pins s σ H x y v u Q I rx ry h
  obtain ⟨M, a, b, vs, us, xs, ys, rfl, rfl, e, ha, hb, rxs, rys, hp, q⟩ := h
  cases rx
  cases ry
  obtain ⟨its, r1, p1, _⟩ := I.tuple (ex_t e ha)
  obtain ⟨its2, r2, p2, _⟩ := I.tuple (ex_t e hb)
  have l1 : its.toArray.size = xs.length := by rw [List.size_toArray, ← r1.length, rxs.length]
  have l2 : its2.toArray.size = ys.length := by rw [List.size_toArray, ← r2.length, rys.length]
  have at1 : ∀ j (h1 : j < its.toArray.size), ∃ x v, xs[j]? = some x ∧ xs.getD j .non = x ∧ Rep X.K M x v ∧ RelV v its.toArray[j] := fun j h1 => by
    have h2 : j < xs.length := by omega
    obtain ⟨v, e1, e2⟩ := rxs.get (List.getElem?_eq_getElem h2)
    obtain ⟨w, e3, e4⟩ := r1.get e1
    refine ⟨xs[j], v, List.getElem?_eq_getElem h2, by simp [h2], e2, ?_⟩
    have h3 : j < its.length := by simpa using h1
    rw [List.getElem?_eq_getElem h3] at e3
    cases e3
    simpa using e4
  have at2 : ∀ j (h1 : j < its2.toArray.size), ∃ x v, ys[j]? = some x ∧ ys.getD j .non = x ∧ Rep X.K M x v ∧ RelV v its2.toArray[j] := fun j h1 => by
    have h2 : j < ys.length := by omega
    obtain ⟨v, e1, e2⟩ := rys.get (List.getElem?_eq_getElem h2)
    obtain ⟨w, e3, e4⟩ := r2.get e1
    refine ⟨ys[j], v, List.getElem?_eq_getElem h2, by simp [h2], e2, ?_⟩
    have h3 : j < its2.length := by simpa using h1
    rw [List.getElem?_eq_getElem h3] at e3
    cases e3
    simpa using e4
  have RR := Ob.RcOp.tuples_gt (A := X.A) (s := s) (e := fun j => eqD (xs.getD j .non) (ys.getD j .non)) (r := fun j => ltF (ys.getD j .non) (xs.getD j .non)) p1 p2 hu (fun j h1 h2 => by
    obtain ⟨x, v, a1, a2, a3, a4⟩ := at1 j h1
    obtain ⟨y, w, b1, b2, b3, b4⟩ := at2 j h2
    show SeqAt.EqAt _ _ _ _ (eqD (xs.getD j .non) (ys.getD j .non))
    rw [a2, b2]
    exact eqAt_D (pairs_at hp a1 b1) a3 b3 a4 b4) (fun j h1 h2 hn => by
    obtain ⟨x, v, a1, a2, a3, a4⟩ := at1 j h1
    obtain ⟨y, w, b1, b2, b3, b4⟩ := at2 j h2
    show Ob.RcOp _ _ _ _ _ (ltF (ys.getD j .non) (xs.getD j .non))
    have hn : eqD (xs.getD j .non) (ys.getD j .non) = false := hn
    rw [a2, b2] at hn ⊢
    exact gtAt_D (pairs_at hp a1 b1) hn a3 b3 a4 b4)
  rw [l1, l2, lexG_eq] at RR
  have z : wpAny (model X.prog X.w) X.A (compareOp .Gt (.ref a) (.ref b)) (EP X pins σ Q) X.xe s := RR X.prog X.w X.xe (EP X pins σ Q) ⟨.bl _, H, I, rfl, q⟩
  exact z
theorem dcp {c : Cp} {p : CmpOp} (hop : cpB c p = true) (hu2 : X.A.units + 65 < cLine) : OpR X (compareOp p) (rDc X.K (cmpD c)) := by
  have hu : X.A.units + 64 < cLine := by omega
  intro pins s σ H v u v' u' Q I r1 r2 h
  obtain ⟨M, x, y, k, e, hx, hy, hg, q⟩ := h
  have seq : ∀ f : D → D → Bool, (∀ x y, f x y = eqD x y) → True := fun _ _ => trivial
  cases c with
  | eq =>
    cases p <;> first | exact absurd hop (by decide) | skip
    obtain ⟨⟨h1, h2⟩, hg⟩ := req_inv hg
    cases hg
    obtain ⟨d1, c1, l1⟩ := Rep.dp x 60 v h1 (hx.now e)
    obtain ⟨d2, c2, l2⟩ := Rep.dp y 60 u h2 (hy.now e)
    refine op_eqD hu pins s σ H _ _ _ _ Q I r1 r2 ⟨_, _, d1, d2, shaped_of c1 (by omega), shaped_of c2 (by omega), ?_⟩
    rw [eqv_eq x y 60 60 h1 h2]
    exact q
  | ne =>
    cases p <;> first | exact absurd hop (by decide) | skip
    obtain ⟨⟨h1, h2⟩, hg⟩ := req_inv hg
    cases hg
    obtain ⟨d1, c1, l1⟩ := Rep.dp x 60 v h1 (hx.now e)
    obtain ⟨d2, c2, l2⟩ := Rep.dp y 60 u h2 (hy.now e)
    refine op_neD hu pins s σ H _ _ _ _ Q I r1 r2 ⟨_, _, d1, d2, shaped_of c1 (by omega), shaped_of c2 (by omega), ?_⟩
    rw [eqv_eq x y 60 60 h1 h2]
    exact q
  | lt =>
    cases p <;> first | exact absurd hop (by decide) | skip
    cases x <;> first | cases hg | skip
    · cases y <;> first | cases hg | skip
      cases hx.int; cases hy.int
      exact op_lt pins s σ H _ _ _ _ Q I r1 r2 ⟨_, _, rfl, rfl, q⟩
    · cases y <;> first | cases hg | skip
      obtain ⟨rfl, _⟩ := hx.str
      obtain ⟨rfl, _⟩ := hy.str
      exact op_lt_str pins s σ H _ _ _ _ Q I r1 r2 ⟨_, _, rfl, rfl, q⟩
    · cases y <;> first | cases hg | skip
      obtain ⟨hp, hg⟩ := req_inv hg
      cases hg
      obtain ⟨a, vs, rfl, ha, ra⟩ := hx.tup
      obtain ⟨b, us, rfl, hb, rb⟩ := hy.tup
      exact op_ltTD (by omega) pins s σ H _ _ _ _ Q I r1 r2 ⟨M, a, b, vs, us, _, _, rfl, rfl, e, ha, hb, ra, rb, hp, q⟩
  | le =>
    cases p <;> first | exact absurd hop (by decide) | skip
    cases x <;> first | cases hg | skip
    · cases y <;> first | cases hg | skip
      cases hx.int; cases hy.int
      exact op_le pins s σ H _ _ _ _ Q I r1 r2 ⟨_, _, rfl, rfl, q⟩
    · cases y <;> first | cases hg | skip
      obtain ⟨rfl, _⟩ := hx.str
      obtain ⟨rfl, _⟩ := hy.str
      exact op_le_str pins s σ H _ _ _ _ Q I r1 r2 ⟨_, _, rfl, rfl, q⟩
  | gt =>
    cases p <;> first | exact absurd hop (by decide) | skip
    cases x <;> first | cases hg | skip
    · cases y <;> first | cases hg | skip
      cases hx.int; cases hy.int
      exact op_gt pins s σ H _ _ _ _ Q I r1 r2 ⟨_, _, rfl, rfl, q⟩
    · cases y <;> first | cases hg | skip
      obtain ⟨rfl, _⟩ := hx.str
      obtain ⟨rfl, _⟩ := hy.str
      exact op_gt_str pins s σ H _ _ _ _ Q I r1 r2 ⟨_, _, rfl, rfl, q⟩
    · cases y <;> first | cases hg | skip
      obtain ⟨hp, hg⟩ := req_inv hg
      cases hg
      obtain ⟨a, vs, rfl, ha, ra⟩ := hx.tup
      obtain ⟨b, us, rfl, hb, rb⟩ := hy.tup
      exact op_gtTD (by omega) pins s σ H _ _ _ _ Q I r1 r2 ⟨M, a, b, vs, us, _, _, rfl, rfl, e, ha, hb, ra, rb, hp, q⟩
  | ge =>
    cases p <;> first | exact absurd hop (by decide) | skip
    cases x <;> first | cases hg | skip
    · cases y <;> first | cases hg | skip
      cases hx.int; cases hy.int
      exact op_ge pins s σ H _ _ _ _ Q I r1 r2 ⟨_, _, rfl, rfl, q⟩
    · cases y <;> first | cases hg | skip
      obtain ⟨rfl, _⟩ := hx.str
      obtain ⟨rfl, _⟩ := hy.str
      exact op_ge_str pins s σ H _ _ _ _ Q I r1 r2 ⟨_, _, rfl, rfl, q⟩
  | isin =>
    cases p <;> first | exact absurd hop (by decide) | skip
    cases y with
    | lst ys =>
      have hg : req (dle 60 x = true ∧ ys.all (dle 59) = true) (.ok (ys.any fun y => eqD y x)) = .ok k := by
        cases x <;> first | exact hg | skip
        rename_i cs
        cases cs with
        | nil => exact hg
        | cons c r => cases r <;> exact hg
      obtain ⟨⟨h1, h2⟩, hg⟩ := req_inv hg
      cases hg
      obtain ⟨d1, c1, l1⟩ := Rep.dp x 60 v h1 (hx.now e)
      obtain ⟨d2, c2, l2⟩ := Rep.dp (.lst ys) 60 u h2 (hy.now e)
      refine op_inD hu2 pins s σ H _ _ _ _ Q I r1 r2 ⟨_, _, d1, d2, shaped_of c1 (by omega), shaped_of c2 (Nat.le_trans l2 (by omega)), ?_⟩
      rw [any_toPys x 60 59 h1 ys h2]
      exact q
    | tup ys =>
      have hg : req (isFlat x = true ∧ ys.all isFlat = true) (.ok (ys.any fun y => eqD y x)) = .ok k := by
        cases x <;> first | exact hg | skip
        rename_i cs
        cases cs with
        | nil => exact hg
        | cons c r => cases r <;> exact hg
      obtain ⟨⟨h1, h2⟩, hg⟩ := req_inv hg
      cases hg
      obtain ⟨a, us, rfl, ha, ra⟩ := hy.tup
      have rx : Rep X.K M x v := hx.rep fun xs z => by subst z; cases h1
      refine op_in_seq pins s σ H _ _ _ _ Q I r1 r2 ⟨a, us, rfl, .inr (ex_t e ha), flat_of h1 rx, flats_of h2 ra, ?_⟩
      show Q (.bl (inV v us)) H
      rw [inV_eq h1 rx h2 ra]
      exact q
    | str t =>
      cases x <;> first | cases hg | skip
      rename_i cs
      cases cs with
      | nil => cases hg
      | cons c r =>
        cases r with
        | cons _ _ => cases hg
        | nil =>
          cases hg
          obtain ⟨rfl, _⟩ := hx.str
          obtain ⟨rfl, _⟩ := hy.str
          exact op_in_sign pins s σ H _ _ _ _ Q I r1 r2 ⟨c, _, rfl, rfl, q⟩
    | _ =>
      cases x <;> first | cases hg | skip
      rename_i cs
      cases cs with
      | nil => cases hg
      | cons c r => cases r <;> cases hg
  | notin =>
    cases p <;> first | exact absurd hop (by decide) | skip
    cases y with
    | lst ys =>
      have hg : req (dle 60 x = true ∧ ys.all (dle 59) = true) (.ok (!ys.any fun y => eqD y x)) = .ok k := by
        cases x <;> first | exact hg | skip
        rename_i cs
        cases cs with
        | nil => exact hg
        | cons c r => cases r <;> exact hg
      obtain ⟨⟨h1, h2⟩, hg⟩ := req_inv hg
      cases hg
      obtain ⟨d1, c1, l1⟩ := Rep.dp x 60 v h1 (hx.now e)
      obtain ⟨d2, c2, l2⟩ := Rep.dp (.lst ys) 60 u h2 (hy.now e)
      refine op_notInD hu2 pins s σ H _ _ _ _ Q I r1 r2 ⟨_, _, d1, d2, shaped_of c1 (by omega), shaped_of c2 (Nat.le_trans l2 (by omega)), ?_⟩
      rw [any_toPys x 60 59 h1 ys h2]
      exact q
    | tup ys =>
      have hg : req (isFlat x = true ∧ ys.all isFlat = true) (.ok (!ys.any fun y => eqD y x)) = .ok k := by
        cases x <;> first | exact hg | skip
        rename_i cs
        cases cs with
        | nil => exact hg
        | cons c r => cases r <;> exact hg
      obtain ⟨⟨h1, h2⟩, hg⟩ := req_inv hg
      cases hg
      obtain ⟨a, us, rfl, ha, ra⟩ := hy.tup
      have rx : Rep X.K M x v := hx.rep fun xs z => by subst z; cases h1
      refine op_notIn_seq pins s σ H _ _ _ _ Q I r1 r2 ⟨a, us, rfl, .inr (ex_t e ha), flat_of h1 rx, flats_of h2 ra, ?_⟩
      show Q (.bl (!inV v us)) H
      rw [inV_eq h1 rx h2 ra]
      exact q
    | str t =>
      cases x <;> first | cases hg | skip
      rename_i cs
      cases cs with
      | nil => cases hg
      | cons c r =>
        cases r with
        | cons _ _ => cases hg
        | nil =>
          cases hg
          obtain ⟨rfl, _⟩ := hx.str
          obtain ⟨rfl, _⟩ := hy.str
          exact op_notIn_sign pins s σ H _ _ _ _ Q I r1 r2 ⟨c, _, rfl, rfl, q⟩
    | _ =>
      cases x <;> first | cases hg | skip
      rename_i cs
      cases cs with
      | nil => cases hg
      | cons c r => cases r <;> cases hg
end
end Fw

/-! built-ins, subscripts, slices, truth, by data -/
namespace Fw
open PySem PySem.Spec PyProof.Rows L2
open Evl (Ex ex_rd ex_l ex_t)

inductive RepBs (K : PySem.W.Frag) (M H : Hp) : List D → List V → Prop
  | nil : RepBs K M H [] []
  | cons {d : D} {v : V} {ds : List D} {vs : List V} : RepB K M H d v → RepBs K M H ds vs → RepBs K M H (d :: ds) (v :: vs)
theorem RepBs.up {K : PySem.W.Frag} {M H M1 H1 : Hp} : ∀ {ds : List D} {vs : List V}, RepBs K M H ds vs → Xt M H M1 H1 → RepBs K M1 H1 ds vs
  | _, _, .nil, _ => .nil
  | _, _, .cons a b, x => .cons (a.up x) (RepBs.up b x)
theorem RepBs.one {K : PySem.W.Frag} {M H : Hp} {d : D} {vs : List V} (h : RepBs K M H [d] vs) : ∃ v, vs = [v] ∧ RepB K M H d v := by
  cases h with
  | cons a b => cases b; exact ⟨_, rfl, a⟩
theorem RepBs.two {K : PySem.W.Frag} {M H : Hp} {d e : D} {vs : List V} (h : RepBs K M H [d, e] vs) : ∃ v u, vs = [v, u] ∧ RepB K M H d v ∧ RepB K M H e u := by
  cases h with
  | cons a b => cases b with | cons c b => cases b; exact ⟨_, _, rfl, a, c⟩

/-! ### kinds -/
def tyS : D → String
  | .non => "NoneType" | .bl _ => "bool" | .int _ => "int" | .str _ => "str" | .tup _ => "tuple" | .lst _ => "list" | .dct _ _ => "dict" | .ins _ _ => "object"
def tyT : Ty → String
  | .int => "int" | .str => "str" | .bool => "bool" | .tuple => "tuple" | .list => "list" | .dict => "dict"
theorem RepB.ty {K : PySem.W.Frag} {M H : Hp} {d : D} {v : V} (h : RepB K M H d v) (e : Ex M H) : TyX K H v (.type (tyS d)) := by
  cases d with
  | non => cases h.non; exact .base .non
  | bl b => cases h.bl; exact .base (.bl b)
  | int i => cases h.int; exact .base (.int i)
  | str s => obtain ⟨rfl, _⟩ := h.str; exact .base (.str _)
  | tup xs =>
    obtain ⟨a, vs, rfl, ha, _⟩ := h.tup
    rcases ex_t e ha with (q | ⟨o, q⟩) | ⟨o, its, n, q, c, _⟩
    · exact .base (.tup q)
    · exact .fTuple q
    · exact .kTuple q c
  | lst xs =>
    obtain ⟨a, vs, rfl, ha, _⟩ := h.lst e
    rcases ha with (q | ⟨o, q⟩) | ⟨o, its, n, q, c, _⟩
    · exact .base (.lst q)
    · exact .base (.frz q)
    · exact .kList q c
  | dct ks xs =>
    cases h.rep fun _ z => nomatch z with
    | dct a b c => exact .base (.dK (e _ _ a))
  | ins _ _ => cases h.rep fun _ z => nomatch z
theorem kit_d {t : Ty} {d : D} {b : Bool} (h : isTy t d = .ok b) : kitB (tyS d) (tyT t) = some b := by
  cases t <;> cases d <;> first | (cases h; done) | (cases h; simp only [tyS, tyT]; decide +kernel)

/-! ### truth -/
theorem tru_d {K : PySem.W.Frag} {M H : Hp} {d : D} {v : V} {b : Bool} (h : tru d = .ok b) (r : RepB K M H d v) (e : Ex M H) : TruV K v H b := by
  cases d with
  | non => cases h; cases r.non; rfl
  | bl c => cases h; cases r.bl; rfl
  | int i => cases h; cases r.int; rfl
  | str s =>
    obtain ⟨hl, h⟩ := req_inv h
    cases h
    obtain ⟨rfl, _⟩ := r.str
    refine ⟨by rw [str_len, ← lim_eq]; exact hl, ?_⟩
    rw [str_len]
    cases s with
    | nil => rfl
    | cons c s => simp; omega
  | lst xs =>
    cases h
    obtain ⟨a, vs, rfl, ha, ra⟩ := r.lst e
    refine .inl ⟨vs, ha, ?_⟩
    have := ra.length
    cases xs <;> cases vs <;> first | rfl | cases this
  | tup xs =>
    cases h
    obtain ⟨a, vs, rfl, ha, ra⟩ := r.tup
    refine .inr (.inl ⟨vs, ex_t e ha, ?_⟩)
    have := ra.length
    cases xs <;> cases vs <;> first | rfl | cases this
  | _ => cases h

/-! ### built-ins called by name -/
def bltV : Blt → Value
  | .len => .builtin "len" | .isi _ => .builtin "isinstance" | .intOf => .type "int" | .strOf => .type "str" | .listOf => .type "list" | .tupleOf => .type "tuple"
  | .absOf => .builtin "abs" | .max2 => .builtin "max" | .min2 => .builtin "min" | .sumOf => .builtin "sum" | .allOf => .builtin "all"
theorem blt_boot (f : Blt) : bootBuiltins (bltN f) = some (bltV f) := by cases f <;> simp only [bltN, bltV] <;> decide +kernel
theorem blt_kind (f : Blt) : (∃ id, bltV f = .builtin id) ∨ ∃ T, bltV f = .type T := by cases f <;> first | exact .inl ⟨_, rfl⟩ | exact .inr ⟨_, rfl⟩
def rBs (K : PySem.W.Frag) (g : List D → R D) : List V → Hp → VK → Prop := fun vs H Q => ∃ M ds d, Ex M H ∧ RepBs K M H ds vs ∧ g ds = .ok d ∧ ∀ M' H' z, Xt M H M' H' → Rep K M' d z → Q z H'
section
variable {X : Cx}
theorem intsD_rep {K : PySem.W.Frag} {M : Hp} : ∀ {ds : List D} {ns : List Int} {vs : List V}, intsD ds = .ok ns → Reps K M ds vs → vs = ns.map V.int
  | [], ns, vs, h, r => by cases h; cases r; rfl
  | d :: ds, ns, vs, h, r => by
    cases d <;> first | (cases h; done) | skip
    obtain ⟨q, h1, h2⟩ := R.bind_inv h
    cases h2
    cases r with
    | cons a b => cases a; rw [intsD_rep h1 b]; rfl
theorem blsD_rep {K : PySem.W.Frag} {M : Hp} : ∀ {ds : List D} {ns : List Bool} {vs : List V}, blsD ds = .ok ns → Reps K M ds vs → vs = ns.map V.bl
  | [], ns, vs, h, r => by cases h; cases r; rfl
  | d :: ds, ns, vs, h, r => by
    cases d <;> first | (cases h; done) | skip
    obtain ⟨q, h1, h2⟩ := R.bind_inv h
    cases h2
    cases r with
    | cons a b => cases a; rw [blsD_rep h1 b]; rfl
theorem dblt (f : Blt) (hc : hotN f = true → X.calm = true) (hf : ∀ t, f ≠ .isi t) : CallR X (bltV f) (rBs X.K (bltD f)) := by
  intro pins s σ H vs us Q I r h
  obtain ⟨M, ds, d, e, hd, hg, q⟩ := h
  have q0 : ∀ z, Rep X.K M d z → Q z H := fun z r => q M H z (Xt.refl e) r
  cases f with
  | isi t => exact absurd rfl (hf t)
  | len =>
    cases ds with
    | nil => cases hg
    | cons x ds =>
      cases ds with
      | cons _ _ => cases x <;> cases hg
      | nil =>
        obtain ⟨v, rfl, hx⟩ := hd.one
        cases x with
        | str t =>
          obtain ⟨hl, hg⟩ := req_inv hg
          cases hg
          obtain ⟨rfl, _⟩ := hx.str
          refine call_len pins s σ H _ us Q I r ⟨_, t.length, rfl, ⟨by rw [str_len, ← lim_eq]; exact hl, rfl⟩, q0 _ (.int _)⟩
        | lst xs =>
          cases hg
          obtain ⟨a, ws, rfl, ha, ra⟩ := hx.lst e
          exact call_len pins s σ H _ us Q I r ⟨_, xs.length, rfl, .inl ⟨ws, ha, ra.length⟩, q0 _ (.int _)⟩
        | tup xs =>
          cases hg
          obtain ⟨a, ws, rfl, ha, ra⟩ := hx.tup
          exact call_len pins s σ H _ us Q I r ⟨_, xs.length, rfl, .inr ⟨ws, ex_t e ha, ra.length⟩, q0 _ (.int _)⟩
        | _ => cases hg
  | intOf =>
    cases ds with
    | nil => cases hg
    | cons x ds =>
      cases ds with
      | cons _ _ => cases x <;> cases hg
      | nil =>
        obtain ⟨v, rfl, hx⟩ := hd.one
        cases x with
        | int i => cases hg; cases hx.int; exact call_int1 pins s σ H _ us Q I r (.inl ⟨i, rfl, q0 _ (.int _)⟩)
        | bl b => cases hg; cases hx.bl; exact call_int1 pins s σ H _ us Q I r (.inr ⟨b, rfl, q0 _ (.int _)⟩)
        | str t =>
          have hg : (match intText? ⟨t.toArray⟩ with | some n => req (t.length ≤ 640) (R.ok (D.int n)) | none => .stuck) = .ok d := hg
          cases ht : intText? ⟨t.toArray⟩ with
          | none => rw [ht] at hg; cases hg
          | some n =>
            rw [ht] at hg
            obtain ⟨hl, hg⟩ := req_inv hg
            cases hg
            obtain ⟨rfl, _⟩ := hx.str
            exact call_int_str pins s σ H _ us Q I r ⟨_, n, rfl, ht, by rw [str_len]; exact hl, q0 _ (.int _)⟩
        | _ => cases hg
  | strOf =>
    cases ds with
    | nil => cases hg
    | cons x ds =>
      cases ds with
      | cons _ _ => cases x <;> cases hg
      | nil =>
        obtain ⟨v, rfl, hx⟩ := hd.one
        cases x <;> first | (cases hg; done) | skip
        case str s =>
          cases hg
          obtain ⟨rfl, os⟩ := hx.str
          exact SkE.call_str_str pins _ σ H _ us Q I r ⟨_, rfl, q0 _ (.str _ os)⟩
        rename_i i
        obtain ⟨⟨h1, h2⟩, hg⟩ := req_inv hg
        cases hg
        cases hx.int
        refine call_str_int pins s σ H _ us Q I r ⟨i, rfl, ?_, ?_⟩
        · by_cases h0 : i.natAbs = 0
          · rw [h0]; decide
          · have := (Nat.log2_lt h0).mpr h1
            omega
        · have e1 : ((toString i : String) : Str) = ⟨(strI i).toArray⟩ := by unfold strI; rfl
          have z := q0 _ (Rep.str (strI i) fun c hc => of_decide_eq_true (List.all_eq_true.mp h2 c hc))
          rw [← e1] at z
          exact z
  | listOf =>
    cases ds with
    | nil => cases hg
    | cons x ds =>
      cases ds with
      | cons _ _ => cases x <;> cases hg
      | nil =>
        obtain ⟨v, rfl, hx⟩ := hd.one
        cases x with
        | lst xs =>
          cases hg
          obtain ⟨a, ws, rfl, ha, ra⟩ := hx.lst e
          refine call_list_of pins s σ H _ us Q I r ⟨a, ws, rfl, .inl ha, fun l hl => ?_⟩
          have x1 := Xt.new (o := .lst ws) e hl
          exact q _ _ _ x1 (.lst (.inl (.inl upd_same)) (ra.up x1.m))
        | tup xs =>
          cases hg
          obtain ⟨a, ws, rfl, ha, ra⟩ := hx.tup
          refine call_list_of pins s σ H _ us Q I r ⟨a, ws, rfl, .inr (ex_t e ha), fun l hl => ?_⟩
          have x1 := Xt.new (o := .lst ws) e hl
          exact q _ _ _ x1 (.lst (.inl (.inl upd_same)) (ra.up x1.m))
        | _ => cases hg
  | tupleOf =>
    cases ds with
    | nil => cases hg
    | cons x ds =>
      cases ds with
      | cons _ _ => cases x <;> cases hg
      | nil =>
        obtain ⟨v, rfl, hx⟩ := hd.one
        cases x with
        | lst xs =>
          cases hg
          obtain ⟨a, ws, rfl, ha, ra⟩ := hx.lst e
          refine call_tuple_of pins s σ H _ us Q I r ⟨a, ws, rfl, .inl ⟨ha, fun l hl => ?_⟩⟩
          have x1 := Xt.new (o := .tup ws) e hl
          exact q _ _ _ x1 (.tup (.inl (.inl upd_same)) (ra.up x1.m))
        | tup xs =>
          cases hg
          obtain ⟨a, ws, rfl, ha, ra⟩ := hx.tup
          exact call_tuple_of pins s σ H _ us Q I r ⟨a, ws, rfl, .inr ⟨ex_t e ha, q0 _ (.tup ha ra)⟩⟩
        | _ => cases hg
  | absOf =>
    cases ds with
    | nil => cases hg
    | cons x ds =>
      cases ds with
      | cons _ _ => cases x <;> cases hg
      | nil =>
        obtain ⟨v, rfl, hx⟩ := hd.one
        cases x with
        | int i => cases hg; cases hx.int; exact call_abs pins s σ H _ us Q I r ⟨i, rfl, q0 _ (.int _)⟩
        | _ => cases hg
  | max2 =>
    cases ds with
    | nil => cases hg
    | cons x ds =>
      cases ds with
      | nil => cases x <;> cases hg
      | cons y ds =>
        cases ds with
        | cons _ _ => cases x <;> first | cases hg | (cases y <;> cases hg)
        | nil =>
          obtain ⟨v, u, rfl, hx, hy⟩ := hd.two
          cases x <;> first | (cases hg; done) | skip
          cases y <;> first | (cases hg; done) | skip
          cases hg; cases hx.int; cases hy.int
          exact call_max2 (hc rfl) pins s σ H _ us Q I r ⟨_, _, rfl, q0 _ (.int _)⟩
  | min2 =>
    cases ds with
    | nil => cases hg
    | cons x ds =>
      cases ds with
      | nil => cases x <;> cases hg
      | cons y ds =>
        cases ds with
        | cons _ _ => cases x <;> first | cases hg | (cases y <;> cases hg)
        | nil =>
          obtain ⟨v, u, rfl, hx, hy⟩ := hd.two
          cases x <;> first | (cases hg; done) | skip
          cases y <;> first | (cases hg; done) | skip
          cases hg; cases hx.int; cases hy.int
          exact call_min2 (hc rfl) pins s σ H _ us Q I r ⟨_, _, rfl, q0 _ (.int _)⟩
  | sumOf =>
    cases ds with
    | nil => cases hg
    | cons x ds =>
      cases ds with
      | cons _ _ => cases x <;> cases hg
      | nil =>
        obtain ⟨v, rfl, hx⟩ := hd.one
        cases x <;> first | (cases hg; done) | skip
        obtain ⟨ns, h1, h2⟩ := R.bind_inv hg
        cases h2
        obtain ⟨a, ws, rfl, ha, ra⟩ := hx.lst e
        rw [intsD_rep h1 ra] at ha
        exact cr_sum (hc rfl) pins s σ H _ us Q I r ⟨a, ns, rfl, ha, q0 _ (.int _)⟩
  | allOf =>
    cases ds with
    | nil => cases hg
    | cons x ds =>
      cases ds with
      | cons _ _ => cases x <;> cases hg
      | nil =>
        obtain ⟨v, rfl, hx⟩ := hd.one
        cases x <;> first | (cases hg; done) | skip
        obtain ⟨bs, h1, h2⟩ := R.bind_inv hg
        cases h2
        obtain ⟨a, ws, rfl, ha, ra⟩ := hx.lst e
        rw [blsD_rep h1 ra] at ha
        exact cr_all (hc rfl) pins s σ H _ us Q I r ⟨a, bs, rfl, ha, q0 _ (.bl _)⟩

/-! ### subscripts and slices -/
theorem atD_inv {α : Type} {xs : List α} {i : Int} {a : α} (h : atD xs i = .ok a) : atI xs i = some a := by
  unfold atD at h
  split at h
  · rename_i b e; cases h; exact e
  · cases h
theorem atI_rep {K : PySem.W.Frag} {M : Hp} {ds : List D} {vs : List V} {i : Int} {d : D} (r : Reps K M ds vs) (h : atI ds i = some d) : ∃ v, atI vs i = some v ∧ Rep K M d v := by
  unfold atI at h ⊢
  rw [r.length] at h
  cases e : ixN vs.length i with
  | none => rw [e] at h; cases h
  | some j =>
    rw [e] at h
    obtain ⟨v, h1, h2⟩ := r.get h
    exact ⟨v, h1, h2⟩
theorem dix : IxR X (rD X.K ixD) := by
  intro value slice pins s σ H v u v' u' Q I r1 r2 h hs
  obtain ⟨M, x, y, d, e, hx, hy, hg, q⟩ := h
  have q0 : ∀ z, Rep X.K M d z → Q z H := fun z r => q M H z (Xt.refl e) r
  cases x with
  | lst xs =>
    cases y <;> first | (cases hg; done) | skip
    rename_i i
    obtain ⟨a, ws, rfl, ha, ra⟩ := hx.lst e
    cases hy.int
    obtain ⟨w, h1, h2⟩ := atI_rep ra (atD_inv hg)
    exact ix_list value slice pins s σ H _ _ _ _ Q I r1 r2 ⟨a, ws, i, w, rfl, rfl, ha, h1, q0 _ h2⟩ hs
  | tup xs =>
    cases y <;> first | (cases hg; done) | skip
    rename_i i
    obtain ⟨a, ws, rfl, ha, ra⟩ := hx.tup
    cases hy.int
    obtain ⟨w, h1, h2⟩ := atI_rep ra (atD_inv hg)
    exact ix_tup value slice pins s σ H _ _ _ _ Q I r1 r2 ⟨a, ws, i, w, rfl, rfl, ex_t e ha, h1, q0 _ h2⟩ hs
  | str t =>
    cases y <;> first | (cases hg; done) | skip
    rename_i i
    obtain ⟨hl, hg⟩ := req_inv hg
    obtain ⟨c, hc, hg⟩ := R.bind_inv hg
    cases hg
    obtain ⟨rfl, o⟩ := hx.str
    cases hy.int
    have h1 := atD_inv hc
    refine ix_str value slice pins s σ H _ _ _ _ Q I r1 r2 ⟨_, i, c, rfl, rfl, by rw [str_len, ← lim_eq]; exact hl, h1, q0 _ (.str [c] fun z hz => ?_)⟩ hs
    rw [List.mem_singleton] at hz
    subst hz
    obtain ⟨j, _, hj, _⟩ := atI_get h1
    exact o _ (List.mem_of_getElem? hj)
  | _ => cases y <;> cases hg
def rSl (K : PySem.W.Frag) : V → Option Int → Option Int → Hp → VK → Prop := fun v lo hi H Q => ∃ M x d, Ex M H ∧ RepB K M H x v ∧ slD x lo hi = .ok d ∧ ∀ M' H' z, Xt M H M' H' → Rep K M' d z → Q z H'
theorem cut_whole {α : Type} (xs : List α) (lo hi : Option Int) (h : HT.sIx xs.length 0 lo = 0 ∧ HT.sIx xs.length xs.length hi = xs.length) : cutL xs lo hi = xs := by
  unfold cutL
  rw [h.1, h.2]
  simp
theorem dsl : SlR X (rSl X.K) := by
  intro pins s σ H v v' vl vu lo hi sl Q I r1 hs pl pu h
  obtain ⟨M, x, d, e, hx, hg, q⟩ := h
  have q0 : ∀ z, Rep X.K M d z → Q z H := fun z r => q M H z (Xt.refl e) r
  cases x with
  | lst xs =>
    cases hg
    obtain ⟨a, ws, rfl, ha, ra⟩ := hx.lst e
    refine sl_list pins s σ H _ v' vl vu lo hi sl Q I r1 hs pl pu ⟨a, ws, rfl, ha, fun p hp => ?_⟩
    have x1 := Xt.new (o := .lst (cutV ws lo hi)) e hp
    exact q _ _ _ x1 (.lst (.inl (.inl upd_same)) (ra.cut.up x1.m))
  | tup xs =>
    cases hg
    obtain ⟨a, ws, rfl, ha, ra⟩ := hx.tup
    refine sl_tupA pins s σ H _ v' vl vu lo hi sl Q I r1 hs pl pu ⟨a, ws, rfl, ex_t e ha, fun z => ?_, fun _ p hp => ?_⟩
    · rw [cut_whole xs lo hi (by rw [ra.length]; exact z)] at q0
      exact q0 _ (.tup ha ra)
    · have x1 := Xt.new (o := .tup (cutV ws lo hi)) e hp
      exact q _ _ _ x1 (.tup (.inl (.inl upd_same)) (ra.cut.up x1.m))
  | str t =>
    obtain ⟨hl, hg⟩ := req_inv hg
    cases hg
    obtain ⟨rfl, o⟩ := hx.str
    exact sl_str pins s σ H _ v' vl vu lo hi sl Q I r1 hs pl pu ⟨_, rfl, by rw [str_len, ← lim_eq]; exact hl, q0 _ (.str _ (o.sub (cut_sub t lo hi)))⟩
  | _ => cases hg

/-! ### methods -/
theorem strsD_inv : ∀ {xs : List D} {q : List (List Nat)}, strsD xs = .ok q → xs = q.map D.str
  | [], q, h => by cases h; rfl
  | x :: xs, q, h => by
    cases x with
    | str s =>
      obtain ⟨r, h1, h2⟩ := R.bind_inv h
      cases h2
      rw [strsD_inv h1]; rfl
    | _ => cases h
theorem Reps.strs {K : PySem.W.Frag} {M : Hp} : ∀ {q : List (List Nat)} {vs : List V}, Reps K M (q.map D.str) vs → vs = (q.map fun s => (⟨s.toArray⟩ : Str)).map V.str ∧ ∀ s ∈ q, okS s
  | [], _, h => by cases h; exact ⟨rfl, fun _ z => nomatch z⟩
  | s :: q, _, h => by
    cases h with
    | cons a b =>
      obtain ⟨rfl, o⟩ := a.strI
      obtain ⟨e, os⟩ := Reps.strs b
      subst e
      exact ⟨rfl, fun t ht => (List.mem_cons.mp ht).elim (fun z => by rw [z]; exact o) (os t)⟩
theorem joinL_mem (S : List Nat) : ∀ (q : List (List Nat)) (c : Nat), c ∈ TL.joinL S q → c ∈ S ∨ ∃ s ∈ q, c ∈ s
  | [], c, h => by cases h
  | [p], c, h => .inr ⟨p, List.mem_singleton.mpr rfl, h⟩
  | p :: q :: r, c, h => by
    rcases List.mem_append.mp (show c ∈ p ++ (S ++ TL.joinL S (q :: r)) from h) with h | h
    · exact .inr ⟨p, List.mem_cons_self .., h⟩
    · rcases List.mem_append.mp h with h | h
      · exact .inl h
      · rcases joinL_mem S (q :: r) c h with h | ⟨s, hs, h⟩
        · exact .inl h
        · exact .inr ⟨s, List.mem_cons_of_mem _ hs, h⟩
theorem mem_joinL {S : List Nat} {c : Nat} : ∀ {q : List (List Nat)} {s : List Nat}, s ∈ q → c ∈ s → c ∈ TL.joinL S q
  | [p], s, h, hc => by rw [List.mem_singleton] at h; subst h; exact hc
  | p :: r :: q, s, h, hc => by
    show c ∈ p ++ (S ++ TL.joinL S (r :: q))
    rcases List.mem_cons.mp h with rfl | h
    · exact List.mem_append_left _ hc
    · exact List.mem_append_right _ (List.mem_append_right _ (mem_joinL h hc))
def rMt (K : PySem.W.Frag) (g : D → List D → R D) : V → List V → Hp → VK → Prop := fun v vs H Q => ∃ M x ds d, Ex M H ∧ RepB K M H x v ∧ RepBs K M H ds vs ∧ g x ds = .ok d ∧ ∀ M' H' z, Xt M H M' H' → Rep K M' d z → Q z H'
theorem dm_join : MtR X "str.join" (rMt X.K (mthD .join)) := by
  intro pins s σ H x xs v us Q I rx rs h
  obtain ⟨M, y, ds, d, e, hy, hd, hg, q⟩ := h
  have q0 : ∀ z, Rep X.K M d z → Q z H := fun z r => q M H z (Xt.refl e) r
  cases y <;> first | (cases hg; done) | skip
  rename_i t
  cases ds with
  | nil => cases hg
  | cons a ds =>
    cases a <;> first | (cases hg; done) | skip
    rename_i ys
    cases ds with
    | cons _ _ => cases hg
    | nil =>
      obtain ⟨w, rfl, hw⟩ := hd.one
      obtain ⟨ts, h1, hg⟩ := R.bind_inv hg
      obtain ⟨hl, hg⟩ := req_inv hg
      cases hg
      obtain ⟨rfl, o⟩ := hy.str
      obtain ⟨p, ws, rfl, hp, rp⟩ := hw.lst e
      rw [strsD_inv h1] at rp
      obtain ⟨rfl, os⟩ := rp.strs
      refine mt_join pins s σ H _ _ v us Q I rx rs ⟨_, p, ts.map fun s => (⟨s.toArray⟩ : Str), rfl, rfl, .inl (hp), ?_, ?_⟩
      · rw [List.map_map, List.length_map, str_len]
        exact hl
      · have e1 : Txt.join (⟨t.toArray⟩ : Str) (ts.map fun s => (⟨s.toArray⟩ : Str)) = ⟨(TL.joinL t ts).toArray⟩ := TL.ext_tl (by
          rw [TL.join_eq, TL.tl_join, List.map_map]
          congr 1
          exact List.map_id _)
        rw [e1]
        refine q0 _ (.str _ fun c hc => ?_)
        rcases joinL_mem t ts c hc with h | ⟨s, hs, h⟩
        · exact o c h
        · exact os s hs c h
theorem dm_count : MtR X "str.count" (rMt X.K (mthD .count)) := by
  intro pins s σ H x xs v us Q I rx rs h
  obtain ⟨M, y, ds, d, e, hy, hd, hg, q⟩ := h
  have q0 : ∀ z, Rep X.K M d z → Q z H := fun z r => q M H z (Xt.refl e) r
  cases y <;> first | (cases hg; done) | skip
  cases ds with
  | nil => cases hg
  | cons a ds =>
    cases a <;> first | (cases hg; done) | skip
    cases ds with
    | cons b ds => cases hg
    | nil =>
      obtain ⟨w, rfl, hw⟩ := hd.one
      cases hg
      obtain ⟨rfl, _⟩ := hy.str
      obtain ⟨rfl, _⟩ := hw.str
      exact mt_count pins s σ H _ _ v us Q I rx rs ⟨_, _, rfl, rfl, q0 _ (.int _)⟩
theorem ints_reps {K : PySem.W.Frag} {M : Hp} : ∀ {xs : List D} {ns : List Int} {vs : List V}, intsD xs = .ok ns → Reps K M xs vs → vs = ns.map V.int
  | [], _, _, h, r => by cases h; cases r; rfl
  | x :: xs, _, _, h, r => by
    cases r with
    | cons r1 r2 =>
      cases x <;> first | (cases h; done) | skip
      obtain ⟨ns, e1, e2⟩ := R.bind_inv h
      cases e2
      cases r1
      rw [ints_reps e1 r2]
      rfl
theorem dm_lcount : MtR X "list.count" (rMt X.K (mthD .lcount)) := by
  intro pins s σ H x xs v us Q I rx rs h
  obtain ⟨M, y, ds, d, e, hy, hd, hg, q⟩ := h
  have q0 : ∀ z, Rep X.K M d z → Q z H := fun z r => q M H z (Xt.refl e) r
  cases y <;> first | (cases hg; done) | skip
  cases ds with
  | nil => cases hg
  | cons a ds =>
    cases a <;> first | (cases hg; done) | skip
    cases ds with
    | cons b ds => cases hg
    | nil =>
      obtain ⟨w, rfl, hw⟩ := hd.one
      obtain ⟨ns, e1, e2⟩ := R.bind_inv hg
      cases e2
      obtain ⟨p, vs, rfl, hs, rr⟩ := hy.lst e
      have ev := ints_reps e1 rr
      subst ev
      cases hw.int
      exact mt_lcount pins s σ H _ _ v us Q I rx rs ⟨p, ns, _, rfl, rfl, hs, q0 _ (.int _)⟩
theorem dm_find : MtR X "str.find" (rMt X.K (mthD .find)) := by
  intro pins s σ H x xs v us Q I rx rs h
  obtain ⟨M, y, ds, d, e, hy, hd, hg, q⟩ := h
  have q0 : ∀ z, Rep X.K M d z → Q z H := fun z r => q M H z (Xt.refl e) r
  cases y <;> first | (cases hg; done) | skip
  cases ds with
  | nil => cases hg
  | cons a ds =>
    cases a <;> first | (cases hg; done) | skip
    cases ds with
    | cons b ds =>
      cases b <;> first | (cases hg; done) | skip
      cases ds with
      | cons _ _ => cases hg
      | nil =>
        obtain ⟨w, u, rfl, hw, hu⟩ := hd.two
        cases hg
        obtain ⟨rfl, _⟩ := hy.str
        obtain ⟨rfl, _⟩ := hw.str
        cases hu.int
        exact mt_find3 pins s σ H _ _ v us Q I rx rs ⟨_, _, _, rfl, rfl, q0 _ (.int _)⟩
    | nil =>
      obtain ⟨w, rfl, hw⟩ := hd.one
      cases hg
      obtain ⟨rfl, _⟩ := hy.str
      obtain ⟨rfl, _⟩ := hw.str
      exact mt_find pins s σ H _ _ v us Q I rx rs ⟨_, _, rfl, rfl, q0 _ (.int _)⟩
theorem of_toList (s : Str) : s = ⟨s.cps.toList.toArray⟩ := by cases s; simp
theorem dm_part : MtR X "str.partition" (rMt X.K (mthD .part)) := by
  intro pins s σ H x xs v us Q I rx rs h
  obtain ⟨M, y, ds, d, e, hy, hd, hg, q⟩ := h
  cases y <;> first | (cases hg; done) | skip
  rename_i a
  cases ds with
  | nil => cases hg
  | cons b ds =>
    cases b <;> first | (cases hg; done) | skip
    rename_i b
    cases ds with
    | cons _ _ => cases hg
    | nil =>
      obtain ⟨w, rfl, hw⟩ := hd.one
      obtain ⟨⟨h1, h2⟩, hg⟩ := req_inv hg
      cases hg
      obtain ⟨rfl, oa⟩ := hy.str
      obtain ⟨rfl, ob⟩ := hw.str
      refine mt_partition pins s σ H _ _ v us Q I rx rs ⟨_, _, rfl, rfl, ?_, by rw [str_len, ← lim_eq]; exact h2, fun p hp => ?_⟩
      · rw [str_len]
        cases b with
        | nil => exact absurd rfl h1
        | cons _ _ => rfl
      · have sum := StrLaws.partition_sum (⟨a.toArray⟩ : Str) (⟨b.toArray⟩ : Str)
        have key : ∀ c, c ∈ (part3 a b).1.cps.toList ∨ c ∈ (part3 a b).2.1.cps.toList ∨ c ∈ (part3 a b).2.2.cps.toList → c ∈ a := fun c hc => by
          have e2 := congrArg (fun z : Str => z.cps.toList) sum
          have e2 : (part3 a b).1.cps.toList ++ (part3 a b).2.1.cps.toList ++ (part3 a b).2.2.cps.toList = a := by
            rw [← TL.tl_append, ← TL.tl_append]
            exact e2
          rw [← e2]
          simp only [List.mem_append]
          rcases hc with hc | hc | hc
          · exact .inl (.inl hc)
          · exact .inl (.inr hc)
          · exact .inr hc
        have r1 : Rep X.K M (.str (part3 a b).1.cps.toList) (.str (part3 a b).1) := by
          have := Rep.str (K := X.K) (M := M) (part3 a b).1.cps.toList fun c hc => oa c (key c (.inl hc))
          rwa [← of_toList] at this
        have r2 : Rep X.K M (.str (part3 a b).2.1.cps.toList) (.str (part3 a b).2.1) := by
          have := Rep.str (K := X.K) (M := M) (part3 a b).2.1.cps.toList fun c hc => oa c (key c (.inr (.inl hc)))
          rwa [← of_toList] at this
        have r3 : Rep X.K M (.str (part3 a b).2.2.cps.toList) (.str (part3 a b).2.2) := by
          have := Rep.str (K := X.K) (M := M) (part3 a b).2.2.cps.toList fun c hc => oa c (key c (.inr (.inr hc)))
          rwa [← of_toList] at this
        have x1 := Xt.new (o := .tup [.str (part3 a b).1, .str (part3 a b).2.1, .str (part3 a b).2.2]) e hp
        exact q _ _ _ x1 (.tup (.inl (.inl upd_same)) (.cons (r1.up x1.m) (.cons (r2.up x1.m) (.cons (r3.up x1.m) .nil))))
theorem dm_split : MtR X "str.split" (rMt X.K (mthD .split)) := by
  intro pins s σ H x xs v us Q I rx rs h
  obtain ⟨M, y, ds, d, e, hy, hd, hg, q⟩ := h
  cases y <;> first | (cases hg; done) | skip
  rename_i a
  cases ds with
  | nil => cases hg
  | cons b ds =>
    cases b <;> first | (cases hg; done) | skip
    rename_i b
    cases ds with
    | cons _ _ => cases hg
    | nil =>
      obtain ⟨w, rfl, hw⟩ := hd.one
      obtain ⟨⟨h1, h2⟩, hg⟩ := req_inv hg
      cases hg
      obtain ⟨rfl, oa⟩ := hy.str
      obtain ⟨rfl, ob⟩ := hw.str
      refine mt_split pins s σ H _ _ v us Q I rx rs ⟨_, _, rfl, rfl, ?_, by rw [str_len, ← lim_eq]; exact h2, fun p hp => ?_⟩
      · rw [str_len]
        cases b with
        | nil => exact absurd rfl h1
        | cons _ _ => rfl
      · have sum : TL.joinL b (splitT a b) = a := by
          have e1 := congrArg (fun z : Str => z.cps.toList) (StrLaws.join_split (⟨a.toArray⟩ : Str) (⟨b.toArray⟩ : Str))
          have e2 : (Str.join (⟨b.toArray⟩ : Str) (Txt.split (⟨a.toArray⟩ : Str) ⟨b.toArray⟩)).cps.toList = TL.joinL b (splitT a b) := TL.tl_join _ _
          rw [← e2]
          exact e1
        have key : ∀ s ∈ splitT a b, ∀ c ∈ s, c ∈ a := fun s hs c hc => by
          rw [← sum]
          exact mem_joinL hs hc
        have x1 := Xt.new (o := .lst ((Txt.split (⟨a.toArray⟩ : Str) ⟨b.toArray⟩).map V.str)) e hp
        refine q _ _ _ x1 (.lst (.inl (.inl upd_same)) ?_)
        have all : ∀ l : List Str, (∀ s ∈ l, ∀ c ∈ s.cps.toList, c ∈ a) → Reps X.K (upd M p (.lst ((Txt.split (⟨a.toArray⟩ : Str) ⟨b.toArray⟩).map V.str))) ((l.map fun s => s.cps.toList).map .str) (l.map V.str) := fun l => by
          induction l with
          | nil => intro _; exact .nil
          | cons z l ih =>
            intro hz
            refine .cons ?_ (ih fun s hs => hz s (List.mem_cons_of_mem _ hs))
            have := Rep.str (K := X.K) (M := upd M p (.lst ((Txt.split (⟨a.toArray⟩ : Str) ⟨b.toArray⟩).map V.str))) z.cps.toList fun c hc => oa c (hz z (List.mem_cons_self ..) c hc)
            rwa [← of_toList] at this
        exact all _ fun s hs c hc => key s.cps.toList (List.mem_map.mpr ⟨s, hs, rfl⟩) c hc
theorem dm_index : MtR X "str.index" (rMt X.K (mthD .index)) := by
  intro pins s σ H x xs v us Q I rx rs h
  obtain ⟨M, y, ds, d, e, hy, hd, hg, q⟩ := h
  have q0 : ∀ z, Rep X.K M d z → Q z H := fun z r => q M H z (Xt.refl e) r
  cases y <;> first | (cases hg; done) | skip
  rename_i a
  cases ds with
  | nil => cases hg
  | cons b ds =>
    cases b <;> first | (cases hg; done) | skip
    rename_i b
    cases ds with
    | cons _ _ => cases hg
    | nil =>
      obtain ⟨w, rfl, hw⟩ := hd.one
      obtain ⟨rfl, _⟩ := hy.str
      obtain ⟨rfl, _⟩ := hw.str
      have hg : (match PySem.Builtin.Str.occurrences ⟨a.toArray⟩ ⟨b.toArray⟩ 0 a.length 1 with | i :: _ => R.ok (D.int (i : Nat)) | [] => .stuck) = .ok d := hg
      cases ho : PySem.Builtin.Str.occurrences ⟨a.toArray⟩ ⟨b.toArray⟩ 0 a.length 1 with
      | nil => rw [ho] at hg; cases hg
      | cons i rest =>
        rw [ho] at hg
        cases hg
        exact mt_sindex pins s σ H _ _ v us Q I rx rs ⟨_, _, i, rest, rfl, rfl, by rw [str_len]; exact ho, q0 _ (.int _)⟩
end
end Fw

/-! readings by data; what stands for what -/
namespace Fw
open PySem PySem.Spec PyProof.Rows L2
open Evl (Ex ex_rd ex_l ex_t)

/-- a law's text: its defs, its constants, the names -/
structure Lw where
  Γ : List Fn
  G : List D
  nm : Nm
def RepF (K : PySem.W.Frag) (H0 M H : Hp) : D × Bool → V → Prop
  | (d, false), v => Rep K M d v
  | (d, true), v => ∃ p vs xs, d = .lst xs ∧ v = .ref p ∧ H0 p = none ∧ M p = none ∧ H p = some (.lst vs) ∧ Reps K M xs vs
theorem RepF.told {K : PySem.W.Frag} {M0 H0 M H : Hp} {r : D × Bool} {v : V} (h : RepF K H0 M H r v) (x : Xt M0 H0 M H) : ∃ M', Xt M0 H0 M' H ∧ Rep K M' r.1 v := by
  obtain ⟨d, b⟩ := r
  cases b with
  | false => exact ⟨M, x, h⟩
  | true =>
    obtain ⟨p, vs, xs, rfl, rfl, h0, h1, h2, h3⟩ := h
    exact ⟨_, x.tell h0 h1 h2, .lst (.inl (.inl upd_same)) (h3.up (Evl.Ex.new h1))⟩
def veB : List Value := [.type "ValueError", .type "Exception", .type "BaseException", .type "object"]
/-- the class's value -/
def cvOf (mg : Str → Option Value) (L : Nm) (c : Nat) : Value := match L.EN[c]? with
  | some x => (mg x).getD ((bootBuiltins x).getD .none)
  | none => .none
def spF (K : PySem.W.Frag) (L : Lw) (n f : Nat) : Sp := fun vs H Q _ => ∃ M ds r, Ex M H ∧ Reps K M ds vs ∧ run L.Γ L.G n f ds = .ok r ∧ ∀ M' H' v, Xt M H M' H' → RepF K H M' H' r v → Q v H'
def spX (K : PySem.W.Frag) (L : Lw) (cv : Nat → Value) (n f : Nat) : Sp := fun vs H Q E => ∃ M ds, Ex M H ∧ Reps K M ds vs ∧ ((∃ r, run L.Γ L.G n f ds = .ok r ∧ ∀ M' H' v, Xt M H M' H' → RepF K H M' H' r v → Q v H') ∨
  ∃ c, run L.Γ L.G n f ds = .exc c ∧ ∀ M' H', Xt M H M' H' → E (cv c) none H')
/-- a class that is raised, caught and asked for -/
structure ROk (K : PySem.W.Frag) (mg : Str → Option Value) (L : Nm) (c : Nat) : Prop where
  own : ∃ C, (∀ x, L.EN[c]? = some x → mg x = some (.ref C)) ∧ cvOf mg L c = .ref C ∧ PySem.W.excIn K C veB "ValueError.__new__" = true ∧ PySem.W.keepIn K (.ref C) = true ∧ PySem.W.subIn K (.ref C) (.type "BaseException") = some true ∧ PySem.W.typeIn K (.ref C) = some (.type "type") ∧ ExcC K C
  sub : ∀ h, h < L.EN.length → PySem.W.exmOne K (cvOf mg L c) (cvOf mg L h) = some (subc c h) ∧ PySem.W.kitOne K (cvOf mg L c) (cvOf mg L h) = some (subc c h)
/-- a def, called within an except suite with the error -/
def HotRun (P : Program) (w : World) (K : PySem.W.Frag) (mg : Str → Option Value) (base : Heap) (L : Lw) (n f : Nat) (fa : Addr) : Prop := ∀ (A : Around) (outer : List Env) (s : Shared) (H : Hp) (a : Addr) (oe : Obj) (c : Nat) (Q : VK) (E : XK),
  L2H.RoomH n A → L2H.Hot1 A (a, oe) → L2H.PinOk outer H s (a, oe) → Env0 P w K mg base A outer s H → 2 ≤ c → c < L.nm.RN → L2N.Zn (cvOf mg L.nm c) none oe → (∃ vs, oe.data = .fields vs) →
  (∃ M r, Ex M H ∧ run L.Γ L.G n f [.ins c []] = .ok r ∧ ∀ M' H' v, Xt M H M' H' → Rep K M' r.1 v → Q v H') → codeAny (model P w) A (.call (.ref fa) ⟨[.ref a], []⟩) (CR CX0 outer P w H s Q E) s
structure Facts (L : Lw) (n : Nat) (P : Program) (w : World) (K : PySem.W.Frag) (mg : Str → Option Value) (base : Heap) : Prop where
  calls : ∀ (f : Nat) x, L.nm.FN[f]? = some x → ∃ fa fd ps, mg x = some (.ref fa) ∧ PySem.W.keepIn K (.ref fa) = true ∧ Binds K fd ps [] ∧ FnOk P w K mg base (L2N.CX P w) (3 * n) fa fd ps (spX K L (cvOf mg L.nm) n f)
  globs : ∀ (g : Nat) x d, L.nm.GN[g]? = some x → L.G[g]? = some d → ∃ v u, mg x = some u ∧ RelV v u ∧ ∀ M, Rep K M d v
  blts : ∀ x ∈ L.nm.BN, mg x = none
  enm : ∀ (c : Nat) x, L.nm.EN[c]? = some x → (mg x = some (cvOf mg L.nm c) ∨ (mg x = none ∧ bootBuiltins x = some (cvOf mg L.nm c) ∧ x ≠ "__name__")) ∧ (x == ("__debug__" : Str)) = false ∧ ∃ v, RelV v (cvOf mg L.nm c) ∧ ∀ u, RelV v u → u = cvOf mg L.nm c
  excs : ∀ c, 2 ≤ c → c < L.nm.RN → ROk K mg L.nm c
  hots : ∀ (f : Nat) y, f ∈ L.nm.HF → L.nm.FN[f]? = some y → ∃ fa, mg y = some (.ref fa) ∧ PySem.W.keepIn K (.ref fa) = true ∧ HotRun P w K mg base L n f fa
structure Good (L : Lw) (n : Nat) (N : List Str) (sc : Scope) (X : Cx) : Prop where
  fs : Facts L n X.prog X.w X.K X.mg X.base
  rmh : L2H.RoomH n X.A
  room : L.nm.hot = false → Room (3 * n) X.A
  room2 : L.nm.hot = false → Room (3 * n) X.A.in1.in1
  calm : L.nm.hot = false → X.calm = true
  hN : X.N = N
  nd : N.Nodup
  hsc : X.env.scope = sc

theorem Good.un {L : Lw} {n : Nat} {N : List Str} {sc : Scope} {X : Cx} (g : Good L n N sc X) : X.A.units + 65 < cLine := by have := g.rmh.un; omega
section
variable {X : Cx} {e : Expr}
theorem _root_.L2.PE.imp {t t' : TE} (h : PE X e t) (i : ∀ σ H Q, t' σ H Q → t σ H Q) : PE X e t' := ⟨fun pins s σ H Q I q => h.run pins s σ H Q I (i σ H Q q)⟩
theorem _root_.L2.PT.imp {t t' : TT} (h : PT X e t) (i : ∀ σ H Q, t' σ H Q → t σ H Q) : PT X e t' := ⟨fun pins s σ H Q I q => h.run pins s σ H Q I (i σ H Q q)⟩
theorem _root_.L2.PW.imp {t t' : TT} (h : PW X e t) (i : ∀ σ H Q, t' σ H Q → t σ H Q) : PW X e t' := ⟨fun wh pins s σ H Q I q => h.run wh pins s σ H Q I (i σ H Q q)⟩
theorem _root_.L2.PA.imp {es : List Expr} {t t' : TA} (h : PA X es t) (i : ∀ σ H Q, t' σ H Q → t σ H Q) : PA X es t' := ⟨fun pos pins s σ H Q I q => h.run pos pins s σ H Q I (i σ H Q q)⟩
theorem _root_.L2.PI.imp {tg : Expr} {t t' : TI} (h : PI X tg e t) (i : ∀ σ H R, t' σ H R → t σ H R) : PI X tg e t' := ⟨fun pins s σ H Q I q => h.run pins s σ H Q I (i σ H Q q)⟩
theorem _root_.L2.PO.imp {o : Option Expr} {t t' : TO} (h : PO X o t) (i : ∀ σ H Q, t' σ H Q → t σ H Q) : PO X o t' := ⟨fun pins s σ H Q I q => h.run pins s σ H Q I (i σ H Q q)⟩
end

section
variable (K : PySem.W.Frag)
def tC (co : En → R D) : TE := fun σ H Q => ∃ H0 M δ d, OKs K H0 M H σ δ ∧ co δ = .ok d ∧ ∀ M' H' v, Xt M H M' H' → Rep K M' d v → Q v H'
def tU (co : En → R D) : TE := fun σ H Q => ∃ H0 M δ d, OKs K H0 M H σ δ ∧ co δ = .ok d ∧ ∀ M' H' v, Xt M H M' H' → RepB K M' H' d v → Q v H'
def tK (co : En → R D) : TT := fun σ H Q => ∃ H0 M δ b, OKs K H0 M H σ δ ∧ co δ = .ok (.bl b) ∧ ∀ M' H', Xt M H M' H' → Q b H'
def tL (co : En → R (List D)) : TE := fun σ H Q => ∃ H0 M δ xs, OKs K H0 M H σ δ ∧ co δ = .ok xs ∧ ∀ M' H' p vs, Xt M H M' H' → H p = none → M' p = none → H' p = some (.lst vs) → Reps K M' xs vs → Q (.ref p) H'
def tAv (co : En → R (List D)) : TA := fun σ H Q => ∃ H0 M δ ds, OKs K H0 M H σ δ ∧ co δ = .ok ds ∧ ∀ M' H' vs, Xt M H M' H' → Reps K M' ds vs → Q vs H'
def tAb (co : En → R (List D)) : TA := fun σ H Q => ∃ H0 M δ ds, OKs K H0 M H σ δ ∧ co δ = .ok ds ∧ ∀ M' H' vs, Xt M H M' H' → RepBs K M' H' ds vs → Q vs H'
def tP (co : En → R (Option Int)) : TO := fun σ H Q => ∃ H0 M δ o, OKs K H0 M H σ δ ∧ co δ = .ok o ∧ ∀ M' H', Xt M H M' H' → Q o H'
/-- a walk over data -/
def DW (J : It) (ds : List D) (St : Hp → Hp → Prop) : Prop := ∃ G Y, Walk J ds.length G Y ∧ (∀ M H, St M H → Ex M H → G H) ∧
  ∀ i x M H H', i < ds.length → St M H → Ex M H → Y i H x H' → ∃ M' d, Xt M H M' H' ∧ ds[i]? = some d ∧ Rep K M' d x
def tIb (co : En → R (List D)) : TI := fun σ H R => ∃ H0 M δ ds, OKs K H0 M H σ δ ∧ co δ = .ok ds ∧ ∀ M' H' J, Xt M H M' H' → DW K J ds (fun M2 H2 => Ex M' M2 ∧ Ex H' H2) → R J H'
def tIv (co : En → R (List D)) : TI := fun σ H R => ∃ H0 M δ ds, OKs K H0 M H σ δ ∧ co δ = .ok ds ∧ ∀ M' H' J, Xt M H M' H' → DW K J ds (fun M2 _ => Ex M' M2) → R J H'
end
section
variable {K : PySem.W.Frag}
theorem tL.told {co : En → R (List D)} {σ : L2.St} {H : Hp} {Q : VK} (h : tC K (fun δ => (co δ).bind fun xs => .ok (.lst xs)) σ H Q) : tL K co σ H Q := by
  obtain ⟨H0, M, δ, d, o, e, q⟩ := h
  obtain ⟨xs, h1, h2⟩ := R.bind_inv e
  cases h2
  exact ⟨H0, M, δ, xs, o, h1, fun M' H' p vs x a b c r => q _ _ _ (x.tell a b c) (.lst (.inl (.inl upd_same)) (r.up (Evl.Ex.new b)))⟩
variable (L : Lw) (n : Nat)
abbrev evl (m : Md) (e : E) : En → R D := ev (run L.Γ L.G n) L.G m e
structure SX (X : Cx) (e : E) (x : Expr) : Prop where
  v : PE X x (tC X.K (evl L n .val e))
  b : PE X x (tU X.K (evl L n .bor e))
  t : PT X x (tK X.K (evl L n .test e))
variable {L n}
theorem bind_val {r : R D} : r.bind (post .val) = r := by cases r <;> rfl
theorem bind_bor {r : R D} : r.bind (post .bor) = r := by cases r <;> rfl
/-- what is evaluated alike however it is used -/
theorem SX.plain {X : Cx} {e : E} {x : Expr} {co : En → R D} (h : ∀ m δ, evl L n m e δ = (co δ).bind (post m)) (p : PE X x (tC X.K co))
    (he : ∀ whole, isTrue x X.env whole = (do let v ← whole; standAt x.pos; holding [v] (truthy v))) : SX L n X e x := by
  refine ⟨p.imp fun σ H Q q => ?_, p.imp fun σ H Q q => ?_, (pt_truth p he).imp fun σ H Q q => ?_⟩
  · obtain ⟨H0, M, δ, d, o, e1, q⟩ := q
    rw [h, bind_val] at e1
    exact ⟨H0, M, δ, d, o, e1, q⟩
  · obtain ⟨H0, M, δ, d, o, e1, q⟩ := q
    rw [h, bind_bor] at e1
    exact ⟨H0, M, δ, d, o, e1, fun M' H' v x r => q M' H' v x r.b⟩
  · obtain ⟨H0, M, δ, b, o, e1, q⟩ := q
    rw [h] at e1
    obtain ⟨d, e2, e3⟩ := R.bind_inv e1
    obtain ⟨b', e4, e5⟩ := R.bind_inv e3
    cases e5
    exact ⟨H0, M, δ, d, o, e2, fun M' H' v x r => ⟨b, tru_d e4 r.b x.mh, q M' H' x⟩⟩
/-- what is a truth, however it is used -/
theorem SX.truth {X : Cx} {e : E} {x : Expr} {co : En → R D} (h : ∀ m δ, evl L n m e δ = co δ) (p : PE X x (tC X.K co)) (t : PT X x (tK X.K co)) : SX L n X e x := by
  have hh : ∀ m, evl L n m e = co := fun m => funext (h m)
  refine ⟨?_, ?_, ?_⟩
  · rw [hh]; exact p
  · rw [hh]
    exact p.imp fun σ H Q ⟨H0, M, δ, d, o, e1, q⟩ => ⟨H0, M, δ, d, o, e1, fun M' H' v x r => q M' H' v x r.b⟩
  · rw [hh]; exact t
/-- two, one behind the other -/
theorem two_b {co1 co2 : En → R D} {f : D → D → R D} {r : R2} (hr : ∀ M H x y d v u Q, Ex M H → f x y = .ok d → RepB K M H x v → RepB K M H y u → (∀ M' H' z, Xt M H M' H' → Rep K M' d z → Q z H') → r v u H Q) :
    ∀ σ H Q, tC K (fun δ => (co1 δ).bind fun x => (co2 δ).bind fun y => f x y) σ H Q → tOp r (tU K co1) (tU K co2) σ H Q := by
  intro σ H Q ⟨H0, M, δ, d, o, e, q⟩
  obtain ⟨x, e1, e⟩ := R.bind_inv e
  obtain ⟨y, e2, e3⟩ := R.bind_inv e
  refine ⟨H0, M, δ, x, o, e1, fun M1 H1 v x1 r1 => ⟨H0, M1, δ, y, o.up x1, e2, fun M2 H2 u x2 r2 => ?_⟩⟩
  exact hr M2 H2 x y d v u Q x2.mh e3 (r1.up x2) r2 fun M' H' z x3 r3 => q M' H' z ((x1.trans x2).trans x3) r3
end
end Fw

/-! the parts of: what the small language tells is what the text does -/
namespace Fw
open PySem PySem.Spec PyProof.Rows L2
open Evl (Ex ex_rd ex_l ex_t)

theorem visB_ok {sc : Scope} {x : Str} (h : visB sc x = true) : Vis sc x ∧ (x == ("__debug__" : Str)) = false ∧ (x == ("__classdict__" : Str)) = false := by
  unfold visB at h
  simp only [Bool.and_eq_true, Bool.not_eq_true'] at h
  obtain ⟨⟨h1, h2⟩, h3⟩ := h
  refine ⟨?_, h2, h3⟩
  unfold Vis
  split at h1
  · rename_i e; exact .inl e
  · rename_i e; exact .inr (.inl e)
  · rename_i e; exact .inr (.inr e)
  · cases h1
theorem locB_ok {sc : Scope} {x : Str} (h : locB sc x = true) : L2.Loc sc x := by
  unfold locB at h
  unfold L2.Loc
  split at h
  · rename_i e; exact .inl e
  · rename_i e; exact .inr e
  · cases h
theorem glB_ok {sc : Scope} {x : Str} (h : glB sc x = true) : sc.names.lookup x = some .globalImplicit ∧ (x == ("__debug__" : Str)) = false := by
  unfold glB at h
  simp only [Bool.and_eq_true, Bool.not_eq_true'] at h
  obtain ⟨h1, h2⟩ := h
  refine ⟨?_, h2⟩
  split at h1
  · assumption
  · cases h1
theorem bnB_ok {L : Nm} {sc : Scope} {x s : Str} (h : bnB L sc x s = true) : x = s ∧ sc.names.lookup x = some .globalImplicit ∧ (x == ("__debug__" : Str)) = false ∧ x ∈ L.BN ∧ x ≠ ("__name__" : Str) := by
  unfold bnB at h
  simp only [Bool.and_eq_true, Bool.not_eq_true', decide_eq_true_eq] at h
  obtain ⟨⟨⟨h1, h2⟩, h3⟩, h4⟩ := h
  obtain ⟨h5, h6⟩ := glB_ok h2
  exact ⟨h1, h5, h6, h3, fun z => by subst z; simp [nmn] at h4⟩

/-! ### no star -/
def notStar : Expr → Bool
  | .Starred _ _ => false
  | _ => true
theorem mE_ns {L : Nm} {N : List Str} {sc : Scope} {e : E} {x : Expr} (h : mE L N sc e x = true) : notStar x = true := by
  cases x with
  | Starred y p =>
    cases e with
    | blt f as => cases f <;> simp [mE] at h
    | _ => simp [mE] at h
  | _ => rfl
theorem star_ns {x : Expr} (h : notStar x = true) (xs : List Expr) (env : Env) : starEach (x :: xs) env = (false, eval x env) :: starEach xs env := by
  cases x <;> first | rfl | cases h
theorem mEs_cons {L : Nm} {N : List Str} {sc : Scope} {a : E} {as : List E} {xs : List Expr} (h : mEs L N sc (a :: as) xs = true) : ∃ y ys, xs = y :: ys ∧ mE L N sc a y = true ∧ mEs L N sc as ys = true := by
  cases xs with
  | nil => simp [mEs] at h
  | cons y ys =>
    rw [mEs] at h
    simp only [Bool.and_eq_true] at h
    exact ⟨y, ys, rfl, h.1, h.2⟩
theorem mEs_nil {L : Nm} {N : List Str} {sc : Scope} {xs : List Expr} (h : mEs L N sc [] xs = true) : xs = [] := by
  cases xs with
  | nil => rfl
  | cons y ys => simp [mEs] at h
theorem stars_ok {L : Nm} {N : List Str} {sc : Scope} (pos : Pos) (env : Env) : ∀ {as : List E} {xs : List Expr}, mEs L N sc as xs = true → (backTo pos (starEach xs env)).any (·.1) = false
  | [], xs, h => by rw [mEs_nil h]; rfl
  | a :: as, xs, h => by
    obtain ⟨y, ys, rfl, h1, h2⟩ := mEs_cons h
    rw [star_ns (mE_ns h1)]
    show (false || (backTo pos (starEach ys env)).any (·.1)) = false
    rw [stars_ok pos env h2]; rfl
theorem stars_all {L : Nm} {N : List Str} {sc : Scope} (pos : Pos) (env : Env) : ∀ {as : List E} {xs : List Expr}, mEs L N sc as xs = true → (backTo pos (starEach xs env)).all (fun x => !x.1) = true
  | [], xs, h => by rw [mEs_nil h]; rfl
  | a :: as, xs, h => by
    obtain ⟨y, ys, rfl, h1, h2⟩ := mEs_cons h
    rw [star_ns (mE_ns h1)]
    show (!false && (backTo pos (starEach ys env)).all (fun x => !x.1)) = true
    rw [stars_all pos env h2]; rfl

section
variable {L : Lw} {n : Nat} {N : List Str} {sc : Scope} {X : Cx}
theorem Good.gl (g : Good L n N sc X) {x : Str} (h : sc.names.lookup x = some .globalImplicit) : Gl X x := by
  show X.env.scope.names.lookup x = _
  rw [g.hsc]; exact h
/-- a test by a value's truth -/
theorem pt_of {x : Expr} {cb co : En → R D} (hb : PE X x (tU X.K cb)) (ht : ∀ δ b, co δ = .ok (.bl b) → ∃ d, cb δ = .ok d ∧ tru d = .ok b)
    (he : ∀ whole, isTrue x X.env whole = (do let v ← whole; standAt x.pos; holding [v] (truthy v))) : PT X x (tK X.K co) :=
  (pt_truth hb he).imp fun σ H Q ⟨H0, M, δ, b, o, e, q⟩ => by
    obtain ⟨d, e1, e2⟩ := ht δ b e
    exact ⟨H0, M, δ, d, o, e1, fun M' H' v x r => ⟨b, tru_d e2 r x.mh, q M' H' x⟩⟩

/-! ### names and constants -/
theorem sx_var (g : Good L n N sc X) {i : Nat} {y : Str} {p : Pos} (h : N[i]? = some y) (hv : visB sc y = true) : SX L n X (.var i) (.Name y p) := by
  obtain ⟨v1, v2, v3⟩ := visB_ok hv
  have P := pe_var (X := X) (i := i) (x := y) (pos := p) (by rw [g.hN]; exact h) (by rw [g.hsc]; exact v1) v2 v3
  have B : PE X (.Name y p) (tU X.K (fun δ => getV .bor δ[i]?)) := P.imp fun σ H Q ⟨H0, M, δ, d, o, e, q⟩ => by
    have e : getV .bor δ[i]? = .ok d := e
    cases c : δ[i]? with
    | none => rw [c] at e; cases e
    | some s =>
      rw [c] at e
      cases s with
      | no => cases e
      | dat d' =>
        cases e
        obtain ⟨v, h1, h2⟩ := o.getD c
        exact ⟨v, h1, q M H v (Xt.refl o.ex) h2.b⟩
      | own xs =>
        cases e
        obtain ⟨a, vs, h1, h2, h3, h4⟩ := o.getO c
        exact ⟨_, h1, q M H _ (Xt.refl o.ex) (.inr ⟨a, vs, xs, rfl, rfl, h3, h4⟩)⟩
  refine ⟨P.imp fun σ H Q ⟨H0, M, δ, d, o, e, q⟩ => ?_, ?_, pt_of B (fun δ b e => ?_) (by intro _; rfl)⟩
  · have e : (getV .val δ[i]?).bind (post .val) = .ok d := e
    rw [bind_val] at e
    cases c : δ[i]? with
    | none => rw [c] at e; cases e
    | some s =>
      rw [c] at e
      cases s with
      | dat d' =>
        cases e
        obtain ⟨v, h1, h2⟩ := o.getD c
        exact ⟨v, h1, q M H v (Xt.refl o.ex) h2⟩
      | _ => cases e
  · have : (evl L n .bor (.var i)) = fun δ => getV .bor δ[i]? := funext fun δ => bind_bor
    rw [this]; exact B
  · have e : (getV .test δ[i]?).bind (post .test) = .ok (.bl b) := e
    obtain ⟨d, e1, e2⟩ := R.bind_inv e
    obtain ⟨b', e4, e5⟩ := R.bind_inv e2
    cases e5
    refine ⟨d, ?_, e4⟩
    cases c : δ[i]? with
    | none => rw [c] at e1; cases e1
    | some s => rw [c] at e1; cases s <;> first | exact e1 | cases e1
theorem sx_int {i : Int} {k : Nat} {p : Pos} : SX L n X (.int i) (.Constant (.int i) k p) :=
  SX.plain (co := fun _ => .ok (.int i)) (fun _ _ => rfl) (pe_int.imp fun σ H Q ⟨H0, M, δ, d, o, e, q⟩ => by cases e; exact q M H _ (Xt.refl o.ex) (.int i)) (by intro _; rfl)
theorem sx_bl {b : Bool} {k : Nat} {p : Pos} : SX L n X (.bl b) (.Constant (.bool b) k p) :=
  SX.plain (co := fun _ => .ok (.bl b)) (fun m _ => by cases m <;> rfl) (pe_bl.imp fun σ H Q ⟨H0, M, δ, d, o, e, q⟩ => by cases e; exact q M H _ (Xt.refl o.ex) (.bl b)) (by intro _; rfl)
theorem sx_non {k : Nat} {p : Pos} : SX L n X .non (.Constant .none k p) :=
  SX.plain (co := fun _ => .ok .non) (fun _ _ => rfl) (pe_non.imp fun σ H Q ⟨H0, M, δ, d, o, e, q⟩ => by cases e; exact q M H _ (Xt.refl o.ex) .non) (by intro _; rfl)
theorem sx_str {s : List Nat} {y : Str} {k : Nat} {p : Pos} (h : y.cps.toList = s) (ok : okS s) : SX L n X (.str s) (.Constant (.str y) k p) := by
  subst h
  refine SX.plain (co := fun _ => .ok (.str y.cps.toList)) (fun _ _ => rfl) (pe_str.imp fun σ H Q ⟨H0, M, δ, d, o, e, q⟩ => ?_) (by intro _; rfl)
  cases e
  have z := Rep.str (K := X.K) (M := M) y.cps.toList ok
  exact q M H _ (Xt.refl o.ex) z
theorem sx_glob (g : Good L n N sc X) {i : Nat} {y : Str} {p : Pos} (h : L.nm.GN[i]? = some y) (hv : glB sc y = true) : SX L n X (.glob i) (.Name y p) := by
  obtain ⟨v1, v2⟩ := glB_ok hv
  cases c : L.G[i]? with
  | none =>
    have e0 : ∀ m, evl L n m (.glob i) = fun _ => .stuck := fun m => funext fun δ => by show (match L.G[i]? with | some d => post m d | none => .stuck) = _; rw [c]
    exact ⟨⟨fun _ _ _ _ _ _ ⟨_, _, _, _, _, e, _⟩ => by rw [e0] at e; cases e⟩, ⟨fun _ _ _ _ _ _ ⟨_, _, _, _, _, e, _⟩ => by rw [e0] at e; cases e⟩, ⟨fun _ _ _ _ _ _ ⟨_, _, _, _, _, e, _⟩ => by rw [e0] at e; cases e⟩⟩
  | some d =>
    obtain ⟨v, u, h1, h2, h3⟩ := g.fs.globs i y d h c
    refine SX.plain (co := fun _ => .ok d) (fun m δ => ?_) ((pe_glob (g.gl v1) h1 h2 v2).imp fun σ H Q ⟨H0, M, δ, d', o, e, q⟩ => ?_) (by intro _; rfl)
    · show (match L.G[i]? with | some d => post m d | none => .stuck) = _; rw [c]; rfl
    · cases e; exact q M H _ (Xt.refl o.ex) (h3 M)

/-! ### operations -/
theorem sx_op {o : Op2} {p : Operator} {a b : E} {x y : Expr} {pos : Pos} (h : op2B o p = true) (ha : SX L n X a x) (hb : SX L n X b y) : SX L n X (.op o a b) (.BinOp x p y pos) := by
  refine SX.plain (co := fun δ => (evl L n .bor a δ).bind fun x => (evl L n .bor b δ).bind fun y => op2 o x y) (fun m δ => ?_) ((pe_op (dop h) ha.b hb.b).imp (two_b fun M H x y d v u Q e h r1 r2 q => ⟨M, x, y, d, e, r1, r2, h, q⟩)) (by intro _; rfl)
  show ((evl L n .bor a δ).bind fun x => (evl L n .bor b δ).bind fun y => (op2 o x y).bind (post m)) = _
  cases evl L n .bor a δ with
  | ok x => cases evl L n .bor b δ <;> rfl
  | _ => rfl
theorem sx_neg {a : E} {x : Expr} {pos : Pos} (ha : SX L n X a x) : SX L n X (.neg a) (.UnaryOp .USub x pos) := by
  refine SX.plain (co := fun δ => (evl L n .val a δ).bind fun x => match x with | .int i => .ok (.int (-i)) | _ => .stuck) (fun m δ => ?_) ((pe_un un_neg ha.v).imp fun σ H Q ⟨H0, M, δ, d, o, e, q⟩ => ?_) (by intro _; rfl)
  · show ((evl L n .val a δ).bind fun x => match x with | .int i => post m (.int (-i)) | _ => .stuck) = _
    cases evl L n .val a δ with
    | ok x => cases x <;> rfl
    | _ => rfl
  · obtain ⟨x, e1, e2⟩ := R.bind_inv e
    refine ⟨H0, M, δ, x, o, e1, fun M' H' v x1 r => ?_⟩
    cases x <;> first | (cases e2; done) | skip
    cases e2; cases r
    exact ⟨_, rfl, q M' H' _ x1 (.int _)⟩
theorem marks {c : Cp} {p : CmpOp} {y : Expr} {L' : Nm} {N' : List Str} {sc' : Scope} {b : E} (h : mE L' N' sc' b y = true) : behindInMarks p y = false := by
  cases y with
  | Set es k q => cases b with
    | blt f as => cases f <;> simp [mE] at h
    | _ => simp [mE] at h
  | _ => rfl
theorem sx_cmp (g : Good L n N sc X) {c : Cp} {p : CmpOp} {a b : E} {x y : Expr} {pos : Pos} (h : cpB c p = true) (ha : SX L n X a x) (hb : SX L n X b y) (hm : behindInMarks p y = false) : SX L n X (.cmp c a b) (.Compare x [p] [y] pos) := by
  have O := dcp (c := c) (p := p) h g.un
  have key : ∀ (σ : L2.St) (H : Hp) (Q : Bool → Hp → Prop) (Qv : VK), (∀ k H', Q k H' → Qv (.bl k) H') → (∃ H0 M δ k, OKs X.K H0 M H σ δ ∧ evl L n .val (.cmp c a b) δ = .ok (.bl k) ∧ ∀ M' H', Xt M H M' H' → Q k H') → tOp (rDc X.K (cmpD c)) (tU X.K (evl L n .bor a)) (tU X.K (evl L n .bor b)) σ H Qv := by
    intro σ H Q Qv hQ ⟨H0, M, δ, k, o, e, q⟩
    obtain ⟨x, e1, e⟩ := R.bind_inv e
    obtain ⟨y, e2, e3⟩ := R.bind_inv e
    obtain ⟨k', e4, e5⟩ := R.bind_inv e3
    cases e5
    exact ⟨H0, M, δ, x, o, e1, fun M1 H1 v x1 r1 => ⟨H0, M1, δ, y, o.up x1, e2, fun M2 H2 u x2 r2 => ⟨M2, x, y, k, x2.mh, r1.up x2, r2, e4, hQ _ _ (q M2 H2 (x1.trans x2))⟩⟩⟩
  refine SX.truth (co := evl L n .val (.cmp c a b)) (fun _ _ => rfl) ((pe_cmpR O ha.b hb.b hm).imp fun σ H Q ⟨H0, M, δ, d, o, e, q⟩ => ?_) ((pt_cmpR O ha.b hb.b hm).imp fun σ H Q ⟨H0, M, δ, b, o, e, q⟩ => ?_)
  · have e' := e
    obtain ⟨x, _, e⟩ := R.bind_inv e
    obtain ⟨y, _, e3⟩ := R.bind_inv e
    obtain ⟨k', _, e5⟩ := R.bind_inv e3
    cases e5
    exact key σ H (fun k H' => Q (.bl k) H') Q (fun _ _ h => h) ⟨H0, M, δ, k', o, e', fun M' H' x => q M' H' _ x (.bl _)⟩
  · exact key σ H Q _ (fun k H' h => ⟨k, rfl, h⟩) ⟨H0, M, δ, b, o, e, q⟩
theorem sx_chain (g : Good L n N sc X) {c c' : Cp} {p p' : CmpOp} {a b d : E} {x y z : Expr} {pos : Pos} (h : cpB c p = true) (h' : cpB c' p' = true) (ha : SX L n X a x) (hb : SX L n X b y) (hd : SX L n X d z) (hm : behindInMarks p' z = false) : SX L n X (.chain c c' a b d) (.Compare x [p, p'] [y, z] pos) := by
  have O := dcp (c := c) (p := p) h g.un
  have O' := dcp (c := c') (p := p') h' g.un
  have key : ∀ (σ : L2.St) (H : Hp) (Q : Bool → Hp → Prop) (Qv : VK), (∀ k H', Q k H' → Qv (.bl k) H') → (∃ H0 M δ k, OKs X.K H0 M H σ δ ∧ evl L n .val (.chain c c' a b d) δ = .ok (.bl k) ∧ ∀ M' H', Xt M H M' H' → Q k H') → tChain (rDc X.K (cmpD c)) (rDc X.K (cmpD c')) (tU X.K (evl L n .bor a)) (tU X.K (evl L n .bor b)) (tU X.K (evl L n .bor d)) σ H Qv := by
    intro σ H Q Qv hQ ⟨H0, M, δ, k, o, e, q⟩
    obtain ⟨x, e1, e⟩ := R.bind_inv e
    obtain ⟨y, e2, e3⟩ := R.bind_inv e
    obtain ⟨k1, e4, e5⟩ := R.bind_inv e3
    refine ⟨H0, M, δ, x, o, e1, fun M1 H1 v x1 r1 => ⟨H0, M1, δ, y, o.up x1, e2, fun M2 H2 u x2 r2 => ⟨M2, x, y, k1, x2.mh, r1.up x2, r2, e4, k1, rfl, ?_⟩⟩⟩
    cases k1 with
    | false =>
      cases e5
      rw [if_neg (by decide)]
      exact hQ _ _ (q M2 H2 (x1.trans x2))
    | true =>
      obtain ⟨z, e6, e7⟩ := R.bind_inv e5
      obtain ⟨k2, e8, e9⟩ := R.bind_inv e7
      cases e9
      rw [if_pos rfl]
      exact ⟨H0, M2, δ, z, (o.up x1).up x2, e6, fun M3 H3 w x3 r3 => ⟨M3, y, z, k, x3.mh, r2.up x3, r3, e8, hQ _ _ (q M3 H3 ((x1.trans x2).trans x3))⟩⟩
  have hm' : lastMarks [p, p'] [y, z] = false := hm
  refine SX.truth (co := evl L n .val (.chain c c' a b d)) (fun _ _ => rfl) ((pe_chain O O' ha.b hb.b hd.b hm').imp fun σ H Q ⟨H0, M, δ, dd, o, e, q⟩ => ?_) ((pt_chain O O' ha.b hb.b hd.b hm').imp fun σ H Q ⟨H0, M, δ, b, o, e, q⟩ => ?_)
  · have e' := e
    obtain ⟨x, _, e⟩ := R.bind_inv e
    obtain ⟨y, _, e3⟩ := R.bind_inv e
    obtain ⟨k', _, e5⟩ := R.bind_inv e3
    have : ∃ k, dd = .bl k := by
      cases k' with
      | false => cases e5; exact ⟨_, rfl⟩
      | true =>
        obtain ⟨z, _, e7⟩ := R.bind_inv e5
        obtain ⟨k2, _, e9⟩ := R.bind_inv e7
        cases e9; exact ⟨_, rfl⟩
    obtain ⟨k, rfl⟩ := this
    exact key σ H (fun k H' => Q (.bl k) H') Q (fun _ _ h => h) ⟨H0, M, δ, k, o, e', fun M' H' x => q M' H' _ x (.bl _)⟩
  · exact key σ H Q _ (fun k H' h => ⟨k, rfl, h⟩) ⟨H0, M, δ, b, o, e, q⟩
/-- is, is not of one by a written one -/
theorem sx_is {e a : E} {x y : Expr} {p : CmpOp} {pos : Pos} {w : V} {r : R2} {f : D → R Bool} {m : Md} {tv : TE} (hm : p ≠ .In ∧ p ≠ .NotIn) (O : OpR X (compareOp p) r) (Y : PE X y (L2.tC w)) (A : PE X x tv)
    (hv : ∀ m' δ, evl L n m' e δ = (evl L n m a δ).bind fun x => (f x).bind fun k => .ok (.bl k))
    (ht : ∀ (σ : L2.St) (H : Hp) (Q : VK), (∃ H0 M δ d, OKs X.K H0 M H σ δ ∧ evl L n m a δ = .ok d ∧ ∀ M' H' v, Xt M H M' H' → RepB X.K M' H' d v → Q v H') → tv σ H Q)
    (hr : ∀ M H d v k Q, Ex M H → RepB X.K M H d v → f d = .ok k → Q (.bl k) H → r v w H Q) : SX L n X e (.Compare x [p] [y] pos) := by
  have hb : behindInMarks p y = false := nobehind _ hm.1 hm.2
  have key : ∀ (σ : L2.St) (H : Hp) (Q : Bool → Hp → Prop) (Qv : VK), (∀ k H', Q k H' → Qv (.bl k) H') → (∃ H0 M δ k, OKs X.K H0 M H σ δ ∧ evl L n .val e δ = .ok (.bl k) ∧ ∀ M' H', Xt M H M' H' → Q k H') → tOp r tv (L2.tC w) σ H Qv := by
    intro σ H Q Qv hQ ⟨H0, M, δ, k, o, e, q⟩
    rw [hv] at e
    obtain ⟨d, e1, e2⟩ := R.bind_inv e
    obtain ⟨k', e4, e5⟩ := R.bind_inv e2
    cases e5
    exact ht σ H _ ⟨H0, M, δ, d, o, e1, fun M1 H1 v x1 r1 => hr M1 H1 d v k Qv x1.mh r1 e4 (hQ _ _ (q M1 H1 x1))⟩
  refine SX.truth (co := evl L n .val e) (fun m' δ => by rw [hv, hv]) ((pe_cmpR O A Y hb).imp fun σ H Q ⟨H0, M, δ, d, o, e, q⟩ => ?_) ((pt_cmpR O A Y hb).imp fun σ H Q ⟨H0, M, δ, b, o, e, q⟩ => ?_)
  · have e' := e
    rw [hv] at e
    obtain ⟨x, _, e2⟩ := R.bind_inv e
    obtain ⟨k', _, e5⟩ := R.bind_inv e2
    cases e5
    exact key σ H (fun k H' => Q (.bl k) H') Q (fun _ _ h => h) ⟨H0, M, δ, k', o, e', fun M' H' x => q M' H' _ x (.bl _)⟩
  · exact key σ H Q _ (fun k H' h => ⟨k, rfl, h⟩) ⟨H0, M, δ, b, o, e, q⟩
end
end Fw

/-! .. and, or, not; displays; calls; methods; subscripts; slices -/
namespace Fw
open PySem PySem.Spec PyProof.Rows L2
open Evl (Ex ex_rd ex_l ex_t)
section
variable {L : Lw} {n : Nat} {N : List Str} {sc : Scope} {X : Cx}

abbrev evsl (L : Lw) (n : Nat) (as : List E) : En → R (List D) := evs (run L.Γ L.G n) L.G as
abbrev evbl (L : Lw) (n : Nat) (as : List E) : En → R (List D) := evb (run L.Γ L.G n) L.G as
abbrev evAl (L : Lw) (n : Nat) (m : Md) (as : List E) : En → R D := evA (run L.Γ L.G n) L.G m as
abbrev evOl (L : Lw) (n : Nat) (m : Md) (as : List E) : En → R D := evO (run L.Γ L.G n) L.G m as
structure SL (L : Lw) (n : Nat) (X : Cx) (as : List E) (xs : List Expr) : Prop where
  av : PA X xs (tAv X.K (evsl L n as))
  ab : PA X xs (tAb X.K (evbl L n as))
  andv : ∀ pos, PE X (.BoolOp .And xs pos) (tC X.K (evAl L n .val as))
  andb : ∀ pos, PE X (.BoolOp .And xs pos) (tU X.K (evAl L n .bor as))
  andt : ∀ pos, PW X (.BoolOp .And xs pos) (tK X.K (evAl L n .test as))
  orv : ∀ pos, PE X (.BoolOp .Or xs pos) (tC X.K (evOl L n .val as))
  orb : ∀ pos, PE X (.BoolOp .Or xs pos) (tU X.K (evOl L n .bor as))
  ort : ∀ pos, PW X (.BoolOp .Or xs pos) (tK X.K (evOl L n .test as))
theorem sl_nil : SL L n X [] [] := by
  refine ⟨pa_nil.imp fun σ H Q ⟨H0, M, δ, d, o, e, q⟩ => ?_, pa_nil.imp fun σ H Q ⟨H0, M, δ, d, o, e, q⟩ => ?_, fun _ => ⟨fun _ _ _ _ _ _ ⟨_, _, _, _, _, e, _⟩ => by cases e⟩, fun _ => ⟨fun _ _ _ _ _ _ ⟨_, _, _, _, _, e, _⟩ => by cases e⟩,
    fun _ => ⟨fun _ _ _ _ _ _ _ ⟨_, _, _, _, _, e, _⟩ => by cases e⟩, fun _ => ⟨fun _ _ _ _ _ _ ⟨_, _, _, _, _, e, _⟩ => by cases e⟩, fun _ => ⟨fun _ _ _ _ _ _ ⟨_, _, _, _, _, e, _⟩ => by cases e⟩, fun _ => ⟨fun _ _ _ _ _ _ _ ⟨_, _, _, _, _, e, _⟩ => by cases e⟩⟩
  · cases e; exact q M H _ (Xt.refl o.ex) .nil
  · cases e; exact q M H _ (Xt.refl o.ex) .nil
theorem bl_inv {r : R D} {d : D} (h : (r.bind fun x => match x with | .bl b => R.ok (.bl b) | _ => .stuck) = .ok d) : ∃ b, r = .ok (.bl b) ∧ d = .bl b := by
  obtain ⟨x, h1, h2⟩ := R.bind_inv h
  cases x <;> first | (cases h2; done) | skip
  cases h2
  exact ⟨_, h1, rfl⟩
theorem RepB.bl' {K : PySem.W.Frag} {M H : Hp} {b : Bool} {v : V} (h : Rep K M (.bl b) v) : v = .bl b := by cases h; rfl
theorem sl_cons {a : E} {as : List E} {y : Expr} {ys : List Expr} (ha : SX L n X a y) (hs : SL L n X as ys) (hst : ∀ zs env, starEach (y :: zs) env = (false, eval y env) :: starEach zs env) (hl : as.length = ys.length) : SL L n X (a :: as) (y :: ys) := by
  have A : ∀ m δ b as', evAl L n m (a :: b :: as') δ = (evl L n m a δ).bind fun x => match x with | .bl true => evAl L n m (b :: as') δ | .bl false => .ok (.bl false) | _ => .stuck := fun _ _ _ _ => rfl
  have O : ∀ m δ b as', evOl L n m (a :: b :: as') δ = (evl L n m a δ).bind fun x => match x with | .bl true => .ok (.bl true) | .bl false => evOl L n m (b :: as') δ | _ => .stuck := fun _ _ _ _ => rfl
  refine ⟨(pa_cons ha.v hs.av (hst _ _)).imp fun σ H Q ⟨H0, M, δ, d, o, e, q⟩ => ?_, (pa_cons ha.b hs.ab (hst _ _)).imp fun σ H Q ⟨H0, M, δ, d, o, e, q⟩ => ?_, ?_, ?_, ?_, ?_, ?_, ?_⟩
  · obtain ⟨x, e1, e⟩ := R.bind_inv e
    obtain ⟨xs, e2, e3⟩ := R.bind_inv e
    cases e3
    exact ⟨H0, M, δ, x, o, e1, fun M1 H1 v x1 r1 => ⟨H0, M1, δ, xs, o.up x1, e2, fun M2 H2 vs x2 r2 => q M2 H2 _ (x1.trans x2) (.cons (r1.up x2.m) r2)⟩⟩
  · obtain ⟨x, e1, e⟩ := R.bind_inv e
    obtain ⟨xs, e2, e3⟩ := R.bind_inv e
    cases e3
    exact ⟨H0, M, δ, x, o, e1, fun M1 H1 v x1 r1 => ⟨H0, M1, δ, xs, o.up x1, e2, fun M2 H2 vs x2 r2 => q M2 H2 _ (x1.trans x2) (.cons (r1.up x2) r2)⟩⟩
  · intro pos
    cases as with
    | nil =>
      cases ys with
      | cons _ _ => cases hl
      | nil =>
        refine (pe_one ha.v).imp fun σ H Q ⟨H0, M, δ, d, o, e, q⟩ => ?_
        obtain ⟨b, e1, rfl⟩ := bl_inv e
        exact ⟨H0, M, δ, _, o, e1, q⟩
    | cons b as =>
      cases ys with
      | nil => cases hl
      | cons z zs =>
        refine (pe_and ha.v (hs.andv pos)).imp fun σ H Q ⟨H0, M, δ, d, o, e, q⟩ => ?_
        rw [A] at e
        obtain ⟨x, e1, e2⟩ := R.bind_inv e
        refine ⟨H0, M, δ, x, o, e1, fun M1 H1 v x1 r1 => ?_⟩
        cases x <;> first | (cases e2; done) | skip
        rename_i c
        cases r1
        refine ⟨c, rfl, ?_⟩
        cases c with
        | true => rw [if_pos rfl]; exact ⟨H0, M1, δ, d, o.up x1, e2, fun M2 H2 v x2 r2 => q M2 H2 v (x1.trans x2) r2⟩
        | false => cases e2; rw [if_neg (by decide)]; exact q M1 H1 _ x1 (.bl _)
  · intro pos
    cases as with
    | nil =>
      cases ys with
      | cons _ _ => cases hl
      | nil =>
        refine (pe_one ha.b).imp fun σ H Q ⟨H0, M, δ, d, o, e, q⟩ => ?_
        obtain ⟨b, e1, rfl⟩ := bl_inv e
        exact ⟨H0, M, δ, _, o, e1, q⟩
    | cons b as =>
      cases ys with
      | nil => cases hl
      | cons z zs =>
        refine (pe_and ha.b (hs.andb pos)).imp fun σ H Q ⟨H0, M, δ, d, o, e, q⟩ => ?_
        rw [A] at e
        obtain ⟨x, e1, e2⟩ := R.bind_inv e
        refine ⟨H0, M, δ, x, o, e1, fun M1 H1 v x1 r1 => ?_⟩
        cases x <;> first | (cases e2; done) | skip
        rename_i c
        cases r1.bl
        refine ⟨c, rfl, ?_⟩
        cases c with
        | true => rw [if_pos rfl]; exact ⟨H0, M1, δ, d, o.up x1, e2, fun M2 H2 v x2 r2 => q M2 H2 v (x1.trans x2) r2⟩
        | false => cases e2; rw [if_neg (by decide)]; exact q M1 H1 _ x1 (Rep.bl _).b
  · intro pos
    cases as with
    | nil =>
      cases ys with
      | cons _ _ => cases hl
      | nil =>
        refine (pw_and1 ha.t).imp fun σ H Q ⟨H0, M, δ, d, o, e, q⟩ => ?_
        obtain ⟨b, e1, e2⟩ := bl_inv e
        cases e2
        exact ⟨H0, M, δ, _, o, e1, q⟩
    | cons b as =>
      cases ys with
      | nil => cases hl
      | cons z zs =>
        refine (pw_and ha.t (hs.andt pos)).imp fun σ H Q ⟨H0, M, δ, d, o, e, q⟩ => ?_
        rw [A] at e
        obtain ⟨x, e1, e2⟩ := R.bind_inv e
        cases x <;> first | (cases e2; done) | skip
        rename_i c
        refine ⟨H0, M, δ, c, o, e1, fun M1 H1 x1 => ?_⟩
        cases c with
        | true => rw [if_pos rfl]; exact ⟨H0, M1, δ, d, o.up x1, e2, fun M2 H2 x2 => q M2 H2 (x1.trans x2)⟩
        | false => cases e2; rw [if_neg (by decide)]; exact q M1 H1 x1
  · intro pos
    cases as with
    | nil =>
      cases ys with
      | cons _ _ => cases hl
      | nil =>
        refine (pe_one ha.v).imp fun σ H Q ⟨H0, M, δ, d, o, e, q⟩ => ?_
        obtain ⟨b, e1, rfl⟩ := bl_inv e
        exact ⟨H0, M, δ, _, o, e1, q⟩
    | cons b as =>
      cases ys with
      | nil => cases hl
      | cons z zs =>
        refine (pe_or ha.v (hs.orv pos)).imp fun σ H Q ⟨H0, M, δ, d, o, e, q⟩ => ?_
        rw [O] at e
        obtain ⟨x, e1, e2⟩ := R.bind_inv e
        refine ⟨H0, M, δ, x, o, e1, fun M1 H1 v x1 r1 => ?_⟩
        cases x <;> first | (cases e2; done) | skip
        rename_i c
        cases r1
        refine ⟨c, rfl, ?_⟩
        cases c with
        | false => rw [if_neg (by decide)]; exact ⟨H0, M1, δ, d, o.up x1, e2, fun M2 H2 v x2 r2 => q M2 H2 v (x1.trans x2) r2⟩
        | true => cases e2; rw [if_pos rfl]; exact q M1 H1 _ x1 (.bl _)
  · intro pos
    cases as with
    | nil =>
      cases ys with
      | cons _ _ => cases hl
      | nil =>
        refine (pe_one ha.b).imp fun σ H Q ⟨H0, M, δ, d, o, e, q⟩ => ?_
        obtain ⟨b, e1, rfl⟩ := bl_inv e
        exact ⟨H0, M, δ, _, o, e1, q⟩
    | cons b as =>
      cases ys with
      | nil => cases hl
      | cons z zs =>
        refine (pe_or ha.b (hs.orb pos)).imp fun σ H Q ⟨H0, M, δ, d, o, e, q⟩ => ?_
        rw [O] at e
        obtain ⟨x, e1, e2⟩ := R.bind_inv e
        refine ⟨H0, M, δ, x, o, e1, fun M1 H1 v x1 r1 => ?_⟩
        cases x <;> first | (cases e2; done) | skip
        rename_i c
        cases r1.bl
        refine ⟨c, rfl, ?_⟩
        cases c with
        | false => rw [if_neg (by decide)]; exact ⟨H0, M1, δ, d, o.up x1, e2, fun M2 H2 v x2 r2 => q M2 H2 v (x1.trans x2) r2⟩
        | true => cases e2; rw [if_pos rfl]; exact q M1 H1 _ x1 (Rep.bl _).b
  · intro pos
    cases as with
    | nil =>
      cases ys with
      | cons _ _ => cases hl
      | nil =>
        refine (pw_or1 ha.t).imp fun σ H Q ⟨H0, M, δ, d, o, e, q⟩ => ?_
        obtain ⟨b, e1, e2⟩ := bl_inv e
        cases e2
        exact ⟨H0, M, δ, _, o, e1, q⟩
    | cons b as =>
      cases ys with
      | nil => cases hl
      | cons z zs =>
        refine (pw_or ha.t (hs.ort pos)).imp fun σ H Q ⟨H0, M, δ, d, o, e, q⟩ => ?_
        rw [O] at e
        obtain ⟨x, e1, e2⟩ := R.bind_inv e
        cases x <;> first | (cases e2; done) | skip
        rename_i c
        refine ⟨H0, M, δ, c, o, e1, fun M1 H1 x1 => ?_⟩
        cases c with
        | false => rw [if_neg (by decide)]; exact ⟨H0, M1, δ, d, o.up x1, e2, fun M2 H2 x2 => q M2 H2 (x1.trans x2)⟩
        | true => cases e2; rw [if_pos rfl]; exact q M1 H1 x1
theorem sx_and {as : List E} {xs : List Expr} {pos : Pos} (h : SL L n X as xs) : SX L n X (.and as) (.BoolOp .And xs pos) := ⟨h.andv pos, h.andb pos, (h.andt pos).pt⟩
theorem sx_or {as : List E} {xs : List Expr} {pos : Pos} (h : SL L n X as xs) : SX L n X (.or as) (.BoolOp .Or xs pos) := ⟨h.orv pos, h.orb pos, (h.ort pos).pt⟩
theorem sx_not {a : E} {x : Expr} {pos : Pos} (h : SX L n X a x) : SX L n X (.not a) (.UnaryOp .Not x pos) := by
  have P : PE X (.UnaryOp .Not x pos) (tC X.K (fun δ => (evl L n .bor a δ).bind fun x => (tru x).bind fun b => .ok (.bl (!b)))) := (pe_notT h.b).imp fun σ H Q ⟨H0, M, δ, d, o, e, q⟩ => by
    obtain ⟨x, e1, e2⟩ := R.bind_inv e
    obtain ⟨b, e3, e4⟩ := R.bind_inv e2
    cases e4
    exact ⟨H0, M, δ, x, o, e1, fun M1 H1 v x1 r1 => ⟨b, tru_d e3 r1 x1.mh, q M1 H1 _ x1 (.bl _)⟩⟩
  refine ⟨P, P.imp fun σ H Q ⟨H0, M, δ, d, o, e, q⟩ => ⟨H0, M, δ, d, o, e, fun M' H' v x r => q M' H' v x r.b⟩, (pt_not h.t).imp fun σ H Q ⟨H0, M, δ, d, o, e, q⟩ => ?_⟩
  obtain ⟨x, e1, e2⟩ := R.bind_inv (show ((evl L n .test a δ).bind fun x => match x with | .bl b => R.ok (D.bl (!b)) | _ => R.stuck) = R.ok (D.bl d) from e)
  cases x <;> first | (cases e2; done) | skip
  rename_i b
  cases e2
  exact ⟨H0, M, δ, b, o, e1, fun M1 H1 x1 => q M1 H1 x1⟩
theorem sx_ite {c a b : E} {x y z : Expr} {pos : Pos} (hc : SX L n X c x) (ha : SX L n X a y) (hb : SX L n X b z) : SX L n X (.ite c a b) (.IfExp x y z pos) := by
  refine ⟨(pe_ifExp hc.t ha.v hb.v).imp fun σ H Q ⟨H0, M, δ, d, o, e, q⟩ => ?_, (pe_ifExp hc.t ha.b hb.b).imp fun σ H Q ⟨H0, M, δ, d, o, e, q⟩ => ?_, ⟨fun _ _ _ _ _ _ ⟨_, _, _, _, _, e, _⟩ => by cases e⟩⟩
  · obtain ⟨k, e1, e2⟩ := R.bind_inv e
    cases k <;> first | (cases e2; done) | skip
    rename_i k
    refine ⟨H0, M, δ, k, o, e1, fun M1 H1 x1 => ?_⟩
    cases k with
    | true => rw [if_pos rfl]; exact ⟨H0, M1, δ, d, o.up x1, e2, fun M2 H2 v x2 r2 => q M2 H2 v (x1.trans x2) r2⟩
    | false => rw [if_neg (by decide)]; exact ⟨H0, M1, δ, d, o.up x1, e2, fun M2 H2 v x2 r2 => q M2 H2 v (x1.trans x2) r2⟩
  · obtain ⟨k, e1, e2⟩ := R.bind_inv e
    cases k <;> first | (cases e2; done) | skip
    rename_i k
    refine ⟨H0, M, δ, k, o, e1, fun M1 H1 x1 => ?_⟩
    cases k with
    | true => rw [if_pos rfl]; exact ⟨H0, M1, δ, d, o.up x1, e2, fun M2 H2 v x2 r2 => q M2 H2 v (x1.trans x2) r2⟩
    | false => rw [if_neg (by decide)]; exact ⟨H0, M1, δ, d, o.up x1, e2, fun M2 H2 v x2 r2 => q M2 H2 v (x1.trans x2) r2⟩

/-! ### displays -/
theorem sx_tup {as : List E} {xs : List Expr} {k : Nat} {pos : Pos} (h : SL L n X as xs) : SX L n X (.tup as) (.Tuple xs k pos) := by
  refine SX.plain (co := fun δ => (evsl L n as δ).bind fun xs => req (xs.length ≤ LIM) (.ok (.tup xs))) (fun m δ => ?_) ((pe_tup h.av).imp fun σ H Q ⟨H0, M, δ, d, o, e, q⟩ => ?_) (by intro _; rfl)
  · show ((evsl L n as δ).bind fun xs => req (xs.length ≤ LIM) (post m (.tup xs))) = _
    cases evsl L n as δ with
    | ok xs => show req (xs.length ≤ LIM) (post m (.tup xs)) = (req (xs.length ≤ LIM) (.ok (.tup xs))).bind (post m); unfold req; split <;> rfl
    | _ => rfl
  · obtain ⟨ds, e1, e2⟩ := R.bind_inv e
    obtain ⟨hl, e3⟩ := req_inv e2
    cases e3
    refine ⟨H0, M, δ, ds, o, e1, fun M1 H1 vs x1 r1 => ⟨by rw [← r1.length, ← lim_eq]; exact hl, fun p hp => ?_⟩⟩
    have x2 := Xt.new (o := .tup vs) x1.mh hp
    exact q _ _ _ (x1.trans x2) (.tup (.inl (.inl upd_same)) (r1.up x2.m))
/-- a new list -/
theorem pe_lstL {as : List E} {xs : List Expr} {pos : Pos} (h : SL L n X as xs) : PE X (.List xs pos) (tL X.K (fun δ => (evsl L n as δ).bind fun xs => req (xs.length ≤ LIM) (.ok xs))) :=
  (pe_lst h.av).imp fun σ H Q ⟨H0, M, δ, d, o, e, q⟩ => by
    obtain ⟨ds, e1, e2⟩ := R.bind_inv e
    obtain ⟨hl, e3⟩ := req_inv e2
    cases e3
    refine ⟨H0, M, δ, d, o, e1, fun M1 H1 vs x1 r1 => ⟨by rw [← r1.length, ← lim_eq]; exact hl, fun p hp => ?_⟩⟩
    have x2 := Xt.lay (o := .lst vs) x1.mh hp
    have hp0 : H p = none := Ex.none_of x1.h hp
    exact q M1 _ p vs (x1.trans x2) hp0 (Ex.none_of x1.mh hp) upd_same r1
theorem sx_lst {as : List E} {xs : List Expr} {pos : Pos} (h : SL L n X as xs) : SX L n X (.lst as) (.List xs pos) := by
  refine SX.plain (co := fun δ => ((evsl L n as δ).bind fun xs => req (xs.length ≤ LIM) (.ok xs)).bind fun xs => .ok (.lst xs)) (fun m δ => ?_) ((pe_lstL h).imp fun σ H Q q => tL.told q) (by intro _; rfl)
  show ((evsl L n as δ).bind fun xs => req (xs.length ≤ LIM) (post m (.lst xs))) = _
  cases evsl L n as δ with
  | ok xs => show req (xs.length ≤ LIM) (post m (.lst xs)) = ((req (xs.length ≤ LIM) (.ok xs)).bind fun xs => R.ok (D.lst xs)).bind (post m); unfold req; split <;> rfl
  | _ => rfl
theorem sx_dnew {pos : Pos} : SX L n X .dnew (.Dict [] [] pos) := by
  have P : PE X (.Dict [] [] pos) (tC X.K (fun _ => .ok (.dct [] []))) := pe_dnewK.imp fun σ H Q ⟨H0, M, δ, d, o, e, q⟩ => by
    cases e
    intro p hp
    have x2 := Xt.new (o := .dK []) o.ex hp
    exact q _ _ _ x2 (.dct upd_same rfl .nil)
  exact ⟨P, P.imp fun σ H Q ⟨H0, M, δ, d, o, e, q⟩ => ⟨H0, M, δ, d, o, e, fun M' H' v x r => q M' H' v x r.b⟩, ⟨fun _ _ _ _ _ _ ⟨_, _, _, _, _, e, _⟩ => by cases e⟩⟩

/-! ### calls of the text's defs -/
def tR (K : PySem.W.Frag) (co : En → R (D × Bool)) : TE := fun σ H Q => ∃ H0 M δ r, OKs K H0 M H σ δ ∧ co δ = .ok r ∧ ∀ M' H' v, Xt M H M' H' → RepF K H M' H' r v → Q v H'
theorem pe_callR (g : Good L n N sc X) {f : Nat} {as : List E} {y : Str} {xs : List Expr} {p pos : Pos} (h0 : L.nm.hot = false) (h1 : L.nm.FN[f]? = some y) (h2 : glB sc y = true) (hs : SL L n X as xs) (hm : mEs L.nm N sc as xs = true) :
    PE X (.Call (.Name y p) xs [] pos) (tR X.K (fun δ => (evsl L n as δ).bind fun xs => run L.Γ L.G n f xs)) := by
  obtain ⟨v1, v2⟩ := glB_ok h2
  obtain ⟨fa, fd, ps, c1, c2, c3, c4⟩ := g.fs.calls f y h1
  have key : ∀ (σ : L2.St) (H : Hp) (Q : VK), tR X.K (fun δ => (evsl L n as δ).bind fun xs => run L.Γ L.G n f xs) σ H Q → tCall (spX X.K L (cvOf X.mg L.nm) n f) [] E0 (tAv X.K (evsl L n as)) σ H Q := by
    intro σ H Q ⟨H0, M, δ, r, o, e, q⟩
    obtain ⟨ds, e1, e2⟩ := R.bind_inv e
    refine ⟨H0, M, δ, ds, o, e1, fun M1 H1 vs x1 r1 => ?_⟩
    show spX X.K L (cvOf X.mg L.nm) n f (vs ++ []) H1 Q E0
    rw [List.append_nil]
    refine ⟨M1, ds, x1.mh, r1, .inl ⟨r, e2, fun M2 H2 v x2 r2 => q M2 H2 v (x1.trans x2) ?_⟩⟩
    obtain ⟨d, b⟩ := r
    cases b with
    | false => exact r2
    | true =>
      obtain ⟨a, us, zs, q1, q2, q3, q4, q5, q6⟩ := r2
      exact ⟨a, us, zs, q1, q2, Ex.none_of x1.h q3, q4, q5, q6⟩
  have px : Passes (L2N.CX X.prog X.w) X E0 := fun _ _ _ _ _ _ _ h => by
    obtain ⟨_, _, _, _, _, _, _, _, _, _, _, _, z⟩ := h
    exact z.elim
  cases xs with
  | nil =>
    have ea : as = [] := by
      cases as with
      | nil => rfl
      | cons a as => obtain ⟨_, _, z, _⟩ := mEs_cons hm; cases z
    subst ea
    refine (pe_call0 c4 (g.room h0) (g.gl v1) c1 c2 c3 .nil px v2).imp fun σ H Q q => ?_
    obtain ⟨H0, M, δ, ds, o, e, q⟩ := key σ H Q q
    cases e
    exact q M H [] (Xt.refl o.ex) .nil
  | cons x xs =>
    cases as with
    | nil => have := mEs_nil hm; cases this
    | cons a as =>
      obtain ⟨y', ys', e, hm1, hm2⟩ := mEs_cons hm
      cases e
      exact (pe_call c4 (g.room h0) (g.gl v1) c1 c2 c3 .nil px hs.av v2 (star_ns (mE_ns hm1) _ _) (stars_ok _ _ hm2)).imp key
theorem tR.told {K : PySem.W.Frag} {co : En → R (D × Bool)} {σ : L2.St} {H : Hp} {Q : VK} (h : tC K (fun δ => (co δ).bind fun r => .ok r.1) σ H Q) : tR K co σ H Q := by
  obtain ⟨H0, M, δ, d, o, e, q⟩ := h
  obtain ⟨r, h1, h2⟩ := R.bind_inv e
  cases h2
  refine ⟨H0, M, δ, r, o, h1, fun M' H' v x f => ?_⟩
  obtain ⟨M2, x2, r2⟩ := f.told x
  exact q M2 H' v x2 r2
theorem sx_call (g : Good L n N sc X) {f : Nat} {as : List E} {y : Str} {xs : List Expr} {p pos : Pos} (h0 : L.nm.hot = false) (h1 : L.nm.FN[f]? = some y) (h2 : glB sc y = true) (hs : SL L n X as xs) (hm : mEs L.nm N sc as xs = true) :
    SX L n X (.call f as) (.Call (.Name y p) xs [] pos) := by
  refine SX.plain (co := fun δ => ((evsl L n as δ).bind fun xs => run L.Γ L.G n f xs).bind fun r => .ok r.1) (fun m δ => ?_) ((pe_callR g h0 h1 h2 hs hm).imp fun σ H Q q => tR.told q) (by intro _; rfl)
  show ((evsl L n as δ).bind fun xs => (run L.Γ L.G n f xs).bind fun r => post m r.1) = _
  cases evsl L n as δ with
  | ok xs =>
    show ((run L.Γ L.G n f xs).bind fun r => post m r.1) = ((run L.Γ L.G n f xs).bind fun r => R.ok r.1).bind (post m)
    cases run L.Γ L.G n f xs <;> rfl
  | _ => rfl

/-! ### built-ins -/
theorem sx_blt (g : Good L n N sc X) {f : Blt} {as : List E} {y : Str} {xs : List Expr} {p pos : Pos} (h0 : hotN f = true → L.nm.hot = false) (hf : ∀ t, f ≠ .isi t) (h2 : bnB L.nm sc y (bltN f) = true) (hs : SL L n X as xs) (hm : mEs L.nm N sc as xs = true) :
    SX L n X (.blt f as) (.Call (.Name y p) xs [] pos) := by
  obtain ⟨rfl, v1, v2, v3, v4⟩ := bnB_ok h2
  have key : ∀ (σ : L2.St) (H : Hp) (Q : VK), tC X.K (fun δ => (evbl L n as δ).bind fun xs => bltD f xs) σ H Q → tCB (rBs X.K (bltD f)) (tAb X.K (evbl L n as)) σ H Q := by
    intro σ H Q ⟨H0, M, δ, d, o, e, q⟩
    obtain ⟨ds, e1, e2⟩ := R.bind_inv e
    exact ⟨H0, M, δ, ds, o, e1, fun M1 H1 vs x1 r1 => ⟨M1, ds, d, x1.mh, r1, e2, fun M2 H2 z x2 r2 => q M2 H2 z (x1.trans x2) r2⟩⟩
  have P : PE X (.Call (.Name (bltN f) p) xs [] pos) (tC X.K (fun δ => (evbl L n as δ).bind fun xs => bltD f xs)) := by
    cases xs with
    | nil =>
      have ea : as = [] := by
        cases as with
        | nil => rfl
        | cons a as => obtain ⟨_, _, z, _⟩ := mEs_cons hm; cases z
      subst ea
      exact ⟨fun _ _ _ _ _ _ ⟨_, _, _, _, _, e, _⟩ => by cases f <;> cases e⟩
    | cons x xs =>
      cases as with
      | nil => have := mEs_nil hm; cases this
      | cons a as =>
        obtain ⟨y', ys', e, hm1, hm2⟩ := mEs_cons hm
        cases e
        have C := dblt f (fun z => g.calm (h0 z)) hf
        have B := blt_boot f
        rcases blt_kind f with ⟨id, hk⟩ | ⟨T, hk⟩
        · rw [hk] at C B
          exact (pe_callB C (g.gl v1) (g.fs.blts _ v3) B hs.ab v4 v2 (star_ns (mE_ns hm1) _ _) (stars_ok _ _ hm2)).imp key
        · rw [hk] at C B
          exact (pe_callTy C (g.gl v1) (g.fs.blts _ v3) B hs.ab v4 v2 (star_ns (mE_ns hm1) _ _) (stars_ok _ _ hm2)).imp key
  refine SX.plain (co := fun δ => (evbl L n as δ).bind fun xs => bltD f xs) (fun m δ => ?_) P (by intro _; rfl)
  show ((evbl L n as δ).bind fun xs => (bltD f xs).bind (post m)) = _
  cases evbl L n as δ <;> rfl
def tyVal : Ty → Value := fun t => .type (tyT t)
theorem ty_boot (t : Ty) : bootBuiltins (tyN t) = some (tyVal t) := by cases t <;> simp only [tyN, tyVal, tyT] <;> decide +kernel
theorem sx_isi (g : Good L n N sc X) {t : Ty} {a : E} {y : Str} {x b : Expr} {p pos : Pos} (h2 : bnB L.nm sc y "isinstance" = true) (h3 : tyArg L.nm sc t b = true) (ha : SX L n X a x) (hn : notStar x = true) :
    SX L n X (.blt (.isi t) [a]) (.Call (.Name y p) [x, b] [] pos) := by
  obtain ⟨rfl, v1, v2, v3, v4⟩ := bnB_ok h2
  cases b <;> first | (cases h3; done) | skip
  rename_i z pz
  obtain ⟨rfl, w1, w2, w3, w4⟩ := bnB_ok (show bnB L.nm sc z (tyN t) = true from h3)
  have T : PE X (.Name (tyN t) pz) (L2.tC (.ty (tyT t))) := pe_bltn (g.gl w1) (g.fs.blts _ w3) (ty_boot t) rfl w4 w2
  have A : PA X [x, .Name (tyN t) pz] (tCons (tU X.K (evl L n .bor a)) (tCons (L2.tC (.ty (tyT t))) tNil)) := pa_cons ha.b (pa_cons T pa_nil) (star_ns hn _ _)
  have P : PE X (.Call (.Name "isinstance" p) [x, .Name (tyN t) pz] [] pos) (tC X.K (fun δ => (evl L n .bor a δ).bind fun d => (isTy t d).bind fun b => .ok (.bl b))) :=
    (pe_callB call_isi (g.gl v1) (g.fs.blts _ v3) PyProof.Rows.boot_isinstance A v4 v2 (star_ns hn _ _) rfl).imp fun σ H Q ⟨H0, M, δ, d, o, e, q⟩ => by
      obtain ⟨d1, e1, e2⟩ := R.bind_inv e
      obtain ⟨b, e3, e4⟩ := R.bind_inv e2
      cases e4
      exact ⟨H0, M, δ, d1, o, e1, fun M1 H1 v x1 r1 => ⟨v, .ty (tyT t), _, _, b, rfl, .ty _, r1.ty x1.mh, kit_ty (kit_d e3), q M1 H1 _ x1 (.bl b)⟩⟩
  refine SX.plain (co := fun δ => (evl L n .bor a δ).bind fun d => (isTy t d).bind fun b => .ok (.bl b)) (fun m δ => ?_) P (by intro _; rfl)
  show ((((evl L n .bor a δ).bind fun x => (R.ok []).bind fun xs => R.ok (x :: xs)) : R (List D)).bind fun xs => (bltD (.isi t) xs).bind (post m)) = _
  cases evl L n .bor a δ <;> rfl

/-! ### subscripts, slices -/
theorem plainIx {L' : Nm} {N' : List Str} {sc' : Scope} {i : E} {y : Expr} (h : mE L' N' sc' i y = true) : PlainIx y := by
  intro o u
  cases y with
  | Slice a b c p =>
    cases i with
    | blt f as => cases f <;> simp [mE] at h
    | _ => simp [mE] at h
  | _ => rfl
theorem sx_ix {a i : E} {x y : Expr} {pos : Pos} (ha : SX L n X a x) (hi : SX L n X i y) (hp : PlainIx y) : SX L n X (.ix a i) (.Subscript x y pos) := by
  refine SX.plain (co := fun δ => (evl L n .bor a δ).bind fun x => (evl L n .val i δ).bind fun y => ixD x y) (fun m δ => ?_) ((pe_ix dix ha.b hi.v hp).imp fun σ H Q ⟨H0, M, δ, d, o, e, q⟩ => ?_) (by intro _; rfl)
  · show ((evl L n .bor a δ).bind fun x => (evl L n .val i δ).bind fun y => (ixD x y).bind (post m)) = _
    cases evl L n .bor a δ with
    | ok x => cases evl L n .val i δ <;> rfl
    | _ => rfl
  · obtain ⟨x, e1, e⟩ := R.bind_inv e
    obtain ⟨y, e2, e3⟩ := R.bind_inv e
    exact ⟨H0, M, δ, x, o, e1, fun M1 H1 v x1 r1 => ⟨H0, M1, δ, y, o.up x1, e2, fun M2 H2 u x2 r2 => ⟨M2, x, y, d, x2.mh, r1.up x2, r2.b, e3, fun M3 H3 z x3 r3 => q M3 H3 z ((x1.trans x2).trans x3) r3⟩⟩⟩
abbrev evPl (L : Lw) (n : Nat) : E → En → R (Option Int) := evP (run L.Γ L.G n) L.G
theorem po_nop : PO X none (tP X.K (evPl L n .nop)) := po_none.imp fun σ H Q ⟨H0, M, δ, o, ok, e, q⟩ => by cases e; exact q M H (Xt.refl ok.ex)
theorem po_e {e : E} {x : Expr} (h : SX L n X e x) (he : e ≠ .nop) : PO X (some x) (tP X.K (evPl L n e)) := (po_some h.v).imp fun σ H Q ⟨H0, M, δ, o, ok, e1, q⟩ => by
  have e1 : (evl L n .val e δ).bind partD = .ok o := by
    cases e <;> first | exact e1 | exact absurd rfl he
  obtain ⟨d, h1, h2⟩ := R.bind_inv e1
  refine ⟨H0, M, δ, d, ok, h1, fun M1 H1 v x1 r1 => ?_⟩
  cases d <;> first | (cases h2; done) | skip
  cases h2; cases r1
  exact ⟨_, rfl, q M1 H1 x1⟩
theorem sx_sl {a lo hi : E} {x : Expr} {l h : Option Expr} {p pos : Pos} (ha : SX L n X a x) (hl : PO X l (tP X.K (evPl L n lo))) (hh : PO X h (tP X.K (evPl L n hi))) : SX L n X (.sl a lo hi) (.Subscript x (.Slice l h none p) pos) := by
  refine SX.plain (co := fun δ => (evl L n .bor a δ).bind fun x => (evPl L n lo δ).bind fun l => (evPl L n hi δ).bind fun h => slD x l h) (fun m δ => ?_) ((pe_slice dsl ha.b hl hh).imp fun σ H Q ⟨H0, M, δ, d, o, e, q⟩ => ?_) (by intro _; rfl)
  · have e : evl L n m (.sl a lo hi) δ = (evl L n .bor a δ).bind fun x => (evPl L n lo δ).bind fun l => (evPl L n hi δ).bind fun h => (slD x l h).bind (post m) := by
      cases lo <;> cases hi <;> rfl
    rw [e]
    cases evl L n .bor a δ with
    | ok x =>
      show ((evPl L n lo δ).bind fun l => (evPl L n hi δ).bind fun h => (slD x l h).bind (post m)) = ((evPl L n lo δ).bind fun l => (evPl L n hi δ).bind fun h => slD x l h).bind (post m)
      cases evPl L n lo δ with
      | ok l => cases evPl L n hi δ <;> rfl
      | _ => rfl
    | _ => rfl
  · obtain ⟨x, e1, e⟩ := R.bind_inv e
    obtain ⟨l, e2, e⟩ := R.bind_inv e
    obtain ⟨h, e3, e4⟩ := R.bind_inv e
    exact ⟨H0, M, δ, x, o, e1, fun M1 H1 v x1 r1 => ⟨H0, M1, δ, l, o.up x1, e2, fun M2 H2 x2 => ⟨H0, M2, δ, h, (o.up x1).up x2, e3, fun M3 H3 x3 => ⟨M3, x, d, x3.mh, (r1.up x2).up x3, e4, fun M4 H4 z x4 r4 => q M4 H4 z (((x1.trans x2).trans x3).trans x4) r4⟩⟩⟩⟩

/-! ### methods -/
theorem noSuper {o : Expr} {nm : Str} {env : Env} {w : Sem Value} (h : notCall o = true) : attributeBase o nm env w = w := by
  cases o <;> first | rfl | cases h
structure MtOk (X : Cx) (m : Mth) (T id : String) : Prop where
  pa : PlainAttrs T
  slot : Slot T (mthN m) id
  ty : typeOf (.builtin id) = pure (.type "method_descriptor")
  rule : MtR X id (rMt X.K (mthD m))
  tyv : ∀ M H x ds d v, mthD m x ds = .ok d → Ex M H → RepB X.K M H x v → tyV X.K T v H
theorem mt_all (m : Mth) : (∃ T id, MtOk X m T id) ∨ ∀ x ds d, mthD m x ds ≠ .ok d := by
  cases m with
  | join =>
    refine .inl ⟨"str", "str.join", F.plainAttrs_str, F.slot_str_join, F.type_str_join, dm_join, fun M H x ds d v h e r => ?_⟩
    cases x <;> first | (cases h; done) | skip
    obtain ⟨rfl, _⟩ := r.str
    rfl
  | find =>
    refine .inl ⟨"str", "str.find", F.plainAttrs_str, F.slot_str_find, F.type_str_find, dm_find, fun M H x ds d v h e r => ?_⟩
    cases x <;> first | (cases h; done) | skip
    obtain ⟨rfl, _⟩ := r.str
    rfl
  | count =>
    refine .inl ⟨"str", "str.count", F.plainAttrs_str, F.slot_str_count, F.type_str_count, dm_count, fun M H x ds d v h e r => ?_⟩
    cases x <;> first | (cases h; done) | skip
    obtain ⟨rfl, _⟩ := r.str
    rfl
  | index =>
    refine .inl ⟨"str", "str.index", F.plainAttrs_str, F.slot_str_index, F.type_str_index, dm_index, fun M H x ds d v h e r => ?_⟩
    cases x <;> first | (cases h; done) | skip
    obtain ⟨rfl, _⟩ := r.str
    rfl
  | part =>
    refine .inl ⟨"str", "str.partition", F.plainAttrs_str, F.slot_str_partition, F.type_str_partition, dm_part, fun M H x ds d v h e r => ?_⟩
    cases x <;> first | (cases h; done) | skip
    obtain ⟨rfl, _⟩ := r.str
    rfl
  | split =>
    refine .inl ⟨"str", "str.split", F.plainAttrs_str, F.slot_str_split, F.type_str_split, dm_split, fun M H x ds d v h e r => ?_⟩
    cases x <;> first | (cases h; done) | skip
    obtain ⟨rfl, _⟩ := r.str
    rfl
  | lcount =>
    refine .inl ⟨"list", "list.count", PySem.F.plainAttrs_list, PySem.F.slot_list_count, PySem.F.type_list_count, dm_lcount, fun M H x ds d v h e r => ?_⟩
    cases x <;> first | (cases h; done) | skip
    obtain ⟨p, vs, rfl, hs, _⟩ := r.lst e
    exact .inl ⟨rfl, vs, hs⟩
  | _ => exact .inr fun x ds d h => by cases h
theorem sx_mth (g : Good L n N sc X) {m : Mth} {o : E} {as : List E} {y : Expr} {xs : List Expr} {p pos : Pos} (h2 : (p.endLine == pos.line) = true) (h3 : xs.length < 25) (h4 : notCall y = true) (ho : SX L n X o y) (hs : SL L n X as xs) (hm : mEs L.nm N sc as xs = true) :
    SX L n X (.mth m o as) (.Call (.Attribute y (mthN m) p) xs [] pos) := by
  have P : PE X (.Call (.Attribute y (mthN m) p) xs [] pos) (tC X.K (fun δ => (evl L n .bor o δ).bind fun x => (evbl L n as δ).bind fun xs => mthD m x xs)) := by
    rcases mt_all (X := X) m with ⟨T, id, k⟩ | k
    · cases xs with
      | nil =>
        have ea : as = [] := by
          cases as with
          | nil => rfl
          | cons a as => obtain ⟨_, _, z, _⟩ := mEs_cons hm; cases z
        subst ea
        refine (pe_bm0 k.pa k.slot k.ty k.rule ho.b (noSuper h4) h2).imp fun σ H Q ⟨H0, M, δ, d, o, e, q⟩ => ?_
        obtain ⟨x, e1, e2⟩ := R.bind_inv e
        obtain ⟨ds, e3, e4⟩ := R.bind_inv e2
        cases e3
        exact ⟨H0, M, δ, x, o, e1, fun M1 H1 v x1 r1 => ⟨k.tyv M1 H1 x [] d v e4 x1.mh r1, M1, x, [], d, x1.mh, r1, .nil, e4, fun M2 H2 z x2 r2 => q M2 H2 z (x1.trans x2) r2⟩⟩
      | cons x xs =>
        cases as with
        | nil => have := mEs_nil hm; cases this
        | cons a as =>
          obtain ⟨y', ys', e, hm1, hm2⟩ := mEs_cons hm
          cases e
          have few : ((backTo pos (starEach (x :: xs) X.env)).all (fun x => !x.1) && (backToKw pos (keywordEach [] X.env)).all (fun x => x.1.isSome) && decide ((x :: xs).length + ([] : List Keyword).length + (if ([] : List Keyword).isEmpty then 0 else 1) < 30)) = true := by
            rw [stars_all pos X.env hm]
            show (true && true && decide ((x :: xs).length + 0 + 0 < 30)) = true
            rw [decide_eq_true (by omega)]
            rfl
          refine (pe_bm k.pa k.slot k.ty k.rule ho.b hs.ab (noSuper h4) few h2 (star_ns (mE_ns hm1) _ _) (stars_ok _ _ hm2)).imp fun σ H Q ⟨H0, M, δ, d, o, e, q⟩ => ?_
          obtain ⟨w, e1, e2⟩ := R.bind_inv e
          obtain ⟨ds, e3, e4⟩ := R.bind_inv e2
          exact ⟨H0, M, δ, w, o, e1, fun M1 H1 v x1 r1 => ⟨k.tyv M1 H1 w ds d v e4 x1.mh r1, H0, M1, δ, ds, o.up x1, e3, fun M2 H2 vs x2 r2 => ⟨M2, w, ds, d, x2.mh, r1.up x2, r2, e4, fun M3 H3 z x3 r3 => q M3 H3 z ((x1.trans x2).trans x3) r3⟩⟩⟩
    · exact ⟨fun _ _ _ _ _ _ ⟨_, _, _, _, _, e, _⟩ => by
        obtain ⟨_, _, e⟩ := R.bind_inv e
        obtain ⟨_, _, e⟩ := R.bind_inv e
        exact absurd e (k _ _ _)⟩
  refine SX.plain (co := fun δ => (evl L n .bor o δ).bind fun x => (evbl L n as δ).bind fun xs => mthD m x xs) (fun m' δ => ?_) P (by intro _; rfl)
  show ((evl L n .bor o δ).bind fun x => (evbl L n as δ).bind fun xs => (mthD m x xs).bind (post m')) = _
  cases evl L n .bor o δ with
  | ok x => cases evbl L n as δ <;> rfl
  | _ => rfl
end
end Fw

/-! sorted by the keys that a def of the text gives -/
namespace Fw
open PySem PySem.Spec PyProof.Rows L2
open Evl (Ex ex_rd ex_l ex_t)
section
variable {X : Cx} {pins : List (Addr × Obj)} {σ : L2.St} {H : Hp} {s s' : Shared}
/-- an object of ours, that was not there at first -/
def Own1 (X : Cx) (pins : List (Addr × Obj)) (b : Addr) : Prop := (b ∈ X.ex ∨ X.s_0.heap.objs.size ≤ b) ∧ b ≠ X.env.locals ∧ (∀ x c, X.env.cells.lookup x = some c → c ≠ b) ∧ ∀ p ∈ X.pn ++ pins, p.1 ≠ b
theorem own_new (I : Inv X pins σ H s) {b : Addr} (h : s.heap.objs.size ≤ b) : Own1 X pins b := by
  refine ⟨.inr (Nat.le_trans I.sz h), fun e => ?_, fun x c e z => ?_, fun p hp z => ?_⟩
  · have := I.lt
    rw [← e] at this
    exact absurd (Nat.lt_of_lt_of_le this h) (Nat.lt_irrefl _)
  · obtain ⟨v, o, ho, _⟩ := I.cell x c e
    have := Heap.lt_size ho
    rw [z] at this
    exact absurd (Nat.lt_of_lt_of_le this h) (Nat.lt_irrefl _)
  · obtain ⟨e, _⟩ := I.pin p hp
    have := Heap.lt_size e
    rw [z] at this
    exact absurd (Nat.lt_of_lt_of_le this h) (Nat.lt_irrefl _)
/-- objects of ours that are not tracked have changed -/
theorem inv_turns (I : Inv X pins σ H s) {ch : List Addr} (ho : s'.os = s.os) (hg : AllBare s'.gens) (k : ∀ b o, b ∉ ch → s.heap.get? b = some o → s'.heap.get? b = some o) (hn : ∀ b ∈ ch, H b = none) (hc : ∀ b ∈ ch, Own1 X pins b) : Inv X pins σ H s' := by
  have nc : ∀ b u, H b = some u → b ∉ ch := fun b u e z => by rw [hn b z] at e; cases e
  refine I.call' ho (ch := ch) ⟨fun b o e _ _ hx => k b o hx e, fun b o e _ _ hx => ⟨o.slots, k b o hx e⟩, fun b o e n _ => n, fun b o e hx => ⟨o, k b o hx e⟩, fun _ _ e => e, fun _ _ _ e => e, fun b ps e => ⟨#[], by rw [e]; simp⟩⟩ ?_ hg hc
  intro b u e
  refine (I.hok b u e).stay (fun c v hc q => k c v ?_ q) (fun _ q => q) fun _ _ q => q
  rcases hc with z | z
  · rw [z]; exact nc b u e
  · exact nc c _ z
/-- an object of ours is tracked from here on -/
theorem inv_track (I : Inv X pins σ H s) {a : Addr} {o : HO} (hn : H a = none) (hc : Own1 X pins a) (new : ObjOk X.prog X.w (upd H a o) s.heap a o) : Inv X pins σ (upd H a o) s := by
  have na : ∀ b u, H b = some u → b ≠ a := fun b u e z => by rw [z, hn] at e; cases e
  refine I.call' rfl (ch := [a]) ⟨fun b o e _ _ _ => e, fun b o e _ _ _ => ⟨o.slots, e⟩, fun b o e n hx => by rw [upd_ne (fun z => hx (by simp [z]))]; exact n, fun b o e _ => ⟨o, e⟩, fun b _ e => by rw [upd_ne (na b _ e)]; exact e, fun b _ _ e => by rw [upd_ne (na b _ e)]; exact e, fun b ps e => ⟨#[], by rw [upd_ne (na b _ e), e]; simp⟩⟩ (fun b u e => ?_) I.bare (fun b hb => by rw [List.mem_singleton.mp hb]; exact hc)
  by_cases hb : b = a
  · subst hb; rw [upd_same] at e; cases e; exact new
  · rw [upd_ne hb] at e
    exact (I.hok b u e).stay (fun _ _ _ q => q) (fun c q => by rw [upd_ne (na c _ q)]; exact q) fun c _ q => by rw [upd_ne (na c _ q)]; exact q
theorem own_nofr (I : Inv X pins σ H s) {b : Addr} (h : s.heap.objs.size ≤ b) : b ∉ frs X.stack := fun z => by
  rcases List.mem_cons.mp (I.stkSub b z) with e | e
  · exact (own_new I h).2.1 e
  · exact I.nofs h e
end

/-! keys -/
section
variable {K : PySem.W.Frag} {M H : Hp}
theorem item_reads {h : Heap} {d : D} {k : PyData} {v : V} {u : Value} (e : pdOf d = some k) (r : Rep K M d v) (ru : RelV v u) : Reads h u k [] := by
  cases d <;> first | (cases e; done) | skip
  · cases e; cases r
    obtain ⟨t, rfl⟩ := ru
    exact .int _ _
  · cases e; cases r
    obtain ⟨t, rfl⟩ := ru
    exact .str _ _
theorem items_reads {h : Heap} : ∀ {ds : List D} {ks : List PyData} {vs : List V} {us : List Value}, pdsOf ds = some ks → Reps K M ds vs → Vals vs us → ReadsAll h us ks []
  | [], _, _, _, e, r, ru => by cases e; cases r; cases ru; exact .nil
  | d :: ds, _, _, _, e, r, ru => by
    cases r with
    | cons r1 r2 =>
      cases ru with
      | cons u1 u2 =>
        unfold pdsOf at e
        cases e1 : pdOf d with
        | none => rw [e1] at e; cases e
        | some k =>
          rw [e1] at e
          cases e2 : pdsOf ds with
          | none => rw [e2] at e; cases e
          | some ks =>
            rw [e2] at e
            cases e
            exact .cons (as := []) (bs := []) (item_reads e1 r1 u1) (items_reads e2 r2 u2)
end
section
variable {X : Cx} {pins : List (Addr × Obj)} {σ : L2.St} {M H : Hp} {s : Shared}
theorem key_reads (I : Inv X pins σ H s) (x : Ex M H) {d : D} {k : PyData} {v : V} {u : Value} (e : keyOf d = some k) (r : Rep X.K M d v) (ru : RelV v u) : Reads s.heap u k [] := by
  cases d <;> first | (cases e; done) | skip
  rename_i ds
  cases r with
  | tup h1 h2 =>
    obtain ⟨its, rv, ⟨o, ho, hc, n, hd⟩, _⟩ := I.tuple (ex_t x h1)
    have hu : u = Value.ref _ := ru
    subst hu
    cases ds with
    | nil => cases e
    | cons d ds =>
      have e : (match pdsOf (d :: ds) with | some ks => some (PyData.tuple ks) | none => none) = some k := e
      cases e2 : pdsOf (d :: ds) with
      | none => rw [e2] at e; cases e
      | some ks =>
        rw [e2] at e
        cases e
        exact .tuple ho hc hd (items_reads e2 h2 rv)
theorem key_tup {d : D} {k : PyData} (e : keyOf d = some k) : ∃ x r, k = .tuple (x :: r) ∧ k.depth ≤ 1 := by
  cases d <;> first | (cases e; done) | skip
  rename_i ds
  cases ds with
  | nil => cases e
  | cons d ds =>
    have e : (match (match pdOf d with | some k => (match pdsOf ds with | some ks => some (k :: ks) | none => none) | none => none) with | some ks => some (PyData.tuple ks) | none => none) = some k := e
    cases e1 : pdOf d with
    | none => rw [e1] at e; cases e
    | some k =>
      rw [e1] at e
      cases e2 : pdsOf ds with
      | none => rw [e2] at e; cases e
      | some ks =>
        rw [e2] at e
        cases e
        refine ⟨_, _, rfl, ?_⟩
        have d0 : ∀ (d : D) (k : PyData), pdOf d = some k → k.depth = 0 := fun d k e => by
          cases d <;> first | (cases e; done) | skip
          · cases e; rfl
          · cases e; rfl
        have da : ∀ (ds : List D) (ks : List PyData), pdsOf ds = some ks → PyData.depthAll ks = 0 := by
          intro ds
          induction ds with
          | nil => intro ks e; cases e; rfl
          | cons d ds ih =>
            intro ks e
            unfold pdsOf at e
            cases e1 : pdOf d with
            | none => rw [e1] at e; cases e
            | some k =>
              rw [e1] at e
              cases e2 : pdsOf ds with
              | none => rw [e2] at e; cases e
              | some ks =>
                rw [e2] at e
                cases e
                simp [PyData.depthAll, d0 _ _ e1, ih _ e2]
        simp [PyData.depth, PyData.depthAll, d0 _ _ e1, da _ _ e2]
theorem keys_len : ∀ {ds : List D} {ks : List PyData}, keysD ds = some ks → ks.length = ds.length
  | [], _, e => by cases e; rfl
  | d :: ds, _, e => by
    unfold keysD at e
    cases e1 : keyOf d with
    | none => rw [e1] at e; cases e
    | some k =>
      rw [e1] at e
      cases e2 : keysD ds with
      | none => rw [e2] at e; cases e
      | some ks => rw [e2] at e; cases e; simp [keys_len e2]
theorem keys_mem : ∀ {ds : List D} {ks : List PyData}, keysD ds = some ks → ∀ k ∈ ks, ∃ d, keyOf d = some k
  | [], _, e => by cases e; simp
  | d :: ds, _, e => by
    unfold keysD at e
    cases e1 : keyOf d with
    | none => rw [e1] at e; cases e
    | some k =>
      rw [e1] at e
      cases e2 : keysD ds with
      | none => rw [e2] at e; cases e
      | some ks =>
        rw [e2] at e; cases e
        intro k' hk
        rcases List.mem_cons.mp hk with rfl | hk
        · exact ⟨_, e1⟩
        · exact keys_mem e2 k' hk
theorem keys_reads (I : Inv X pins σ H s) (x : Ex M H) : ∀ {ds : List D} {ks : List PyData} {vs : List V} {us : List Value}, keysD ds = some ks → Reps X.K M ds vs → Vals vs us → PySem.W.EachIs (fun v k => ∃ as, Reads s.heap v k as) us ks
  | [], _, _, _, e, r, ru => by cases e; cases r; cases ru; exact .nil
  | d :: ds, _, _, _, e, r, ru => by
    cases r with
    | cons r1 r2 =>
      cases ru with
      | cons u1 u2 =>
        unfold keysD at e
        cases e1 : keyOf d with
        | none => rw [e1] at e; cases e
        | some k =>
          rw [e1] at e
          cases e2 : keysD ds with
          | none => rw [e2] at e; cases e
          | some ks =>
            rw [e2] at e
            cases e
            exact .cons ⟨[], key_reads I x e1 r1 u1⟩ (keys_reads I x e2 r2 u2)
/-- the items beside their keys -/
theorem each_zip {K : PySem.W.Frag} {M : Hp} : ∀ {ks : List PyData} {ds : List D} {vs : List V} {us : List Value}, ks.length = ds.length → Reps K M ds vs → Vals vs us → PySem.W.EachIs (fun u (b : PyData × D) => ∃ v, RelV v u ∧ Rep K M b.2 v) us (ks.zip ds)
  | [], [], _, _, _, r, ru => by cases r; cases ru; exact .nil
  | [], _ :: _, _, _, e, _, _ => by cases e
  | _ :: _, [], _, _, e, _, _ => by cases e
  | k :: ks, d :: ds, _, _, e, r, ru => by
    cases r with
    | cons r1 r2 =>
      cases ru with
      | cons u1 u2 => exact .cons ⟨_, u1, r1⟩ (each_zip (by simpa using e) r2 u2)
theorem each_back {K : PySem.W.Frag} {M : Hp} : ∀ {us : List Value} {bs : List (PyData × D)}, PySem.W.EachIs (fun u (b : PyData × D) => ∃ v, RelV v u ∧ Rep K M b.2 v) us bs → ∃ vs, Vals vs us ∧ Reps K M (bs.map Prod.snd) vs
  | _, _, .nil => ⟨[], .nil, .nil⟩
  | _, _, .cons ⟨v, r1, r2⟩ t => by
    obtain ⟨vs, h1, h2⟩ := each_back t
    exact ⟨v :: vs, .cons r1 h1, .cons r2 h2⟩
theorem zip_fst : ∀ {ks : List PyData} {ds : List D}, ks.length = ds.length → (ks.zip ds).map Prod.fst = ks
  | [], [], _ => rfl
  | [], _ :: _, e => by cases e
  | _ :: _, [], e => by cases e
  | k :: ks, d :: ds, e => by simp [zip_fst (ks := ks) (ds := ds) (by simpa using e)]
end
theorem mapC_get {g : List D → R (D × Bool)} : ∀ {ds ks : List D}, mapC g ds = .ok ks → ks.length = ds.length ∧ ∀ (i : Nat) d, ds[i]? = some d → ∃ r, g [d] = .ok r ∧ ks[i]? = some r.1
  | [], _, e => by cases e; exact ⟨rfl, fun i d h => by simp at h⟩
  | d :: ds, _, e => by
    obtain ⟨r, e1, e⟩ := R.bind_inv e
    obtain ⟨ks, e2, e3⟩ := R.bind_inv e
    cases e3
    obtain ⟨h1, h2⟩ := mapC_get e2
    refine ⟨by simp [h1], fun i d' h => ?_⟩
    cases i with
    | zero => simp at h; subst h; exact ⟨r, e1, rfl⟩
    | succ i => simpa using h2 i d' (by simpa using h)
/-- sorted(xs, key=f) -/
theorem srt_core {L : Lw} {n k f : Nat} {X : Cx} {pins : List (Addr × Obj)} {σ : L2.St} {M H : Hp} {s : Shared} {fa l : Addr} {fd : FuncData} {ps : List Str} {cv : Nat → Value} {xs : List V} {ds ks : List D} {kz : List PyData} {Q : VK}
    (I : Inv X pins σ H s) (hx : Ex M H) (hs : SqL X.K H l xs) (hr : Reps X.K M ds xs)
    (F : FnOk X.prog X.w X.K X.mg X.base (L2N.CX X.prog X.w) k fa fd ps (spX X.K L cv n f)) (hroom : Room k X.A.in1.in1) (hb : Binds X.K fd ps []) (hu : X.A.units + 65 < cLine)
    (hk : mapC (run L.Γ L.G n f) ds = .ok ks) (hp : keysD ks = some kz) (hal : PySem.W.AllAlike kz)
    (q : ∀ M' H' p ys, Xt M H M' H' → H p = none → M' p = none → H' p = some (.lst ys) → Reps X.K M' (((kz.zip ds).mergeSort (PySem.W.dataLe false Prod.fst)).map Prod.snd) ys → Q (.ref p) H') :
    wpAny (model X.prog X.w) X.A (call (.builtin "sorted") [.ref l] [(Str.ofString "key", .ref fa)]) (EP X pins σ Q) X.xe s := by
  obtain ⟨its, rv, hl, hz⟩ := I.list hs
  have hlen : its.length = xs.length := rv.length.symm
  have hds : ds.length = xs.length := hr.length
  obtain ⟨hkl, hki⟩ := mapC_get hk
  have hzl := keys_len hp
  have hZ : its.length ≤ sizeLine := by rw [hlen]; exact hz
  refine PySem.W.sorted_of_sort hl.isList hZ (PyProof.Rows.ksk_s1 _ _) (fun _ => PyProof.Rows.ksk_l1 _ _) fun E' => ?_
  rw [PyProof.Rows.ksk_t1]
  have ho := PySem.W.copyHeap_at s.heap its
  have hsz : s.heap.objs.size + 1 < (PySem.W.copyHeap s.heap its).objs.size := Heap.lt_size ho
  obtain ⟨e1, ho1⟩ : ∃ e1, ((PySem.W.copyHeap s.heap its).update (s.heap.objs.size + 1) (Obj.mapSeq fun _ => (#[] : Array Value))).get? (s.heap.objs.size + 1) = some (seqObj "list" #[] e1) := ⟨_, get?_update_seq ho fun _ => #[]⟩
  have old : ∀ b o, s.heap.get? b = some o → (PySem.W.sortingHeap (PySem.W.copyHeap s.heap its) (s.heap.objs.size + 1) its).get? b = some o := fun _ _ e => PySem.W.sorting_copy_old e
  obtain ⟨kS, hkS⟩ : ∃ kS, kS = (((PySem.W.copyHeap s.heap its).update (s.heap.objs.size + 1) (Obj.mapSeq fun _ => (#[] : Array Value))).push (seqObj "tuple" its.toArray 0)).objs.size := ⟨_, rfl⟩
  have kS1 : kS = (PySem.W.copyHeap s.heap its).objs.size + 1 := by rw [hkS, size_push', Heap.size_update]
  have nk0 : (PySem.W.sortingHeap (PySem.W.copyHeap s.heap its) (s.heap.objs.size + 1) its).get? kS = some (seqObj "list" #[] 0) := by rw [hkS]; exact Heap.get?_push_size _ rfl
  have na0 : (PySem.W.sortingHeap (PySem.W.copyHeap s.heap its) (s.heap.objs.size + 1) its).get? (s.heap.objs.size + 1) = some (seqObj "list" #[] e1) := Heap.get?_push_of_some _ (Heap.get?_push_of_some _ ho1)
  unfold ksk_tree
  refine wpAny_bind (listItems_at ho rfl ?_)
  refine wpAny_bind (listUpdate_at ho rfl ?_ (by rw [List.size_toArray]; exact hZ) (Nat.zero_le _))
  refine wpAny_bind (seqEpoch_at ho1 rfl ?_)
  refine wpAny_bind (wpAny_newTuple ?_ (by show its.length ≤ _; exact hZ))
  refine wpAny_bind (wpAny_newList ?_ (Nat.zero_le _))
  refine wpAny_holding ?_
  rw [← hkS]
  show wpAny _ _ _ _ _ { s with heap := PySem.W.sortingHeap (PySem.W.copyHeap s.heap its) (s.heap.objs.size + 1) its }
  have I0 : Inv X pins σ H { s with heap := PySem.W.sortingHeap (PySem.W.copyHeap s.heap its) (s.heap.objs.size + 1) its } := I.kept (t' := s.toks) old
  generalize PySem.W.sortingHeap (PySem.W.copyHeap s.heap its) (s.heap.objs.size + 1) its = h0 at *
  have hka : kS ≠ s.heap.objs.size + 1 := by omega
  have oS : Own1 X pins kS := own_new I (by omega)
  have oA : Own1 X pins (s.heap.objs.size + 1) := own_new I (by omega)
  have fS : kS ∉ frs X.stack := own_nofr I (by omega)
  have fA : s.heap.objs.size + 1 ∉ frs X.stack := own_nofr I (by omega)
  have hS : H kS = none := I.hok.fresh (by omega)
  have hA : H (s.heap.objs.size + 1) = none := I.hok.fresh (by omega)
  generalize s.heap.objs.size + 1 = a at *
  unfold ksk_rest
  refine wpAny_bind (wpAny_rule ?_)
  first
    | rw [List.forIn_toArray]
    | (rw [← Array.forIn_toList]; simp only [List.toList_toArray])
  refine wpAny_bind (ksk_fold (fun i s1 => ∃ M1 H1 kA e kvs, Xt M H M1 H1 ∧ Inv X pins σ H1 s1 ∧ s1.heap.get? kS = some (seqObj "list" kA e) ∧ H1 kS = none ∧ s1.heap.get? a = some (seqObj "list" #[] e1) ∧ H1 a = none ∧ Vals kvs kA.toList ∧ Reps X.K M1 (ks.take i) kvs) its 0 _
    ⟨M, H, #[], 0, [], Xt.refl hx, I0, nk0, hS, na0, hA, .nil, by rw [List.take_zero]; exact .nil⟩ ?step ?done)
  case step =>
    rintro j u s1 hu1 ⟨M1, H1, kA, e, kvs, x1, I1, nk1, n1, na1, m1, vk, rk⟩
    simp only [Nat.zero_add] at rk ⊢
    have hj : j < its.length := (List.getElem?_eq_some_iff.mp hu1).1
    obtain ⟨x, hxj⟩ : ∃ x, xs[j]? = some x := ⟨_, List.getElem?_eq_getElem (by omega)⟩
    obtain ⟨u', hu2, ru⟩ := rv.get hxj
    have eu : u' = u := Option.some.inj (hu2.symm.trans hu1)
    subst eu
    obtain ⟨d, hdj, rd⟩ := hr.get' hxj
    obtain ⟨r, er, ekj⟩ := hki j d hdj
    have kz : kA.size ≤ its.length := by
      have h1 := vk.length
      have h2 := rk.length
      have h3 : kA.toList.length = kA.size := Array.length_toList
      rw [List.length_take] at h2
      omega
    have hsp : spX X.K L cv n f [x] H1 (fun v H2 => ∃ M2, Xt M1 H1 M2 H2 ∧ Rep X.K M2 r.1 v) E0 := ⟨M1, [d], x1.mh, .cons (rd.up x1.m) .nil, .inl ⟨r, er, fun M2 H2 v x2 r2 => by
      obtain ⟨M3, x3, r3⟩ := r2.told x2
      exact ⟨M3, x3, r3⟩⟩⟩
    refine wpAny_bind (wpAny_attempt (wpAny_call (codeAny_mono (F.run X.A.in1.in1 X.stack s1 H1 ⟨[u'], []⟩ [u'] [x] _ E0 hroom I1.env0.in1.in1 (by simpa using hb s1 [u'] I1.kIn (by simpa using F.len _ _ _ _ hsp)) (.cons ru .nil) hsp) fun rr s2 hq => ?_)))
    cases rr with
    | error e2 =>
      obtain ⟨_, _, _, _, _, _, _, _, _, _, _, _, z⟩ := hq
      exact z.elim
    | ok fl =>
      cases fl with
      | next => exact False.elim hq
      | brk => exact False.elim hq
      | cont => exact False.elim hq
      | ret w =>
        obtain ⟨v, H2, os, bare, un, hok, rw1, M2, x2, r2⟩ := hq
        have I2 : Inv X pins σ H2 s2 := I1.call' os un hok bare (fun b z => nomatch z)
        have nk2 := un.keep kS _ nk1 n1 fS (fun z => nomatch z)
        have na2 := un.keep a _ na1 m1 fA (fun z => nomatch z)
        have n2 := un.free kS _ nk1 n1 (fun z => nomatch z)
        have m2 := un.free a _ na1 m1 (fun z => nomatch z)
        have sb := Heap.SameBut.update s2.heap kS (Obj.mapSeq (·.push w))
        obtain ⟨c2, hc2⟩ : ∃ c2, (s2.heap.update kS (Obj.mapSeq (·.push w))).get? kS = some (seqObj "list" (kA.push w) c2) := ⟨_, get?_update_seq nk2 (·.push w)⟩
        show wpAny _ _ _ _ _ s2
        refine wpAny_bind (listUpdate_at nk2 rfl ?_ (Nat.le_trans kz hZ) (Nat.le_trans (Nat.le_of_eq (Array.size_push ..)) (Nat.succ_le_succ (Nat.le_trans kz hZ))))
        refine wpAny_pure ⟨rfl, M2, H2, kA.push w, c2, kvs ++ [v], x1.trans x2, ?_, hc2, n2, (sb.2 a hka.symm).trans na2, m2, ?_, ?_⟩
        · exact inv_turns (s' := { s2 with heap := s2.heap.update kS (Obj.mapSeq (·.push w)) }) (ch := [kS]) I2 rfl I2.bare (fun b o hb e => (sb.2 b (fun z => hb (by simp [z]))).trans e) (fun b hb => by rw [List.mem_singleton.mp hb]; exact n2) (fun b hb => by rw [List.mem_singleton.mp hb]; exact oS)
        · rw [Array.toList_push]
          exact vk.append (.cons rw1 .nil)
        · rw [List.take_add_one, ekj]
          exact (rk.up x2.m).snoc r2
  case done =>
    rintro s1 ⟨M1, H1, kA, e, kvs, x1, I1, nk1, n1, na1, m1, vk, rk⟩
    have rk : Reps X.K M1 ks kvs := by
      rw [Nat.zero_add, List.take_of_length_le (by omega)] at rk
      exact rk
    have hsz : kA.size = its.length := by
      have h1 := vk.length
      have h2 := rk.length
      have h3 : kA.toList.length = kA.size := Array.length_toList
      omega
    have hK := keys_reads I1 x1.mh hp rk vk
    have ez := each_zip (ks := kz) (by omega) (hr.up x1.m) rv
    have ezl : (kz.zip ds).map Prod.fst = kz := zip_fst (by omega)
    obtain ⟨g, g1, g2⟩ := restrict s1.heap fun b => decide (b ≠ kS)
    have kp : PySem.W.KeepsBut a g s1.heap := fun b o _ e => by
      by_cases hb : b = kS
      · rw [hb, g2 kS (by simp)] at e; cases e
      · rw [← g1 b (by simpa using hb)]; exact e
    refine wpAny_bind (listItems_at nk1 rfl ?_)
    refine PySem.W.keyH_end (κ := PySem.W.dataKind s1.heap kz) (h₁ := g) kp (g2 kS (by simp)) nk1 na1 hka (PySem.W.SortsAt.data (s := s1) hK hal (.inl fun d hd => ?_) fun d hd => ?_) hsz hZ fun h3 tk3 c k3 n3 => ⟨rfl, ?_⟩
    · obtain ⟨d', e⟩ := keys_mem hp d hd
      obtain ⟨x, r, h, _⟩ := key_tup e
      exact ⟨x, r, h⟩
    · obtain ⟨d', e⟩ := keys_mem hp d hd
      obtain ⟨x, r, _, h⟩ := key_tup e
      show X.A.units + 1 + 1 + d.depth < cLine
      omega
    have ko : PySem.W.KeyedOut false ((kz.zip ds).map Prod.fst) its (PySem.W.sortVals (PySem.W.dataKind s1.heap kz) false kA.toList its) := ⟨s1.heap, kA.toList, by rw [ezl]; exact hal, by rw [ezl], by rw [ezl]; exact hK⟩
    have out := PySem.W.keyedOut_each Prod.fst ko ez
    have hol := ko.length (by rw [ezl]; omega)
    obtain ⟨ys, v1, v2⟩ := each_back out
    have I3 : Inv X pins σ H1 { s1 with heap := h3, toks := tk3 } := inv_turns (s' := { s1 with heap := h3, toks := tk3 }) (ch := [kS, a]) I1 rfl I1.bare (fun b o hb e => by
      have b1 : b ≠ kS := fun z => hb (by simp [z])
      have b2 : b ≠ a := fun z => hb (by simp [z])
      exact k3 b o b2 (by rw [g1 b (by simpa using b1)]; exact e)) (fun b hb => by
      rcases List.mem_cons.mp hb with rfl | hb
      · exact n1
      · rw [List.mem_singleton.mp hb]; exact m1) (fun b hb => by
      rcases List.mem_cons.mp hb with rfl | hb
      · exact oS
      · rw [List.mem_singleton.mp hb]; exact oA)
    have I4 := inv_track (o := .lst ys) I3 m1 oA ⟨by rw [v1.length, hol]; exact hZ, _, c, v1, n3⟩
    refine ⟨.ref a, upd H1 a (.lst ys), I4, rfl, q M1 (upd H1 a (.lst ys)) a ys (x1.trans (Xt.lay x1.mh m1)) hA (Ex.none_of x1.mh m1) upd_same v2⟩
section
variable {L : Lw} {n : Nat} {N : List Str} {sc : Scope} {X : Cx}
def rSrt (X : Cx) (L : Lw) (n f : Nat) (fa : Addr) : List V → List V → Hp → VK → Prop := fun vs zs H Q => ∃ M l xs ds ks kz, vs = [V.ref l] ∧ zs = [V.ref fa] ∧ Ex M H ∧ SqL X.K H l xs ∧ Reps X.K M ds xs ∧ mapC (run L.Γ L.G n f) ds = .ok ks ∧ keysD ks = some kz ∧ PySem.W.AllAlike kz ∧
  ∀ M' H' p ys, Xt M H M' H' → H p = none → M' p = none → H' p = some (.lst ys) → Reps X.K M' (((kz.zip ds).mergeSort (PySem.W.dataLe false Prod.fst)).map Prod.snd) ys → Q (.ref p) H'
theorem cr_srt {f : Nat} {fa : Addr} {fd : FuncData} {ps : List Str} {cv : Nat → Value} {k : Nat} (F : FnOk X.prog X.w X.K X.mg X.base (L2N.CX X.prog X.w) k fa fd ps (spX X.K L cv n f)) (hroom : Room k X.A.in1.in1) (hb : Binds X.K fd ps []) (hu : X.A.units + 65 < cLine) :
    CallRK X (.builtin "sorted") [Str.ofString "key"] (rSrt X L n f fa) := by
  intro pins s σ H vs zs us ws Q I r rz h
  obtain ⟨M, l, xs, ds, ks, kz, rfl, rfl, hx, hs, hr, hk, hp, hal, q⟩ := h
  obtain rfl := Vals.ref1 r
  obtain rfl := Vals.ref1 rz
  exact srt_core I hx hs hr F hroom hb hu hk hp hal q
theorem sx_srt (g : Good L n N sc X) {f : Nat} {a : E} {z : Str} {x : Expr} {p pz pk pos : Pos} (h0 : L.nm.hot = false) (h2 : bnB L.nm sc "sorted" "sorted" = true) (h1 : L.nm.FN[f]? = some z) (h3 : glB sc z = true) (ha : SX L n X a x) (hn : notStar x = true) :
    SX L n X (.srt f a) (.Call (.Name "sorted" p) [x] [⟨some "key", .Name z pz, pk⟩] pos) := by
  obtain ⟨_, v1, v2, v3, v4⟩ := bnB_ok h2
  obtain ⟨w1, w2⟩ := glB_ok h3
  obtain ⟨fa, fd, ps, c1, c2, c3, c4⟩ := g.fs.calls f z h1
  have PZ : PE X (.Name z pz) (L2.tC (.ref fa)) := pe_glob (g.gl w1) c1 rfl w2
  have P : PE X (.Call (.Name "sorted" p) [x] [⟨some "key", .Name z pz, pk⟩] pos) (tC X.K (fun δ => (evl L n .bor a δ).bind fun x => match x with | .lst xs => (mapC (run L.Γ L.G n f) xs).bind fun ks => srtD xs ks | _ => .stuck)) :=
    (pe_callBK (cr_srt c4 (g.room2 h0) c3 g.un) (g.gl v1) (g.fs.blts _ v3) (by decide +kernel) (pa_cons ha.b pa_nil (star_ns hn _ _)) (pk_cons PZ pk_nil) v4 v2 (by rw [star_ns hn]; rfl) (by rw [star_ns hn]; rfl)).imp fun σ H Q ⟨H0, M, δ, d, o, e, q⟩ => by
      obtain ⟨x, e1, e2⟩ := R.bind_inv e
      cases x <;> first | (cases e2; done) | skip
      rename_i xs
      obtain ⟨ks, e3, e4⟩ := R.bind_inv e2
      unfold srtD at e4
      cases hk : keysD ks with
      | none => rw [hk] at e4; cases e4
      | some kz =>
        rw [hk] at e4
        obtain ⟨hal, e5⟩ := req_inv e4
        cases e5
        refine ⟨H0, M, δ, _, o, e1, fun M1 H1 v x1 r1 => ?_⟩
        obtain ⟨l, vs, rfl, hl, rl⟩ := r1.lst x1.mh
        refine ⟨M1, l, vs, xs, ks, kz, rfl, rfl, x1.mh, hl, rl, e3, hk, fun d hd d' hd' => List.all_eq_true.mp (List.all_eq_true.mp hal d hd) d' hd', fun M2 H2 p ys x2 n1 n2 hp rp => ?_⟩
        exact q _ _ _ (x1.trans (x2.tell n1 n2 hp)) (.lst (.inl (.inl upd_same)) (rp.up (Evl.Ex.new n2)))
  refine SX.plain (co := fun δ => (evl L n .bor a δ).bind fun x => match x with | .lst xs => (mapC (run L.Γ L.G n f) xs).bind fun ks => srtD xs ks | _ => .stuck) (fun m δ => ?_) P (by intro _; rfl)
  show ((evl L n .bor a δ).bind fun x => match x with | .lst xs => (mapC (run L.Γ L.G n f) xs).bind fun ks => (srtD xs ks).bind (post m) | _ => .stuck) = _
  cases evl L n .bor a δ with
  | ok x =>
    cases x <;> first | rfl | skip
    rename_i xs
    show ((mapC (run L.Γ L.G n f) xs).bind fun ks => (srtD xs ks).bind (post m)) = ((mapC (run L.Γ L.G n f) xs).bind fun ks => srtD xs ks).bind (post m)
    cases mapC (run L.Γ L.G n f) xs <;> rfl
  | _ => rfl
theorem flat_rep {K : PySem.W.Frag} {M M' : Hp} {d : D} {v : V} (h : isFlat d = true) (r : Rep K M d v) : Rep K M' d v := by
  cases d <;> first | (cases h; done) | skip
  · cases r; exact .non
  · cases r; exact .bl _
  · cases r; exact .int _
  · cases r with | str _ o => exact .str _ o
/-- what a list lies at, told for a call -/
theorem RepBs.told {K : PySem.W.Frag} {M H : Hp} (e : Ex M H) : ∀ {ds : List D} {vs : List V}, RepBs K M H ds vs → ∃ M0, Ex M M0 ∧ Ex M0 H ∧ (∀ a, M a = none → M0 a ≠ none → ∃ us, M0 a = some (.lst us)) ∧ Reps K M0 ds vs
  | _, _, .nil => ⟨M, Evl.Ex.refl M, e, fun a h1 h2 => absurd h1 h2, .nil⟩
  | _, _, .cons (d := d) (v := v) (ds := ds) (vs := vs) h t => by
    obtain ⟨M0, m1, m2, m3, m4⟩ := RepBs.told e t
    rcases h with h | ⟨p, us, xs, rfl, rfl, h3, h4⟩
    · exact ⟨M0, m1, m2, m3, .cons (h.up m1) m4⟩
    · by_cases hp : M0 p = none
      · have n1 := Evl.Ex.new (o := HO.lst us) hp
        refine ⟨upd M0 p (.lst us), m1.trans n1, fun b u q => ?_, fun a h1 h2 => ?_, .cons (.lst (.inl (.inl upd_same)) (h4.up (m1.trans n1))) (m4.up n1)⟩
        · by_cases hb : b = p
          · subst hb; rw [upd_same] at q; cases q; exact h3
          · rw [upd_ne hb] at q; exact m2 b u q
        · by_cases ha : a = p
          · subst ha; exact ⟨us, upd_same⟩
          · rw [upd_ne ha] at h2 ⊢; exact m3 a h1 h2
      · have hq : M0 p = some (.lst us) := by
          cases q : M0 p with
          | none => exact absurd q hp
          | some u => rw [m2 p u q] at h3; exact h3
        exact ⟨M0, m1, m2, m3, .cons (.lst (.inl (.inl hq)) (h4.up m1)) m4⟩
/-- the lists told for a call are forgotten -/
def fgt (M M0 M2 : Hp) : Hp := fun a => match M a, M0 a with
  | none, some _ => none
  | _, _ => M2 a
theorem fgt_keep {M M0 M2 : Hp} (x : Ex M0 M2) (m3 : ∀ a, M a = none → M0 a ≠ none → ∃ us, M0 a = some (.lst us)) (a : Addr) (o : HO) (hn : ∀ us, o ≠ .lst us) (hm : M2 a = some o) : fgt M M0 M2 a = some o := by
  unfold fgt
  split
  · rename_i h1 h2
    obtain ⟨us, h3⟩ := m3 _ h1 (by rw [h2]; exact fun z => nomatch z)
    have := x _ _ h3
    rw [this] at hm
    cases hm
    exact absurd rfl (hn us)
  · exact hm
mutual
theorem noL_rep {K : PySem.W.Frag} {M M0 M2 : Hp} (x : Ex M0 M2) (m3 : ∀ a, M a = none → M0 a ≠ none → ∃ us, M0 a = some (.lst us)) : ∀ (d : D) (v : V), noL d = true → Rep K M2 d v → Rep K (fgt M M0 M2) d v
  | .non, _, _, r => by cases r; exact .non
  | .bl b, _, _, r => by cases r; exact .bl b
  | .int i, _, _, r => by cases r; exact .int i
  | .str s, _, _, r => by cases r with | str _ o => exact .str s o
  | .tup xs, _, h, r => by
    cases r with
    | tup a b =>
      refine .tup ?_ (noL_reps x m3 xs _ h b)
      have keep := @fgt_keep M M0 M2 x m3
      rcases a with (a | ⟨o, a⟩) | a
      · exact .inl (.inl (keep _ _ (fun _ z => nomatch z) a))
      · exact .inl (.inr ⟨o, keep _ _ (fun _ z => nomatch z) a⟩)
      · exact .inr a
  | .lst _, _, h, _ => by cases h
  | .dct _ _, _, h, _ => by cases h
  | .ins _ _, _, h, _ => by cases h
theorem noL_reps {K : PySem.W.Frag} {M M0 M2 : Hp} (x : Ex M0 M2) (m3 : ∀ a, M a = none → M0 a ≠ none → ∃ us, M0 a = some (.lst us)) : ∀ (ds : List D) (vs : List V), noLs ds = true → Reps K M2 ds vs → Reps K (fgt M M0 M2) ds vs
  | [], _, _, r => by cases r; exact .nil
  | d :: ds, _, h, r => by
    cases r with
    | cons a b =>
      obtain ⟨h1, h2⟩ := Bool.and_eq_true_iff.mp (show (noL d && noLs ds) = true from h)
      exact .cons (noL_rep x m3 d _ h1 a) (noL_reps x m3 ds _ h2 b)
end
theorem fgt_xt {M M0 M2 H1 H2 : Hp} (m1 : Ex M M0) (x2 : Xt M0 H1 M2 H2) : Xt M H1 (fgt M M0 M2) H2 := by
  refine ⟨fun a o e => ?_, x2.h, fun a o e => ?_, fun a h1 h2 => ?_⟩
  · unfold fgt
    rw [e]
    exact x2.m a o (m1 a o e)
  · unfold fgt at e
    split at e
    · cases e
    · exact x2.mh a o e
  · unfold fgt
    rw [h1]
    cases q : M0 a with
    | none => exact x2.fr a q h2
    | some u => rfl
/-- a call that looks at lists of one's own and hands back no list -/
theorem sx_bcall (g : Good L n N sc X) {f : Nat} {as : List E} {y : Str} {xs : List Expr} {p pos : Pos} (h0 : L.nm.hot = false) (h1 : L.nm.FN[f]? = some y) (h2 : glB sc y = true) (hs : SL L n X as xs) (hm : mEs L.nm N sc as xs = true) :
    SX L n X (.bcall f as) (.Call (.Name y p) xs [] pos) := by
  obtain ⟨v1, v2⟩ := glB_ok h2
  obtain ⟨fa, fd, ps, c1, c2, c3, c4⟩ := g.fs.calls f y h1
  have key : ∀ (σ : L2.St) (H : Hp) (Q : VK), tC X.K (fun δ => (evbl L n as δ).bind fun xs => (run L.Γ L.G n f xs).bind fun r => req (noL r.1 = true) (.ok r.1)) σ H Q → tCall (spX X.K L (cvOf X.mg L.nm) n f) [] E0 (tAb X.K (evbl L n as)) σ H Q := by
    intro σ H Q ⟨H0, M, δ, d, o, e, q⟩
    obtain ⟨ds, e1, e2⟩ := R.bind_inv e
    obtain ⟨r, e3, e4⟩ := R.bind_inv e2
    obtain ⟨hf, e5⟩ := req_inv e4
    cases e5
    refine ⟨H0, M, δ, ds, o, e1, fun M1 H1 vs x1 r1 => ?_⟩
    show spX X.K L (cvOf X.mg L.nm) n f (vs ++ []) H1 Q E0
    rw [List.append_nil]
    obtain ⟨M0, m1, m2, m3, m4⟩ := r1.told x1.mh
    refine ⟨M0, ds, m2, m4, .inl ⟨r, e3, fun M2 H2 v x2 r2 => ?_⟩⟩
    obtain ⟨d, b⟩ := r
    cases b with
    | false => exact q _ H2 v (x1.trans (fgt_xt m1 x2)) (noL_rep x2.m m3 d v hf r2)
    | true =>
      obtain ⟨a, us, zs, rfl, _⟩ := r2
      cases hf
  have px : Passes (L2N.CX X.prog X.w) X E0 := fun _ _ _ _ _ _ _ h => by
    obtain ⟨_, _, _, _, _, _, _, _, _, _, _, _, z⟩ := h
    exact z.elim
  have P : PE X (.Call (.Name y p) xs [] pos) (tC X.K (fun δ => (evbl L n as δ).bind fun xs => (run L.Γ L.G n f xs).bind fun r => req (noL r.1 = true) (.ok r.1))) := by
    cases xs with
    | nil =>
      have ea : as = [] := by
        cases as with
        | nil => rfl
        | cons a as => obtain ⟨_, _, z, _⟩ := mEs_cons hm; cases z
      subst ea
      refine (pe_call0 c4 (g.room h0) (g.gl v1) c1 c2 c3 .nil px v2).imp fun σ H Q q => ?_
      obtain ⟨H0, M, δ, ds, o, e, q⟩ := key σ H Q q
      cases e
      exact q M H [] (Xt.refl o.ex) .nil
    | cons x xs =>
      cases as with
      | nil => have := mEs_nil hm; cases this
      | cons a as =>
        obtain ⟨y', ys', e, hm1, hm2⟩ := mEs_cons hm
        cases e
        exact (pe_call c4 (g.room h0) (g.gl v1) c1 c2 c3 .nil px hs.ab v2 (star_ns (mE_ns hm1) _ _) (stars_ok _ _ hm2)).imp key
  refine SX.plain (co := fun δ => (evbl L n as δ).bind fun xs => (run L.Γ L.G n f xs).bind fun r => req (noL r.1 = true) (.ok r.1)) (fun m δ => ?_) P (by intro _; rfl)
  show ((evbl L n as δ).bind fun xs => (run L.Γ L.G n f xs).bind fun r => req (noL r.1 = true) (post m r.1)) = _
  cases evbl L n as δ with
  | ok xs =>
    show ((run L.Γ L.G n f xs).bind fun r => req (noL r.1 = true) (post m r.1)) = ((run L.Γ L.G n f xs).bind fun r => req (noL r.1 = true) (R.ok r.1)).bind (post m)
    cases run L.Γ L.G n f xs with
    | ok r => show req (noL r.1 = true) (post m r.1) = (req (noL r.1 = true) (R.ok r.1)).bind (post m); unfold req; split <;> rfl
    | _ => rfl
  | _ => rfl
end
end Fw

/-! zip of two texts; enumerate of a tuple -/
namespace Fw
open PySem PySem.Spec PyProof.Rows L2
open Evl (Ex ex_rd ex_l ex_t)
/-- either of two ways to be walked -/
theorem pi_or {X : Cx} {tg it : Expr} {w1 w2 : TI} (h1 : PI X tg it w1) (h2 : PI X tg it w2) : PI X tg it (fun σ H R => w1 σ H R ∨ w2 σ H R) :=
  ⟨fun pins s σ H R I h => h.elim (fun z => h1.run pins s σ H R I z) fun z => h2.run pins s σ H R I z⟩
/-- two texts' signs side by side, in new pairs -/
def Its2 (x y : Str) : It :=
  ⟨fun i _ => i < min x.cps.size y.cps.size, fun i H v H' => ∃ T c d, v = .ref T ∧ H T = none ∧ H' = upd H T (.tup [.str ⟨#[c]⟩, .str ⟨#[d]⟩]) ∧ x.cps[i]? = some c ∧ y.cps[i]? = some d, fun i _ => i = min x.cps.size y.cps.size⟩
def ts2 (z TI TO i1 i2 : Addr) (x y : Str) (t1 t2 : Tok) (i : Nat) (h : Heap) : Prop :=
  IsZip h z TI TO .none ∧ IsTupOf2 h TI (.ref i1) (.ref i2) ∧ (∃ a b, IsTupOf2 h TO a b) ∧ h.IsStrIter i1 (strIterType x) x t1 i ∧ h.IsStrIter i2 (strIterType y) y t2 i
theorem turn_s2 {P : Program} {w : World} {K : PySem.W.Frag} {elts : List Expr} {kk : Nat} {tpos : Pos} {z TI TO i1 i2 : Addr} {x y : Str} {t1 t2 : Tok} (S : ZipSep2 z TI TO i1 i2 [i1] [i2]) :
    Turn P w K (.Tuple elts kk tpos) (Its2 x y) [z, TI, TO, i1, i2] z (ts2 z TI TO i1 i2 x y t1 t2) where
  mem := List.mem_cons_self ..
  obj := fun i h st c hc => by
    obtain ⟨h1, h2, ⟨a, b, h3⟩, ⟨o1, e1, _, d1⟩, ⟨o2, e2, _, d2⟩⟩ := st
    rcases List.mem_cons.mp hc with rfl | hc
    · exact ⟨_, h1, fun v q => nomatch q⟩
    rcases List.mem_cons.mp hc with rfl | hc
    · exact ⟨_, h2, fun v q => nomatch q⟩
    rcases List.mem_cons.mp hc with rfl | hc
    · exact ⟨_, h3, fun v q => nomatch q⟩
    rcases List.mem_cons.mp hc with rfl | hc
    · exact ⟨o1, e1, fun v q => by rw [d1] at q; cases q⟩
    rcases List.mem_cons.mp hc with rfl | hc
    · exact ⟨o2, e2, fun v q => by rw [d2] at q; cases q⟩
    · cases hc
  keep := fun i h h' st k => by
    obtain ⟨h1, h2, ⟨a, b, h3⟩, ⟨o1, e1, r1⟩, ⟨o2, e2, r2⟩⟩ := st
    exact ⟨k z (by simp) _ h1, k TI (by simp) _ h2, ⟨a, b, k TO (by simp) _ h3⟩, ⟨o1, k i1 (by simp) _ e1, r1⟩, ⟨o2, k i2 (by simp) _ e2, r2⟩⟩
  item := by
    intro X hP hw hK hc i pins s σ H E I hf st hg
    subst hP hw hK
    have hh : X.A.in1.handled = none := I.ok.hd hc
    have W := GoesN.zip2 (elts := elts) (x1 := kk) (pos := tpos) S (Draws.text (prog := X.prog) (w := X.w) hh i1 x t1) (Draws.text hh i2 y t2)
    refine W.goes i s _ E hg st fun v h' tk hY st' hk htk => ?_
    obtain ⟨T, a, b, rfl, hle, ⟨c, u, hc1, rfl⟩, ⟨d, u', hd1, rfl⟩, hT⟩ := hY
    have new : ObjOk X.prog X.w (upd H T (.tup [.str ⟨#[c]⟩, .str ⟨#[d]⟩])) h' T (.tup [.str ⟨#[c]⟩, .str ⟨#[d]⟩]) :=
      ⟨by show 2 ≤ sizeLine; decide, [.str ⟨#[c]⟩ u, .str ⟨#[d]⟩ u'], .cons ⟨u, rfl⟩ (.cons ⟨u', rfl⟩ .nil), hT⟩
    have I1 : Inv X pins σ (upd H T (.tup [.str ⟨#[c]⟩, .str ⟨#[d]⟩])) { s with heap := h', toks := tk } :=
      I.turnedNew (ch := [z, TO, i1, i2]) hk (fun q hq => hf q (by simp at hq ⊢; rcases hq with rfl | rfl | rfl | rfl <;> simp)) hle new
    refine ⟨.ref T, _, I1, rfl, ⟨T, c, d, rfl, I.hok.fresh hle, rfl, hc1, hd1⟩, st', fun q hq => ?_⟩
    have hlt : q < s.heap.objs.size := by
      obtain ⟨h1, h2, ⟨a, b, h3⟩, ⟨o1, e1, r1⟩, ⟨o2, e2, r2⟩⟩ := st
      simp at hq
      rcases hq with rfl | rfl | rfl | rfl | rfl
      · exact Heap.lt_size h1
      · exact Heap.lt_size h2
      · exact Heap.lt_size h3
      · exact Heap.lt_size e1
      · exact Heap.lt_size e2
    rw [upd_ne (Nat.ne_of_lt (Nat.lt_of_lt_of_le hlt hle))]
    exact (hf q hq).1
  done := by
    intro X hP hw hK hc i pins s σ H E I hf st hg
    subst hP hw hK
    have hh : X.A.in1.handled = none := I.ok.hd hc
    have W := GoesN.zip2 (elts := elts) (x1 := kk) (pos := tpos) S (Draws.text (prog := X.prog) (w := X.w) hh i1 x t1) (Draws.text hh i2 y t2)
    have hg : i = min x.cps.size y.cps.size := hg
    subst hg
    exact W.stops s _ E st fun h' tk hk htk => I.turnedL (ch := [z, TO, i1, i2]) hk fun q hq => hf q (by simp at hq ⊢; rcases hq with rfl | rfl | rfl | rfl <;> simp)
  self := fun A i s Q E st h => wpAny_pyIter_zip st.1 h
def iZip2 (ta : TA) : TI := fun σ H R => ta σ H fun vs H1 => ∃ x y, vs = [.str x, .str y] ∧ R (Its2 x y) H1
theorem pi_zip2 {X : Cx} {e e2 : Expr} {ta : TA} {p pos tpos : Pos} {elts : List Expr} {kk : Nat} (hg : Gl X "zip") (hm : X.mg "zip" = none) (ha : PA X [e, e2] ta)
    (hs : starEach [e, e2] X.env = (false, eval e X.env) :: starEach [e2] X.env := by rfl) (hpl : (backTo pos (starEach [e2] X.env)).any (·.1) = false := by rfl) :
    PI X (.Tuple elts kk tpos) (.Call (.Name "zip" p) [e, e2] [] pos) (iZip2 ta) := by
  refine ⟨fun pins s σ H R I h => ?_⟩
  refine Call_ (ld_blt I hg hm boot_zip (callWith_type1 (thn (ha.run pos pins s σ H _ I h) fun us s1 ⟨vs, H1, I1, r1, x, y, ex, q⟩ => ?_) hs hpl))
  subst ex
  obtain ⟨t1, t2, rfl⟩ : ∃ t1 t2, us = [.str x t1, .str y t2] := by
    cases r1 with
    | cons r rr =>
      cases rr with
      | cons r' rr => cases rr; obtain ⟨t1, rfl⟩ := r; obtain ⟨t2, rfl⟩ := r'; exact ⟨t1, t2, rfl⟩
  refine zip_begins2 (begins_text x t1) (begins_text y t2) trivial trivial fun h' g1 g2 g3 g4 g5 g6 g7 => wpAny_pyIter_zip g1 ?_
  have I2 : Inv X pins σ H1 { s1 with heap := h' } := I1.kept (t' := s1.toks) g7
  refine ⟨_, [s1.heap.objs.size + 4, s1.heap.objs.size + 2, s1.heap.objs.size + 3, s1.heap.objs.size, s1.heap.objs.size + 1], _, _, H1, rfl, I2, turn_s2 (zip_sep2 (fp1 := []) (fp2 := []) (fun _ h => nomatch h) (fun _ h => nomatch h)), ⟨g1, g2, ⟨_, _, g3⟩, ⟨_, g4, rfl, rfl⟩, ⟨_, g5, rfl, rfl⟩⟩, fun c hc => ?_, q⟩
  have hle : s1.heap.objs.size ≤ c := by
    simp at hc
    rcases hc with rfl | rfl | rfl | rfl | rfl
    · exact Nat.le_add_right _ _
    · exact Nat.le_add_right _ _
    · exact Nat.le_add_right _ _
    · exact Nat.le_refl _
    · exact Nat.le_add_right _ _
  exact I1.fpOk hle (I1.hok.fresh hle)
/-! enumerate of a tuple -/
set_option maxHeartbeats 1000000 in
theorem enum1_meets {v : Value} {o : Obj} {H : Heap → Prop} (B : Begins v o H) :
    Meets (Builtin.«enumerate.__new__» ⟨[.type "enumerate", v], []⟩) (fun _ R s => H s.heap ∧
      R (.ok (.ret (.ref (s.heap.push o).objs.size))) { s with heap := (s.heap.push o).push { cls := .type "enumerate", data := .fields #[.none, .bool false, .ref s.heap.objs.size, rawInt 0, .none, .none] } }) :=
  .of_wp fun prog w A R s h => by
    obtain ⟨hp, gg, dd, tt, oo⟩ := s
    obtain ⟨ha, hb⟩ := h
    have below := sub_enumerate
    have begun : ∀ {A' : Around} {E : Value → Shared → Prop} {Q : Value → Shared → Prop}, Q (.ref hp.objs.size) ⟨hp.push o, gg, dd, tt, oo⟩ → wpAny (model prog w) A' (pyIter v) Q E ⟨hp, gg, dd, tt, oo⟩ := fun q => B.iter prog w _ _ ⟨hp, gg, dd, tt, oo⟩ _ ha q
    wp_walk using begun
    refine wpAny_stack_any fun stk => wpAny_pure ?_
    split
    · rename_i c _ _ _ _ _
      cases hcq : (c == Value.type "enumerate") <;> (wp_walk using begun; exact ⟨_, rfl, hb⟩)
    · wp_walk using begun
      exact ⟨_, rfl, hb⟩
theorem enum1_begins {prog : Program} {w : World} {A : Around} {E : Value → Shared → Prop} {s : Shared} {v : Value} {o : Obj} {H : Heap → Prop} {Q : Value → Shared → Prop} (B : Begins v o H) (h1 : H s.heap)
    (h : ∀ h', IsEnum h' (s.heap.objs.size + 1) s.heap.objs.size 0 .none → h'.get? s.heap.objs.size = some o → (∀ b o, s.heap.get? b = some o → h'.get? b = some o) → Q (.ref (s.heap.objs.size + 1)) { s with heap := h' }) :
    wpAny (model prog w) A (call (.type "enumerate") [v]) Q E s := by
  refine callType_new F.called_enumerate (by decide) (F.typeCall_enumerate_1 _) (F.newCall_enumerate_1 _) (fun obj => F.args_object_init_2 obj _) F.entry_enumerate_new (enum1_meets B) ⟨h1, ?_⟩
  have big : (s.heap.push o).objs.size = s.heap.objs.size + 1 := Heap.size_push ..
  have top := Heap.get?_push_size (s.heap.push o) (o := { cls := .type "enumerate", data := .fields #[.none, .bool false, .ref s.heap.objs.size, rawInt 0, .none, .none] }) rfl
  rw [big] at top
  show _ ∧ _
  rw [big]
  exact ⟨⟨_, top, rfl⟩, h _ top (Heap.get?_push_of_some _ (Heap.get?_push_size _ B.free)) fun b o x => Heap.get?_push_of_some _ (Heap.get?_push_of_some _ x)⟩
/-- the tuple at a, numbered, in new pairs -/
def ItEt (K : PySem.W.Frag) (a : Addr) : It :=
  ⟨fun i H => ∃ (xs : List V) (x : V), SqT K H a xs ∧ xs[i]? = some x, fun i H v H' => ∃ T x, v = .ref T ∧ H T = none ∧ H' = upd H T (.tup [.int (i : Nat), x]) ∧ ∀ xs, SqT K H a xs → xs[i]? = some x, fun i H => ∃ xs : List V, SqT K H a xs ∧ i = xs.length⟩
theorem turn_eT {P : Program} {w : World} {K : PySem.W.Frag} {elts : List Expr} {kk : Nat} {tpos : Pos} (a e it : Addr) (hne : e ≠ it) :
    Turn P w K (.Tuple elts kk tpos) (ItEt K a) [e, it] e (fun i h => (∃ old, IsEnum h e it (0 + ((i : Nat) : Int)) old) ∧ h.IsTupleIter it a i) where
  mem := List.mem_cons_self ..
  obj := fun i h st c hc => by
    obtain ⟨⟨old, h1⟩, ⟨o2, e2, _, d2⟩⟩ := st
    rcases List.mem_cons.mp hc with rfl | hc
    · exact ⟨_, h1, fun v q => nomatch q⟩
    rcases List.mem_cons.mp hc with rfl | hc
    · exact ⟨o2, e2, fun v q => by rw [d2] at q; cases q⟩
    · cases hc
  keep := fun i h h' st k => ⟨st.1.imp fun old q => k e (by simp) _ q, st.2.at fun o q => k it (by simp) o q⟩
  item := by
    intro X hP hw hK hc i pins s σ H E I hf st hg
    subst hP hw hK
    obtain ⟨xs, x, hq, hx⟩ := hg
    obtain ⟨its, rv, p, _⟩ := I.tuple hq
    have p : s.heap.IsTuple a its.toArray := p
    obtain ⟨u, hu, ru⟩ := rv.get hx
    have hae : a ≠ e := fun z => by
      obtain ⟨o, ho, hc1, _⟩ := id p
      obtain ⟨old, he⟩ := st.1
      rw [z] at ho
      have he : s.heap.get? e = some _ := he
      rw [he] at ho; cases ho; simp at hc1
    have hai : a ≠ it := fun z => by
      obtain ⟨o, ho, hc1, _⟩ := id p
      obtain ⟨o2, e2, hc2, _⟩ := id st.2
      rw [z, e2] at ho; cases ho; rw [hc2] at hc1; simp at hc1
    have hh : X.A.in1.handled = none := I.ok.hd hc
    have W := GoesN.enumFrom (elts := elts) (x1 := kk) (pos := tpos) 0 (Draws.tuple (prog := X.prog) (w := X.w) hh it a hai its.toArray) e hne (by simp [hne, Ne.symm hae]) (by simp)
    have hi : i < its.toArray.size := by
      have := (List.getElem?_eq_some_iff.mp hu).1
      simpa using this
    refine W.goes i s _ E hi ⟨st.1, st.2, p⟩ fun v h' tk hY st' hk htk => ?_
    obtain ⟨T, t, z, rfl, hle, hz, hT⟩ := hY
    have hz : its[i]? = some z := by simpa using hz
    rw [hu] at hz
    cases hz
    rw [Int.zero_add] at hT
    have new : ObjOk X.prog X.w (upd H T (.tup [.int (i : Nat), x])) h' T (.tup [.int (i : Nat), x]) :=
      ⟨by show 2 ≤ sizeLine; decide, [.int i t, u], .cons ⟨t, rfl⟩ (.cons ru .nil), hT⟩
    have I1 : Inv X pins σ (upd H T (.tup [.int (i : Nat), x])) { s with heap := h', toks := tk } := I.turnedNew (ch := [e, it]) hk hf hle new
    refine ⟨.ref T, _, I1, rfl, ⟨T, x, rfl, I.hok.fresh hle, rfl, fun ys hy => by rw [I.tuple_inj hy hq]; exact hx⟩, ⟨st'.1, st'.2.1⟩, fun q hq => ?_⟩
    have hlt : q < s.heap.objs.size := by
      obtain ⟨⟨old, h1⟩, ⟨o2, e2, _, d2⟩⟩ := st
      simp at hq
      rcases hq with rfl | rfl
      · exact Heap.lt_size h1
      · exact Heap.lt_size e2
    rw [upd_ne (Nat.ne_of_lt (Nat.lt_of_lt_of_le hlt hle))]
    exact (hf q hq).1
  done := by
    intro X hP hw hK hc i pins s σ H E I hf st hg
    subst hP hw hK
    obtain ⟨xs, hq, hi⟩ := hg
    obtain ⟨its, rv, p, _⟩ := I.tuple hq
    have p : s.heap.IsTuple a its.toArray := p
    have hae : a ≠ e := fun z => by
      obtain ⟨o, ho, hc1, _⟩ := id p
      obtain ⟨old, he⟩ := st.1
      rw [z] at ho
      have he : s.heap.get? e = some _ := he
      rw [he] at ho; cases ho; simp at hc1
    have hai : a ≠ it := fun z => by
      obtain ⟨o, ho, hc1, _⟩ := id p
      obtain ⟨o2, e2, hc2, _⟩ := id st.2
      rw [z, e2] at ho; cases ho; rw [hc2] at hc1; simp at hc1
    have hh : X.A.in1.handled = none := I.ok.hd hc
    have W := GoesN.enumFrom (elts := elts) (x1 := kk) (pos := tpos) 0 (Draws.tuple (prog := X.prog) (w := X.w) hh it a hai its.toArray) e hne (by simp [hne, Ne.symm hae]) (by simp)
    have hi : i = its.toArray.size := by rw [hi, rv.length]; simp
    subst hi
    exact W.stops s _ E ⟨st.1, st.2, p⟩ fun h' tk hk htk => I.turnedL (ch := [e, it]) hk hf
  self := fun A i s Q E st h => let ⟨⟨_, he⟩, _⟩ := st; wpAny_pyIter_enum he h
def iEnumT (K : PySem.W.Frag) (ta : TA) : TI := fun σ H R => ta σ H fun vs H1 => ∃ a xs, vs = [.ref a] ∧ SqT K H1 a xs ∧ R (ItEt K a) H1
theorem pi_enumT {X : Cx} {e : Expr} {ta : TA} {p pos tpos : Pos} {elts : List Expr} {kk : Nat} (hg : Gl X "enumerate") (hm : X.mg "enumerate" = none) (ha : PA X [e] ta) (hs : starEach [e] X.env = [(false, eval e X.env)] := by rfl) :
    PI X (.Tuple elts kk tpos) (.Call (.Name "enumerate" p) [e] [] pos) (iEnumT X.K ta) := by
  refine ⟨fun pins s σ H R I h => ?_⟩
  refine Call_ (ld_blt I hg hm boot_enumerate (callWith_type1 (thn (ha.run pos pins s σ H _ I h) fun us s1 ⟨vs, H1, I1, r1, a, xs, ex, hq, q⟩ => ?_) hs rfl))
  subst ex
  obtain rfl : us = [.ref a] := by
    cases r1 with
    | cons r rr => cases rr; cases r; rfl
  obtain ⟨its, rv, p, _⟩ := I1.tuple hq
  have p : s1.heap.IsTuple a its.toArray := p
  refine enum1_begins (begins_tuple a its.toArray) p fun h' g1 g2 g3 => wpAny_pyIter_enum g1 ?_
  have I2 : Inv X pins σ H1 { s1 with heap := h' } := I1.kept (t' := s1.toks) g3
  refine ⟨_, [s1.heap.objs.size + 1, s1.heap.objs.size], _, _, H1, rfl, I2, turn_eT a (s1.heap.objs.size + 1) s1.heap.objs.size (Nat.succ_ne_self _), ⟨⟨.none, g1⟩, ⟨_, g2, rfl, rfl⟩⟩, fun c hc => ?_, q⟩
  have hle : s1.heap.objs.size ≤ c := by
    simp at hc
    rcases hc with rfl | rfl
    · exact Nat.le_add_right _ _
    · exact Nat.le_refl _
  exact I1.fpOk hle (I1.hok.fresh hle)
/-! a text from its end -/
def tRevS (te : TE) : TE := fun σ H Q => te σ H fun x H1 => ∃ z : Str, x = .str z ∧ z.length ≤ sizeLine ∧ Q (.str ⟨z.cps.toList.reverse.toArray⟩) H1
theorem rev_places (n : Nat) : Builtin.Str.strSliceIndices none none (-1) n = (List.range n).reverse := by
  rw [← PySem.W.krv_range, ← PySem.W.krv_sliceRange]
  rfl
theorem rev_made (z : Str) (t j : Tok) : sliceMade z t none none (some (-1, j)) = .str ⟨z.cps.toList.reverse.toArray⟩ := by
  have h : slicePicked z none none (some (-1, j)) = (List.range z.cps.size).reverse := rev_places _
  have h2 : ((List.range z.cps.size).reverse.filterMap (z.cps[·]?)) = z.cps.toList.reverse := by rw [List.filterMap_reverse, PySem.W.krv_all]
  unfold sliceMade
  rw [h, h2]
  rfl
theorem pe_revS {X : Cx} {e : Expr} {te : TE} {k : Nat} {p1 p2 p3 pos : Pos} (he : PE X e te) : PE X (.Subscript e (.Slice none none (some (.UnaryOp .USub (.Constant (.int 1) k p1) p2)) p3) pos) (tRevS te) := by
  refine ⟨fun pins s σ H Q I h => Subscript_ (thn (he.run pins s σ H _ I h) fun v s1 ⟨x, H1, I1, r1, z, ez, hz, q⟩ => ?_)⟩
  subst ez
  obtain ⟨t, rfl⟩ := r1
  have back : PO X (some (.UnaryOp .USub (.Constant (.int 1) k p1) p2)) (tPart (tUn (rU fun i => .int (-i)) (L2.tC (.int 1)))) := po_some (pe_un un_neg pe_int)
  refine wpAny_Slice (thn (po_none.run pins s1 σ H1 (fun a Ha => a = none ∧ Ha = H1) I1 ⟨rfl, rfl⟩) fun w1 s2 ⟨a, Ha, I2, pa, ea, e2⟩ => ?_)
  subst ea e2
  refine thn (po_none.run pins s2 σ Ha (fun b Hb => b = none ∧ Hb = Ha) I2 ⟨rfl, rfl⟩) fun w2 s3 ⟨b, Hb, I3, pb, eb, e3⟩ => ?_
  subst eb e3
  refine thn (back.run pins s3 σ Hb (fun c Hc => c = some (-1) ∧ Hc = Hb) I3 ⟨1, rfl, -1, rfl, rfl, rfl⟩) fun w3 s4 ⟨c, Hc, I4, pc, ec, e4⟩ => ?_
  subst ec e4
  obtain rfl : w1 = .none := by cases pa; rfl
  obtain rfl : w2 = .none := by cases pb; rfl
  obtain ⟨j, rfl⟩ : ∃ j, w3 = .int (-1) j := by cases pc; exact ⟨_, rfl⟩
  have I5 : Inv X pins σ Hc { s4 with heap := s4.heap.push { cls := .type "slice", data := .fields #[.none, .none, .int (-1) j] } } := I4.kept (t' := s4.toks) fun b ob q => Heap.get?_push_of_some _ q
  show wpAny (model X.prog X.w) X.A (subscriptTail e (.Slice none none (some (.UnaryOp .USub (.Constant (.int 1) k p1) p2)) p3) (.str z t) (.ref s4.heap.objs.size)) (EP X pins σ Q) X.xe { s4 with heap := s4.heap.push { cls := .type "slice", data := .fields #[.none, .none, .int (-1) j] } }
  refine tail_any (ops := [.str z t, .ref s4.heap.objs.size]) (typeIs_str _ z t) F.slot_str_getitem.lookup ?_ (by with_unfolding_all rfl)
  refine wpAny_getItem_str_slice (l := none) (u := none) (st := some (-1, j)) ⟨_, Heap.get?_push_size _ rfl, rfl, rfl⟩ rfl ?_
  rw [rev_made]
  refine ⟨?_, .str _, Hc, I5.tok _, ⟨_, rfl⟩, q⟩
  show (z.cps.toList.reverse.toArray).size ≤ sizeLine
  rw [List.size_toArray, List.length_reverse, Array.length_toList]
  exact hz
end Fw

/-! what is walked -/
namespace Fw
open PySem PySem.Spec PyProof.Rows L2
open Evl (Ex ex_rd ex_l ex_t)
section
variable {X : Cx} {tg : Expr}
def tSeqI (K : PySem.W.Frag) (te : TE) : TI := fun σ H R => te σ H fun x H1 => (∃ a xs, x = .ref a ∧ SqL K H1 a xs ∧ R (Itl K a) H1) ∨ (∃ a xs, x = .ref a ∧ SqT K H1 a xs ∧ R (Itt K a) H1) ∨ ∃ z, x = .str z ∧ R (Its z) H1
theorem pi_any {l : Expr} {tl : TE} (hl : PE X l tl) : PI X tg l (tSeqI X.K tl) := by
  refine ⟨fun pins s σ H R I h => ?_⟩
  refine thn (hl.run pins s σ H _ I h) fun v s1 ⟨x, H1, I1, r1, q1⟩ => ?_
  rcases q1 with ⟨a, xs, e, hq, q⟩ | ⟨a, xs, e, hq, q⟩ | ⟨z, e, q⟩
  · subst e
    cases r1
    obtain ⟨its, rv, p, hz⟩ := I1.list hq
    refine wpAny_pyIter_list p.isList ?_
    refine ⟨s1.heap.objs.size, [s1.heap.objs.size], _, _, H1, rfl, I1.kept (t' := s1.toks) fun b o e => Heap.get?_push_of_some _ e, turn_list a _, ⟨_, Heap.get?_push_size _ rfl, rfl, rfl⟩, fun b hb => ?_, q⟩
    have e : b = s1.heap.objs.size := by simpa using hb
    subst e
    exact I1.fpOk (Nat.le_refl _) (I1.hok.fresh (Nat.le_refl _))
  · subst e
    cases r1
    obtain ⟨its, rv, p, hz⟩ := I1.tuple hq
    refine wpAny_pyIter_tuple (show s1.heap.IsTuple a its.toArray from p) ?_
    refine ⟨s1.heap.objs.size, [s1.heap.objs.size], _, _, H1, rfl, I1.kept (t' := s1.toks) fun b o e => Heap.get?_push_of_some _ e, turn_tuple a _, ⟨_, Heap.get?_push_size _ rfl, rfl, rfl⟩, fun b hb => ?_, q⟩
    have e : b = s1.heap.objs.size := by simpa using hb
    subst e
    exact I1.fpOk (Nat.le_refl _) (I1.hok.fresh (Nat.le_refl _))
  · subst e
    obtain ⟨t, rfl⟩ := r1
    cases ha : z.cps.all (· < 128)
    · exact wpAny_pyIter_wide ha (pi_one (tk := s1.toks) I1 _ (turn_str _ z t "str_iterator" (.inr rfl)) ⟨_, Heap.get?_push_size _ rfl, rfl, rfl⟩ q)
    · exact wpAny_pyIter_ascii ha (pi_one (tk := s1.toks) I1 _ (turn_str _ z t "str_ascii_iterator" (.inl rfl)) ⟨_, Heap.get?_push_size _ rfl, rfl, rfl⟩ q)
end

def StM (b : Bool) (M H : Hp) : Hp → Hp → Prop := fun M2 H2 => Ex M M2 ∧ (b = true → Ex H H2)
def RepX (b : Bool) (K : PySem.W.Frag) (M H : Hp) (d : D) (v : V) : Prop := Rep K M d v ∨ (b = true ∧ ∃ p vs xs, d = .lst xs ∧ v = .ref p ∧ H p = some (.lst vs) ∧ Reps K M xs vs)
theorem RepX.up {b : Bool} {K : PySem.W.Frag} {M H M1 H1 : Hp} {d : D} {v : V} (h : RepX b K M H d v) (x : Xt M H M1 H1) : RepX b K M1 H1 d v := by
  rcases h with h | ⟨e0, p, vs, xs, e1, e2, e3, e4⟩
  · exact .inl (h.up x.m)
  · exact .inr ⟨e0, p, vs, xs, e1, e2, x.h _ _ e3, e4.up x.m⟩
def tX (K : PySem.W.Frag) (b : Bool) (co : En → R D) : TE := fun σ H Q => ∃ H0 M δ d, OKs K H0 M H σ δ ∧ co δ = .ok d ∧ ∀ M' H' v, Xt M H M' H' → RepX b K M' H' d v → Q v H'
def mdB : Bool → Md
  | true => .bor
  | false => .val
section
variable {L : Lw} {n : Nat} {X : Cx}
theorem SX.x {e : E} {x : Expr} (h : SX L n X e x) (b : Bool) : PE X x (tX X.K b (evl L n (mdB b) e)) := by
  cases b with
  | false => exact h.v.imp fun σ H Q ⟨H0, M, δ, d, o, e, q⟩ => ⟨H0, M, δ, d, o, e, fun M' H' v x r => q M' H' v x (.inl r)⟩
  | true => exact h.b.imp fun σ H Q ⟨H0, M, δ, d, o, e, q⟩ => ⟨H0, M, δ, d, o, e, fun M' H' v x r => q M' H' v x (r.elim .inl fun z => .inr ⟨rfl, z⟩)⟩
variable {K : PySem.W.Frag}
theorem RepX.lst {b : Bool} {M H : Hp} {ds : List D} {v : V} (h : RepX b K M H (.lst ds) v) : ∃ p vs, v = .ref p ∧ Reps K M ds vs ∧ ∀ M2 H2, StM b M H M2 H2 → Ex M2 H2 → SqL K H2 p vs := by
  rcases h with h | ⟨e0, p, vs, xs, e1, e2, e3, e4⟩
  · cases h with
    | lst a r => exact ⟨_, _, rfl, r, fun M2 H2 s e => ex_l (s.1.trans e) a⟩
  · cases e1
    exact ⟨p, vs, e2, e4, fun M2 H2 s e => .inl (.inl (s.2 e0 _ _ e3))⟩
theorem RepX.rep {b : Bool} {M H : Hp} {d : D} {v : V} (h : RepX b K M H d v) (n : ∀ xs, d ≠ .lst xs) : Rep K M d v := by
  rcases h with h | ⟨_, p, vs, xs, q, _⟩
  · exact h
  · exact absurd q (n xs)
theorem DW.mono {J : It} {ds : List D} {S S' : Hp → Hp → Prop} (h : DW K J ds S) (i : ∀ M H, S' M H → S M H) : DW K J ds S' := by
  obtain ⟨G, Y, w, h1, h2⟩ := h
  exact ⟨G, Y, w, fun M H s e => h1 M H (i M H s) e, fun k x M H H' hk s e y => h2 k x M H H' hk (i M H s) e y⟩
theorem dw_list {b : Bool} {M H : Hp} {ds : List D} {vs : List V} {p : Addr} (r : Reps K M ds vs) (h : ∀ M2 H2, StM b M H M2 H2 → Ex M2 H2 → SqL K H2 p vs) : DW K (Itl K p) ds (StM b M H) := by
  refine ⟨fun H => SqL K H p vs, YAt vs, by rw [r.length]; exact walk_list, fun M2 H2 s e => h M2 H2 s e, fun i x M2 H2 H3 hi s e y => ?_⟩
  obtain ⟨rfl, y⟩ := y
  obtain ⟨d, h1, h2⟩ := r.get' y
  exact ⟨M2, d, Xt.refl e, h1, h2.up s.1⟩
theorem dw_tup {b : Bool} {M H : Hp} {ds : List D} {vs : List V} {p : Addr} (r : Reps K M ds vs) (h : SqT K M p vs) : DW K (Itt K p) ds (StM b M H) := by
  refine ⟨fun H => SqT K H p vs, YAt vs, by rw [r.length]; exact walk_tup, fun M2 H2 s e => ex_t (s.1.trans e) h, fun i x M2 H2 H3 hi s e y => ?_⟩
  obtain ⟨rfl, y⟩ := y
  obtain ⟨d, h1, h2⟩ := r.get' y
  exact ⟨M2, d, Xt.refl e, h1, h2.up s.1⟩
theorem dw_str {S : Hp → Hp → Prop} {s : List Nat} (o : okS s) : DW K (Its ⟨s.toArray⟩) (s.map fun c => .str [c]) S := by
  refine ⟨fun _ => True, _, by rw [List.length_map]; exact walk_str, fun _ _ _ _ => trivial, fun i x M2 H2 H3 hi _ e y => ?_⟩
  obtain ⟨rfl, c, h1, rfl⟩ := y
  have h1 : s[i]? = some c := by simpa using h1
  refine ⟨M2, .str [c], Xt.refl e, by rw [List.getElem?_map, h1]; rfl, .str [c] fun z hz => ?_⟩
  rw [List.mem_singleton] at hz
  subst hz
  exact o _ (List.mem_of_getElem? h1)
theorem dw_range {S : Hp → Hp → Prop} {lo : Int} {m : Nat} : DW K (Itr lo m) ((List.range m).map fun (k : Nat) => .int (lo + k)) S := by
  refine ⟨fun _ => True, _, by rw [List.length_map, List.length_range]; exact walk_range, fun _ _ _ _ => trivial, fun i x M2 H2 H3 hi _ e y => ?_⟩
  obtain ⟨rfl, rfl⟩ := y
  have hi : i < m := by simpa using hi
  exact ⟨M2, .int (lo + i), Xt.refl e, by rw [List.getElem?_map, List.getElem?_range hi]; first | done | rfl, .int _⟩
theorem dw_rangeC {S : Hp → Hp → Prop} {lo c : Int} {m : Nat} : DW K (Itc lo c m) ((List.range m).map fun (k : Nat) => .int (lo + k * c)) S := by
  refine ⟨fun _ => True, _, by rw [List.length_map, List.length_range]; exact walk_rangeC, fun _ _ _ _ => trivial, fun i x M2 H2 H3 hi _ e y => ?_⟩
  obtain ⟨rfl, rfl⟩ := y
  have hi : i < m := by simpa using hi
  exact ⟨M2, .int (lo + i * c), Xt.refl e, by rw [List.getElem?_map, List.getElem?_range hi]; first | done | rfl, .int _⟩
theorem zipD_len : ∀ xs ys : List D, (zipD xs ys).length = min xs.length ys.length
  | [], ys => by cases ys <;> simp [zipD]
  | x :: xs, [] => by simp [zipD]
  | x :: xs, y :: ys => by
    show (zipD xs ys).length + 1 = min (xs.length + 1) (ys.length + 1)
    rw [zipD_len xs ys]; omega
theorem zipD_get : ∀ {xs ys : List D} {i : Nat} {a b : D}, xs[i]? = some a → ys[i]? = some b → (zipD xs ys)[i]? = some (.tup [a, b])
  | [], _, _, _, _, h, _ => by simp at h
  | x :: xs, [], _, _, _, _, h => by simp at h
  | x :: xs, y :: ys, 0, a, b, h, h2 => by simp at h h2; subst h; subst h2; rfl
  | x :: xs, y :: ys, i + 1, a, b, h, h2 => by
    show (zipD xs ys)[i]? = _
    exact zipD_get (by simpa using h) (by simpa using h2)
theorem enumD_len : ∀ (k : Nat) (xs : List D), (enumD k xs).length = xs.length
  | _, [] => rfl
  | k, x :: xs => by simp [enumD, enumD_len (k + 1) xs]
theorem enumD_get : ∀ {k : Nat} {xs : List D} {i : Nat} {a : D}, xs[i]? = some a → (enumD k xs)[i]? = some (.tup [.int ((k + i : Nat) : Int), a])
  | _, [], _, _, h => by simp at h
  | k, x :: xs, 0, a, h => by simp at h; subst h; rfl
  | k, x :: xs, i + 1, a, h => by
    show (enumD (k + 1) xs)[i]? = _
    rw [enumD_get (by simpa using h), show k + 1 + i = k + (i + 1) by omega]
theorem dw_pair {J : It} {m : Nat} {G : Hp → Prop} {fx fy : Nat → Option V} {gx gy : Nat → Option D} {S : Hp → Hp → Prop} {ds : List D} (w : Walk J ds.length G (YPair fx fy)) (hG : ∀ M H, S M H → Ex M H → G H)
    (hx : ∀ M H i v, S M H → Ex M H → fx i = some v → ∃ d, gx i = some d ∧ Rep K M d v) (hy : ∀ M H i v, S M H → Ex M H → fy i = some v → ∃ d, gy i = some d ∧ Rep K M d v) (hd : ∀ i a b, gx i = some a → gy i = some b → ds[i]? = some (.tup [a, b])) : DW K J ds S := by
  refine ⟨G, _, w, hG, fun i x M2 H2 H3 hi s e y => ?_⟩
  obtain ⟨T, a, b, rfl, nT, rfl, h1, h2⟩ := y
  obtain ⟨da, g1, r1⟩ := hx M2 H2 i a s e h1
  obtain ⟨db, g2, r2⟩ := hy M2 H2 i b s e h2
  have x1 := Xt.new (o := .tup [a, b]) e nT
  exact ⟨_, _, x1, hd i da db g1 g2, .tup (.inl (.inl upd_same)) (.cons (r1.up x1.m) (.cons (r2.up x1.m) .nil))⟩
theorem dw_zipL {b : Bool} {M H : Hp} {ds es : List D} {vs us : List V} {p q : Addr} (r : Reps K M ds vs) (h : ∀ M2 H2, StM b M H M2 H2 → Ex M2 H2 → SqL K H2 p vs) (r' : Reps K M es us) (h' : ∀ M2 H2, StM b M H M2 H2 → Ex M2 H2 → SqL K H2 q us) : DW K (Itz K p q) (zipD ds es) (StM b M H) := by
  refine dw_pair (m := 0) (G := fun H => SqL K H p vs ∧ SqL K H q us) (gx := fun i => ds[i]?) (gy := fun i => es[i]?) (walk_zip (xs := vs) (ys := us) (by rw [zipD_len, r.length, r'.length])) (fun M2 H2 s e => ⟨h M2 H2 s e, h' M2 H2 s e⟩) (fun M2 H2 i v s e hv => ?_) (fun M2 H2 i v s e hv => ?_) (fun i a b h1 h2 => zipD_get h1 h2)
  · obtain ⟨d, h1, h2⟩ := r.get' hv; exact ⟨d, h1, h2.up s.1⟩
  · obtain ⟨d, h1, h2⟩ := r'.get' hv; exact ⟨d, h1, h2.up s.1⟩
theorem walk_zipT {a b : Addr} {xs ys : List V} {m : Nat} (hn : m = min xs.length ys.length) : Walk (RZ.ItzT K a b) m (fun H => SqT K H a xs ∧ SqT K H b ys) (YPair (fun i => xs[i]?) (fun i => ys[i]?)) := by
  subst hn
  refine ⟨fun i _ hi q => ?_, fun _ q => ⟨xs, ys, q.1, q.2, by omega⟩, fun i H v H' _ q y => ?_⟩
  · have h1 : i < xs.length := by omega
    have h2 : i < ys.length := by omega
    exact ⟨xs, ys, xs[i], ys[i], q.1, q.2, by simp [h1], by simp [h2]⟩
  · obtain ⟨T, x, z, h1, h2, h3, h4, h5⟩ := y
    exact ⟨T, x, z, h1, h2, h3, h4 xs q.1, h5 ys q.2⟩
theorem dw_zipT {b : Bool} {M H : Hp} {ds es : List D} {vs us : List V} {p q : Addr} (r : Reps K M ds vs) (h : SqT K M p vs) (r' : Reps K M es us) (h' : SqT K M q us) : DW K (RZ.ItzT K p q) (zipD ds es) (StM b M H) := by
  refine dw_pair (m := 0) (G := fun H => SqT K H p vs ∧ SqT K H q us) (gx := fun i => ds[i]?) (gy := fun i => es[i]?) (walk_zipT (xs := vs) (ys := us) (by rw [zipD_len, r.length, r'.length])) (fun M2 H2 s e => ⟨ex_t (s.1.trans e) h, ex_t (s.1.trans e) h'⟩) (fun M2 H2 i v s e hv => ?_) (fun M2 H2 i v s e hv => ?_) (fun i a b h1 h2 => zipD_get h1 h2)
  · obtain ⟨d, h1, h2⟩ := r.get' hv; exact ⟨d, h1, h2.up s.1⟩
  · obtain ⟨d, h1, h2⟩ := r'.get' hv; exact ⟨d, h1, h2.up s.1⟩
theorem dw_enumL {b : Bool} {M H : Hp} {ds : List D} {vs : List V} {p : Addr} (r : Reps K M ds vs) (h : ∀ M2 H2, StM b M H M2 H2 → Ex M2 H2 → SqL K H2 p vs) : DW K (Ite K p) (enumD 0 ds) (StM b M H) := by
  refine dw_pair (m := 0) (G := fun H => SqL K H p vs) (gx := fun i => some (.int (i : Nat))) (gy := fun i => ds[i]?) (by rw [enumD_len, r.length]; exact walk_enum (xs := vs)) (fun M2 H2 s e => h M2 H2 s e) (fun M2 H2 i v s e hv => ?_) (fun M2 H2 i v s e hv => ?_) (fun i a b h1 h2 => ?_)
  · cases hv; exact ⟨_, rfl, .int _⟩
  · obtain ⟨d, h1, h2⟩ := r.get' hv; exact ⟨d, h1, h2.up s.1⟩
  · cases h1
    rw [enumD_get h2, Nat.zero_add]
theorem dw_zipS {S : Hp → Hp → Prop} {s t : List Nat} (o1 : okS s) (o2 : okS t) : DW K (Its2 ⟨s.toArray⟩ ⟨t.toArray⟩) (zipD (s.map fun c => .str [c]) (t.map fun c => .str [c])) S := by
  have one : ∀ {s : List Nat} (M : Hp) (i : Nat) (v : V), okS s → (s[i]?.map fun c => V.str ⟨#[c]⟩) = some v → ∃ d, (s.map fun c => D.str [c])[i]? = some d ∧ Rep K M d v := fun {s} M i v o h => by
    cases hc : s[i]? with
    | none => rw [hc] at h; cases h
    | some c =>
      rw [hc] at h
      cases h
      refine ⟨.str [c], by rw [List.getElem?_map, hc]; rfl, .str [c] fun z hz => ?_⟩
      rw [List.mem_singleton] at hz
      subst hz
      exact o _ (List.mem_of_getElem? hc)
  refine dw_pair (m := 0) (G := fun _ => True) (fx := fun i => s[i]?.map fun c => V.str ⟨#[c]⟩) (fy := fun i => t[i]?.map fun c => V.str ⟨#[c]⟩) (gx := fun i => (s.map fun c => D.str [c])[i]?) (gy := fun i => (t.map fun c => D.str [c])[i]?) ?_ (fun _ _ _ _ => trivial) (fun M _ i v _ _ h => one M i v o1 h) (fun M _ i v _ _ h => one M i v o2 h) fun i a b h1 h2 => zipD_get h1 h2
  have hn : (zipD (s.map fun c => D.str [c]) (t.map fun c => D.str [c])).length = min s.length t.length := by rw [zipD_len, List.length_map, List.length_map]
  rw [hn]
  refine ⟨fun i _ hi _ => hi, fun _ _ => rfl, fun i H v H' _ _ y => ?_⟩
  obtain ⟨T, c, d, h1, h2, h3, h4, h5⟩ := y
  have h4 : s[i]? = some c := by simpa using h4
  have h5 : t[i]? = some d := by simpa using h5
  exact ⟨T, _, _, h1, h2, h3, congrArg (Option.map fun c => V.str ⟨#[c]⟩) h4, congrArg (Option.map fun c => V.str ⟨#[c]⟩) h5⟩
theorem dw_enumT {b : Bool} {M H : Hp} {ds : List D} {vs : List V} {p : Addr} (r : Reps K M ds vs) (h : SqT K M p vs) : DW K (ItEt K p) (enumD 0 ds) (StM b M H) := by
  refine dw_pair (m := 0) (G := fun H => SqT K H p vs) (fx := fun i => some (.int (i : Nat))) (fy := fun i => vs[i]?) (gx := fun i => some (.int (i : Nat))) (gy := fun i => ds[i]?) ?_ (fun M2 H2 s e => ex_t (s.1.trans e) h) (fun M2 H2 i v s e hv => ?_) (fun M2 H2 i v s e hv => ?_) (fun i a b h1 h2 => ?_)
  · rw [enumD_len, r.length]
    refine ⟨fun i H hi q => ⟨vs, _, q, List.getElem?_eq_getElem hi⟩, fun H q => ⟨vs, q, rfl⟩, fun i H v H' _ q y => ?_⟩
    obtain ⟨T, x, h1, h2, h3, h4⟩ := y
    exact ⟨T, _, x, h1, h2, h3, rfl, h4 vs q⟩
  · cases hv; exact ⟨_, rfl, .int _⟩
  · obtain ⟨d, h1, h2⟩ := r.get' hv; exact ⟨d, h1, h2.up s.1⟩
  · cases h1
    rw [enumD_get h2, Nat.zero_add]

def tIx (K : PySem.W.Frag) (b : Bool) (co : En → R (List D)) : TI := fun σ H R => ∃ H0 M δ ds, OKs K H0 M H σ δ ∧ co δ = .ok ds ∧ ∀ M' H' J, Xt M H M' H' → DW K J ds (StM b M' H') → R J H'
abbrev evIl (L : Lw) (n : Nat) (m : Md) (e : E) : En → R (List D) := evI (run L.Γ L.G n) L.G m e
theorem evI_plain {m : Md} {e : E} (h : plainI e = true) (δ : En) : evIl L n m e δ = (evl L n m e δ).bind itemsD := by
  cases e <;> first | rfl | cases h
theorem px_e {tg : Expr} {e : E} {x : Expr} (b : Bool) (h : SX L n X e x) (hp : plainI e = true) : PI X tg x (tIx X.K b (evIl L n (mdB b) e)) :=
  (pi_any (h.x b)).imp fun σ H Rr ⟨H0, M, δ, ds, o, e1, q⟩ => by
    rw [evI_plain hp] at e1
    obtain ⟨d, h1, h2⟩ := R.bind_inv e1
    refine ⟨H0, M, δ, d, o, h1, fun M1 H1 v x1 r1 => ?_⟩
    cases d with
    | lst xs =>
      cases h2
      obtain ⟨p, vs, rfl, r, st⟩ := r1.lst
      exact .inl ⟨p, vs, rfl, (st M1 H1 ⟨Evl.Ex.refl _, fun _ => Evl.Ex.refl _⟩ x1.mh), q M1 H1 _ x1 (dw_list r st)⟩
    | tup xs =>
      cases h2
      cases r1.rep fun _ z => nomatch z with
      | tup a r => exact .inr (.inl ⟨_, _, rfl, ex_t x1.mh a, q M1 H1 _ x1 (dw_tup r a)⟩)
    | str s =>
      cases h2
      obtain ⟨rfl, o'⟩ := (r1.rep fun _ z => nomatch z).strI
      exact .inr (.inr ⟨_, rfl, q M1 H1 _ x1 (dw_str o')⟩)
    | _ => cases h2
variable {N : List Str} {sc : Scope}
theorem px_rng (g : Good L n N sc X) {tg : Expr} {as : List E} {y : Str} {xs : List Expr} {p pos : Pos} (b : Bool) (h2 : bnB L.nm sc y "range" = true) (hs : SL L n X as xs) (hm : mEs L.nm N sc as xs = true) : PI X tg (.Call (.Name y p) xs [] pos) (tIx X.K b (evIl L n (mdB b) (.rng as))) := by
  obtain ⟨rfl, v1, v2, v3, v4⟩ := bnB_ok h2
  have vac : (∀ ds, rngD ds = .stuck ∨ ds.length ≠ as.length) → PI X tg (.Call (.Name "range" p) xs [] pos) (tIx X.K b (evIl L n (mdB b) (.rng as))) := fun hv => ⟨fun _ _ _ _ _ _ ⟨_, _, δ, _, _, e, _⟩ => by
    obtain ⟨ds, e1, e2⟩ := R.bind_inv e
    have hl : ∀ (as : List E) (ds : List D), evsl L n as δ = .ok ds → ds.length = as.length := by
      intro as
      induction as with
      | nil => intro ds h; cases h; rfl
      | cons a as ih =>
        intro ds h
        obtain ⟨x, _, h⟩ := R.bind_inv h
        obtain ⟨xs, h1, h⟩ := R.bind_inv h
        cases h
        simp [ih xs h1]
    rcases hv ds with z | z
    · rw [z] at e2; cases e2
    · exact absurd (hl as ds e1) z⟩
  cases as with
  | nil =>
    refine vac fun ds => ?_
    cases ds with
    | nil => exact .inl rfl
    | cons a ds => exact .inr (by simp)
  | cons a as =>
    obtain ⟨y1, ys1, rfl, m1, m2⟩ := mEs_cons hm
    cases as with
    | nil =>
      have := mEs_nil m2
      subst this
      refine (pi_range1 (g.gl v1) (g.fs.blts _ v3) hs.av (star_ns (mE_ns m1) _ _)).imp fun σ H Rr ⟨H0, M, δ, ds, o, e1, q⟩ => ?_
      obtain ⟨xs, e2, e3⟩ := R.bind_inv e1
      refine ⟨H0, M, δ, xs, o, e2, fun M1 H1 vs x1 r1 => ?_⟩
      cases xs with
      | nil => cases e3
      | cons d xs =>
        cases d <;> first | (cases e3; done) | skip
        · cases xs with
          | nil =>
            rename_i j
            obtain ⟨hj, e4⟩ := req_inv e3
            cases e4
            cases r1 with
            | cons a1 b1 =>
              cases a1; cases b1
              refine ⟨j, rfl, by omega, by omega, q M1 H1 _ x1 ?_⟩
              have := dw_range (K := X.K) (S := StM b M1 H1) (lo := 0) (m := j.toNat)
              simpa using this
          | cons d2 xs =>
            exfalso
            replace e2 : ((evl L n .val a δ).bind fun x => (R.ok []).bind fun xs => R.ok (x :: xs)) = .ok (D.int _ :: d2 :: xs) := e2
            obtain ⟨x, _, e6⟩ := R.bind_inv e2
            cases e6
    | cons a2 as =>
      obtain ⟨y2, ys2, rfl, m3, m4⟩ := mEs_cons m2
      cases as with
      | nil =>
        have := mEs_nil m4
        subst this
        refine (pi_range2 (g.gl v1) (g.fs.blts _ v3) hs.av (by rw [star_ns (mE_ns m1), star_ns (mE_ns m3)]; rfl) (star_ns (mE_ns m3) _ _)).imp fun σ H Rr ⟨H0, M, δ, ds, o, e1, q⟩ => ?_
        obtain ⟨xs, e2, e3⟩ := R.bind_inv e1
        refine ⟨H0, M, δ, xs, o, e2, fun M1 H1 vs x1 r1 => ?_⟩
        replace e2 : ((evl L n .val a δ).bind fun x => ((evl L n .val a2 δ).bind fun x => (R.ok []).bind fun xs => R.ok (x :: xs)).bind fun xs => R.ok (x :: xs)) = .ok xs := e2
        obtain ⟨d1, hq1, e6⟩ := R.bind_inv e2
        obtain ⟨zs, e7, e8⟩ := R.bind_inv e6
        obtain ⟨d2, hq2, e9⟩ := R.bind_inv e7
        cases e9; cases e8
        cases d1 <;> first | (cases e3; done) | skip
        cases d2 <;> first | (cases e3; done) | skip
        rename_i i j
        obtain ⟨hj, e4⟩ := req_inv e3
        cases e4
        cases r1 with
        | cons a1 b1 =>
          cases a1
          cases b1 with
          | cons a1 b1 =>
            cases a1; cases b1
            exact ⟨i, j, rfl, ⟨hj.1.1, hj.1.2, hj.2.1, hj.2.2⟩, q M1 H1 _ x1 dw_range⟩
      | cons a3 as =>
        obtain ⟨y3, ys3, rfl, m5, m6⟩ := mEs_cons m4
        cases as with
        | nil =>
          have := mEs_nil m6
          subst this
          refine (pi_range3 (g.gl v1) (g.fs.blts _ v3) hs.av (by rw [star_ns (mE_ns m1), star_ns (mE_ns m3), star_ns (mE_ns m5)] <;> rfl) (by rw [star_ns (mE_ns m3), star_ns (mE_ns m5)] <;> rfl)).imp fun σ H Rr ⟨H0, M, δ, ds, o, e1, q⟩ => ?_
          obtain ⟨xs, e2, e3⟩ := R.bind_inv e1
          refine ⟨H0, M, δ, xs, o, e2, fun M1 H1 vs x1 r1 => ?_⟩
          replace e2 : ((evl L n .val a δ).bind fun x => ((evl L n .val a2 δ).bind fun x => ((evl L n .val a3 δ).bind fun x => (R.ok []).bind fun xs => R.ok (x :: xs)).bind fun xs => R.ok (x :: xs)).bind fun xs => R.ok (x :: xs)) = .ok xs := e2
          obtain ⟨d1, hq1, e6⟩ := R.bind_inv e2
          obtain ⟨zs, e7, e8⟩ := R.bind_inv e6
          obtain ⟨d2, hq2, e9⟩ := R.bind_inv e7
          obtain ⟨ws, e10, e11⟩ := R.bind_inv e9
          obtain ⟨d3, hq3, e12⟩ := R.bind_inv e10
          cases e12; cases e11; cases e8
          cases d1 <;> first | (cases e3; done) | skip
          cases d2 <;> first | (cases e3; done) | skip
          cases d3 <;> first | (cases e3; done) | skip
          rename_i i j c
          obtain ⟨⟨k1, k2, k3⟩, e4⟩ := req_inv e3
          cases e4
          cases r1 with
          | cons a1 b1 =>
            cases a1
            cases b1 with
            | cons a1 b1 =>
              cases a1
              cases b1 with
              | cons a1 b1 =>
                cases a1; cases b1
                exact ⟨i, j, c, _, rfl, ⟨k1, k2, k3, rangeSize_toNat i j c⟩, q M1 H1 _ x1 dw_rangeC⟩
        | cons a4 as =>
          refine vac fun ds => ?_
          cases ds with
          | nil => exact .inl rfl
          | cons d ds =>
            cases ds with
            | nil => exact .inr (by simp)
            | cons d2 ds =>
              cases ds with
              | nil => exact .inr (by simp)
              | cons d3 ds =>
                cases ds with
                | nil => exact .inr (by simp)
                | cons d4 ds => left; cases d <;> first | rfl | (cases d2 <;> first | rfl | (cases d3 <;> rfl))
theorem px_zip (g : Good L n N sc X) {es : List Expr} {k : Nat} {tp : Pos} {a c : E} {y : Str} {l r : Expr} {p pos : Pos} (b : Bool) (h2 : bnB L.nm sc y "zip" = true) (ha : SX L n X a l) (hc : SX L n X c r) (n1 : notStar l = true) (n2 : notStar r = true) :
    PI X (.Tuple es k tp) (.Call (.Name y p) [l, r] [] pos) (tIx X.K b (evIl L n (mdB b) (.zip a c))) := by
  obtain ⟨rfl, v1, v2, v3, v4⟩ := bnB_ok h2
  have A := pa_cons (ha.x b) (pa_cons (hc.x b) pa_nil (star_ns n2 _ _)) (star_ns n1 _ _)
  refine (pi_or (RZ.pi_zipA (g.gl v1) (g.fs.blts _ v3) A (star_ns n1 _ _) (by rw [star_ns n2]; rfl)) (pi_zip2 (g.gl v1) (g.fs.blts _ v3) A (star_ns n1 _ _) (by rw [star_ns n2]; rfl))).imp fun σ H Rr ⟨H0, M, δ, ds, o, e1, q⟩ => ?_
  obtain ⟨x, e2, e3⟩ := R.bind_inv e1
  obtain ⟨z, e4, e5⟩ := R.bind_inv e3
  cases x <;> first | (cases e5; done) | skip
  case str s =>
    cases z <;> first | (cases e5; done) | skip
    cases e5
    refine .inr ⟨H0, M, δ, _, o, e2, fun M1 H1 v x1 r1 => ⟨H0, M1, δ, _, o.up x1, e4, fun M2 H2 u x2 r2 => ?_⟩⟩
    have r1 := r1.up x2
    cases r1.rep (fun _ z => nomatch z) with
    | str _ oa =>
      cases r2.rep (fun _ z => nomatch z) with
      | str _ ob => exact ⟨_, _, rfl, q M2 H2 _ (x1.trans x2) (dw_zipS oa ob)⟩
  case tup =>
    refine .inl ⟨H0, M, δ, _, o, e2, fun M1 H1 v x1 r1 => ⟨H0, M1, δ, z, o.up x1, e4, fun M2 H2 u x2 r2 => ?_⟩⟩
    have r1 := r1.up x2
    cases z <;> first | (cases e5; done) | skip
    cases e5
    cases r1.rep (fun _ z => nomatch z) with
    | tup sa ra =>
      cases r2.rep (fun _ z => nomatch z) with
      | tup sb rb => exact ⟨_, _, _, _, rfl, .inr ⟨ex_t x2.mh sa, ex_t x2.mh sb, q M2 H2 _ (x1.trans x2) (dw_zipT ra sa rb sb)⟩⟩
  case lst =>
    refine .inl ⟨H0, M, δ, _, o, e2, fun M1 H1 v x1 r1 => ⟨H0, M1, δ, z, o.up x1, e4, fun M2 H2 u x2 r2 => ?_⟩⟩
    have r1 := r1.up x2
    have st : StM b M2 H2 M2 H2 := ⟨Evl.Ex.refl _, fun _ => Evl.Ex.refl _⟩
    cases z <;> first | (cases e5; done) | skip
    cases e5
    obtain ⟨p1, w1, rfl, ra, sa⟩ := r1.lst
    obtain ⟨p2, w2, rfl, rb, sb⟩ := r2.lst
    exact ⟨_, _, w1, w2, rfl, .inl ⟨sa _ _ st x2.mh, sb _ _ st x2.mh, q M2 H2 _ (x1.trans x2) (dw_zipL ra sa rb sb)⟩⟩
theorem px_enum (g : Good L n N sc X) {es : List Expr} {k : Nat} {tp : Pos} {a : E} {y : Str} {l : Expr} {p pos : Pos} (b : Bool) (h2 : bnB L.nm sc y "enumerate" = true) (ha : SX L n X a l) (n1 : notStar l = true) :
    PI X (.Tuple es k tp) (.Call (.Name y p) [l] [] pos) (tIx X.K b (evIl L n (mdB b) (.enum a))) := by
  obtain ⟨rfl, v1, v2, v3, v4⟩ := bnB_ok h2
  have A := pa_cons (ha.x b) pa_nil (star_ns n1 _ _)
  refine (pi_or (pi_enum (g.gl v1) (g.fs.blts _ v3) A (star_ns n1 _ _)) (pi_enumT (g.gl v1) (g.fs.blts _ v3) A (star_ns n1 _ _))).imp fun σ H Rr ⟨H0, M, δ, ds, o, e1, q⟩ => ?_
  obtain ⟨x, e2, e3⟩ := R.bind_inv e1
  cases x <;> first | (cases e3; done) | skip
  case tup =>
    cases e3
    refine .inr ⟨H0, M, δ, _, o, e2, fun M1 H1 v x1 r1 => ?_⟩
    cases r1.rep (fun _ z => nomatch z) with
    | tup sa ra => exact ⟨_, _, rfl, ex_t x1.mh sa, q M1 H1 _ x1 (dw_enumT ra sa)⟩
  case lst =>
    cases e3
    refine .inl ⟨H0, M, δ, _, o, e2, fun M1 H1 v x1 r1 => ?_⟩
    obtain ⟨p1, w1, rfl, ra, sa⟩ := r1.lst
    exact ⟨_, w1, rfl, (sa _ _ ⟨Evl.Ex.refl _, fun _ => Evl.Ex.refl _⟩ x1.mh), q M1 H1 _ x1 (dw_enumL ra sa)⟩
end
end Fw

/-! comprehensions; every expression -/
namespace Fw
open PySem PySem.Spec PyProof.Rows L2
open Evl (Ex ex_rd ex_l ex_t)

theorem wipe_at (σ : L2.St) : ∀ (ws : List Nat) (i : Nat), (wipe σ ws)[i]? = if i ∈ ws then (σ[i]?).map (fun _ => none) else σ[i]?
  | [], i => by simp [wipe]
  | w :: ws, i => by
    unfold wipe
    by_cases hi : i = w
    · subst hi
      rw [if_pos (List.mem_cons_self ..)]
      by_cases hl : i < σ.length
      · rw [List.getElem?_set_self (by rw [wipe_length]; exact hl), List.getElem?_eq_getElem hl]; rfl
      · rw [List.getElem?_eq_none (by rw [List.length_set, wipe_length]; omega), List.getElem?_eq_none (by omega)]; rfl
    · rw [List.getElem?_set_ne (Ne.symm hi), wipe_at σ ws i]
      by_cases h : i ∈ ws
      · rw [if_pos h, if_pos (List.mem_cons_of_mem _ h)]
      · rw [if_neg h, if_neg (fun z => (List.mem_cons.mp z).elim hi h)]
theorem wipe_set {σ : L2.St} {t : Nat} {v : Option V} {ws : List Nat} (h : t ∈ ws) : wipe (σ.set t v) ws = wipe σ ws := by
  refine List.ext_getElem? fun i => ?_
  rw [wipe_at, wipe_at]
  by_cases hi : i = t
  · subst hi
    rw [if_pos h, if_pos h]
    by_cases hl : i < σ.length
    · rw [List.getElem?_set_self hl, List.getElem?_eq_getElem hl]; rfl
    · rw [List.getElem?_eq_none (by rw [List.length_set]; omega), List.getElem?_eq_none (by omega)]
  · rw [List.getElem?_set_ne (Ne.symm hi)]
theorem wipe_wipe (σ : L2.St) (ws : List Nat) : wipe (wipe σ ws) ws = wipe σ ws := by
  refine List.ext_getElem? fun i => ?_
  rw [wipe_at, wipe_at]
  by_cases h : i ∈ ws
  · rw [if_pos h, if_pos h]; cases σ[i]? <;> rfl
  · rw [if_neg h, if_neg h]
def gN (K : PySem.W.Frag) : List Nat → TG
  | [t] => gName t
  | [t, u] => gTup K 2 (gCons (gName t) (gCons (gName u) gNil))
  | _ => fun _ _ _ _ => False
section
variable {K : PySem.W.Frag}
theorem lay_ok {ts : List Nat} {d : D} {δ δ' : En} {H0 M H : Hp} {σ : L2.St} {v : V} (h : layN ts d δ = .ok δ') (o : OKs K H0 M H σ δ) (r : Rep K M d v) {Q : L2.St → Hp → Prop} (q : ∀ σ', OKs K H0 M H σ' δ' → (∀ ws, (∀ t ∈ ts, t ∈ ws) → wipe σ' ws = wipe σ ws) → Q σ' H) : gN K ts v σ H Q := by
  cases ts with
  | nil => cases d <;> cases h
  | cons t ts =>
    cases ts with
    | nil =>
      cases h
      exact q _ (o.set r) fun ws hw => wipe_set (hw t (List.mem_cons_self ..))
    | cons u ts =>
      cases ts with
      | cons _ _ => cases d <;> cases h
      | nil =>
        cases d <;> first | (cases h; done) | skip
        rename_i xs
        cases xs with
        | nil => cases h
        | cons x xs =>
          cases xs with
          | nil => cases h
          | cons y xs =>
            cases xs with
            | cons _ _ => cases h
            | nil =>
              cases h
              cases r with
              | tup sa ra =>
                cases ra with
                | cons rx ra =>
                  cases ra with
                  | cons ry ra =>
                    cases ra
                    exact ⟨_, _, rfl, ex_t o.ex sa, rfl, _, _, rfl, _, _, rfl, rfl, q _ ((o.set rx).set ry) fun ws hw => by
                      rw [wipe_set (hw u (by simp)), wipe_set (hw t (by simp))]⟩
/-- the clauses of a comprehension, turn by turn -/
theorem lc_turns {wi : TI} {tt : TT} {te : TE} {ws ts : List Nat} {cs : En → R (List D)} {cc ce : En → R D}
    (hi : ∀ σ H Rr, tIx K true cs σ H Rr → wi σ H Rr) (ht : ∀ σ H Q, tK K cc σ H Q → tt σ H Q) (he : ∀ σ H Q, tC K ce σ H Q → te σ H Q) (hts : ∀ t ∈ ts, t ∈ ws) :
    ∀ σ H Q, tL K (fun δ => (cs δ).bind fun xs => (lcL (fun x => layN ts x (wipeE δ ws)) cc ce xs).bind fun ys => req (ys.length < LIM) (.ok ys)) σ H Q → tLc wi (gN K ts) tt te ws σ H Q := by
  intro σ H Q ⟨H0, M, δ, zs, o, e, q⟩
  obtain ⟨xs, e1, e2⟩ := R.bind_inv e
  obtain ⟨ys, e3, e4⟩ := R.bind_inv e2
  obtain ⟨hz, e5⟩ := req_inv e4
  cases e5
  refine hi σ H _ ⟨H0, M, δ, xs, o, e1, fun M1 H1 J x1 dw Dl hD => ?_⟩
  obtain ⟨G, Y, w, hG, hY⟩ := dw
  have hM1 : M1 Dl = none := Ex.none_of x1.mh hD
  refine lc_it w (fun i H2 => ∃ M2 acc as bs, Xt M1 H1 M2 H2 ∧ M2 Dl = none ∧ H2 Dl = some (.lst acc) ∧ Reps K M2 as acc ∧ lcL (fun x => layN ts x (wipeE δ ws)) cc ce (xs.drop i) = .ok bs ∧ zs = as ++ bs)
    ⟨M1, [], [], zs, Xt.lay x1.mh hD, hM1, upd_same, .nil, e3, rfl⟩ (fun i H2 _ ⟨M2, acc, as, bs, x2, _⟩ => hG M2 H2 ⟨x2.m, fun _ => x2.h⟩ x2.mh) (fun i x H2 H3 hlt ⟨M2, acc, as, bs, x2, m2, h2, r2, e2, ez⟩ y => ?_) (fun H2 ⟨M2, acc, as, bs, x2, m2, h2, r2, e2, ez⟩ => ?_)
  · obtain ⟨M3, d, x3, hd, r3⟩ := hY i x M2 H2 H3 hlt ⟨x2.m, fun _ => x2.h⟩ x2.mh y
    have hdr : xs.drop i = d :: xs.drop (i + 1) := by
      rw [List.drop_eq_getElem_cons hlt]
      congr 1
      rw [List.getElem?_eq_getElem hlt] at hd
      exact Option.some.inj hd
    rw [hdr] at e2
    obtain ⟨δ1, l1, e2⟩ := R.bind_inv e2
    obtain ⟨b, c1, e2⟩ := R.bind_inv e2
    have x13 := x1.trans (x2.trans x3)
    have m3 : M3 Dl = none := x3.fr Dl m2 (by rw [h2]; exact fun z => nomatch z)
    have h3 : H3 Dl = some (.lst acc) := x3.h _ _ h2
    refine lay_ok l1 ((o.up x13).wiped ws) r3 fun σ1 o1 hw => ⟨(hw ws hts).trans (wipe_wipe σ ws), ?_⟩
    cases b <;> first | (cases e2; done) | skip
    rename_i b
    refine ht σ1 H3 _ ⟨H0, M3, δ1, b, o1, c1, fun M4 H4 x4 => ?_⟩
    have m4 : M4 Dl = none := x4.fr Dl m3 (by rw [h3]; exact fun z => nomatch z)
    have h4 : H4 Dl = some (.lst acc) := x4.h _ _ h3
    have xa := (x2.trans x3).trans x4
    cases b with
    | false =>
      exact iteF ⟨M4, acc, as, bs, xa, m4, h4, r2.up (x3.m.trans x4.m), e2, ez⟩
    | true =>
      refine iteT ?_
      obtain ⟨y1, c2, e2⟩ := R.bind_inv e2
      obtain ⟨ys1, c3, e2⟩ := R.bind_inv e2
      cases e2
      refine he σ1 H4 _ ⟨H0, M4, δ1, y1, o1.up x4, c2, fun M5 H5 v x5 r5 => ?_⟩
      have m5 : M5 Dl = none := x5.fr Dl m4 (by rw [h4]; exact fun z => nomatch z)
      have h5 : H5 Dl = some (.lst acc) := x5.h _ _ h4
      have x15 := xa.trans x5
      have ra : Reps K M5 as acc := r2.up ((x3.m.trans x4.m).trans x5.m)
      refine ⟨acc, h5, ?_, M5, acc ++ [v], as ++ [y1], ys1, ⟨x15.m, fun b u hb => ?_, fun b u hb => ?_, x15.fr⟩, m5, upd_same, ra.snoc r5, c3, by rw [ez, List.append_assoc]; rfl⟩
      · have := ra.length
        have hl : zs.length = as.length + (ys1.length + 1) := by rw [ez, List.length_append]; rfl
        rw [← lim_eq]
        omega
      · rw [upd_ne (ne_of_none hb hD)]; exact x15.h b u hb
      · rw [upd_ne (ne_of_none hb m5)]; exact x15.mh b u hb
  · have hn : xs.drop xs.length = [] := List.drop_length
    rw [hn] at e2
    cases e2
    rw [List.append_nil] at ez
    subst ez
    exact q M2 H2 Dl acc (x1.trans x2) (Ex.none_of x1.h hD) m2 h2 r2
end
section
variable {L : Lw} {n : Nat} {N : List Str} {sc : Scope} {X : Cx}
abbrev evCl (L : Lw) (n : Nat) (c : E) : En → R D := evC (run L.Γ L.G n) L.G c
theorem Good.blk (g : Good L n N sc X) (s : Shared) (H : Hp) (scope : Scope) (C : Addr) (cl : List (Str × Addr)) (fp : List Addr) : Good L n N (relS scope sc) (X.blk s H scope (compEnvC scope cl C X.env) fp) :=
  ⟨g.fs, g.rmh, g.room, g.room2, g.calm, g.hN, g.nd, by show relS scope X.env.scope = _; rw [g.hsc]⟩
theorem tg_ok (g : Good L n N sc X) {raw : Scope} {t : Nat} {e : Expr} (h : tgB N raw (relS raw sc) t e = true) (s : Shared) (H : Hp) (C : Addr) (cl : List (Str × Addr)) (fp : List Addr) : PG (X.blk s H raw (compEnvC raw cl C X.env) fp) e (gName t) := by
  have g2 := g.blk s H raw C cl fp
  cases e <;> first | (cases h; done) | skip
  rename_i x p
  unfold tgB at h
  simp only [Bool.and_eq_true, Bool.or_eq_true, decide_eq_true_eq] at h
  obtain ⟨⟨h1, h2⟩, h3⟩ := h
  refine pg_name (by rw [g2.hN]; exact g2.nd) (by rw [g2.hN]; exact h1) (by rw [g2.hsc]; exact locB_ok h2) ?_
  rcases h3 with h3 | h3
  · left
    show (raw.names.lookup x == some NameKind.cell) = true
    rw [h3]; rfl
  · right
    rw [g2.hsc]; exact h3
theorem tgs_ok (g : Good L n N sc X) (h0 : L.nm.hot = false) {raw : Scope} {ts : List Nat} {e : Expr} (h : tgsB N raw (relS raw sc) ts e = true) (s : Shared) (H : Hp) (C : Addr) (cl : List (Str × Addr)) (fp : List Addr) : PG (X.blk s H raw (compEnvC raw cl C X.env) fp) e (gN X.K ts) := by
  cases ts with
  | nil => cases h
  | cons t ts =>
    cases ts with
    | nil => exact tg_ok g h s H C cl fp
    | cons u ts =>
      cases ts with
      | cons _ _ => cases h
      | nil =>
        cases e <;> first | (cases h; done) | skip
        rename_i es k p
        cases es with
        | nil => cases h
        | cons a es =>
          cases es with
          | nil => cases h
          | cons b es =>
            cases es with
            | cons _ _ => cases h
            | nil =>
              have h : (tgB N raw (relS raw sc) t a && tgB N raw (relS raw sc) u b) = true := h
              rw [Bool.and_eq_true] at h
              have ga := tg_ok g h.1 s H C cl fp
              have gb := tg_ok g h.2 s H C cl fp
              have na : ∀ zs env, assignEach (a :: zs) env = (false, assign a env) :: assignEach zs env := by
                intro zs env
                have := h.1
                cases a <;> first | rfl | cases this
              have nb : ∀ zs env, assignEach (b :: zs) env = (false, assign b env) :: assignEach zs env := by
                intro zs env
                have := h.2
                cases b <;> first | rfl | cases this
              exact pg_tup (g.calm h0) (pgs_cons ga (pgs_cons gb pgs_nil (by rw [nb]; rfl)) (by rw [na]; rfl)) (by rw [na, nb]; rfl) (by rw [na, nb]; rfl)
theorem set_ok {it : Expr} {env : Env} (h : ∀ es k p, it ≠ .Set es k p) : ∀ x, foldedSetIterable it env x = pure x := by
  intro x
  cases it <;> first | rfl | exact absurd rfl (h _ _ _)
theorem noSet {L' : Nm} {N' : List Str} {sc' : Scope} {e : E} {x : Expr} (h : mE L' N' sc' e x = true) : ∀ es k p, x ≠ .Set es k p := by
  intro es k p z
  subst z
  cases e with
  | blt f as => cases f <;> simp [mE] at h
  | _ => simp [mE] at h
/-- a comprehension, by its parts: the new list -/
theorem pe_lcL (g : Good L n N sc X) (h0 : L.nm.hot = false) {ws ts : List Nat} {src c e : E} {elt tg it : Expr} {ifs : List Expr} {scope : Scope} {pos : Pos} (h1 : blkC N sc scope (ownOf N ws) = true) (h2 : (ownOf N ws).map (·.2) = ws) (h3 : ts.all (fun t => decide (t ∈ ws)) = true)
    (h4 : tgsB N scope (relS scope sc) ts tg = true) (hi : PI X tg it (tIx X.K true (evIl L n .bor src))) (hset : ∀ es k p, it ≠ .Set es k p)
    (hc : ∀ Y, Good L n N (relS scope sc) Y → PTs Y ifs (tK Y.K (evCl L n c))) (he : ∀ Y, Good L n N (relS scope sc) Y → PE Y elt (tC Y.K (evl L n .val e))) :
    PE X (.ListComp elt [⟨tg, it, ifs, 0⟩] scope pos) (tL X.K (fun δ => (evIl L n .bor src δ).bind fun xs => (lcL (fun x => layN ts x (wipeE δ ws)) (evCl L n c) (evl L n .val e) xs).bind fun ys => req (ys.length < LIM) (.ok ys))) := by
  have ok := blkOk_by (N := X.N) (sc := X.env.scope) (scope := scope) (own := ownOf N ws) (by rw [g.hN, g.hsc]; exact h1)
  have P := pe_lc (g := gN X.K ts) (tt := tK X.K (evCl L n c)) (te := tC X.K (evl L n .val e)) (pos := pos) (g.calm h0) (by rw [g.hN]; exact g.nd) hi ok (fun s H C cl fp => tgs_ok g h0 h4 s H C cl fp) (fun s H C cl fp => hc _ (g.blk s H scope C cl fp)) (fun s H C cl fp => he _ (g.blk s H scope C cl fp)) (set_ok hset)
  rw [h2] at P
  exact P.imp (lc_turns (fun _ _ _ h => h) (fun _ _ _ h => h) (fun _ _ _ h => h) fun t ht => of_decide_eq_true (List.all_eq_true.mp h3 t ht))
theorem lc_eq (ws ts : List Nat) (src c e : E) (m : Md) (δ : En) : evl L n m (.lc ws ts src c e) δ = (evIl L n .bor src δ).bind fun xs => (lcL (fun x => layN ts x (wipeE δ ws)) (evCl L n c) (evl L n .val e) xs).bind fun ys => req (ys.length < LIM) (post m (.lst ys)) := by
  cases src <;> cases c <;> rfl
theorem sx_lc (g : Good L n N sc X) {ws ts : List Nat} {src c e : E} {x : Expr} (P : PE X x (tL X.K (fun δ => (evIl L n .bor src δ).bind fun xs => (lcL (fun x => layN ts x (wipeE δ ws)) (evCl L n c) (evl L n .val e) xs).bind fun ys => req (ys.length < LIM) (.ok ys))))
    (hp : ∀ whole, isTrue x X.env whole = (do let v ← whole; standAt x.pos; holding [v] (truthy v))) : SX L n X (.lc ws ts src c e) x := by
  refine SX.plain (co := fun δ => ((evIl L n .bor src δ).bind fun xs => (lcL (fun x => layN ts x (wipeE δ ws)) (evCl L n c) (evl L n .val e) xs).bind fun ys => req (ys.length < LIM) (.ok ys)).bind fun xs => .ok (.lst xs)) (fun m δ => ?_) (P.imp fun σ H Q q => tL.told q) hp
  rw [lc_eq]
  cases evIl L n .bor src δ with
  | ok xs =>
    show ((lcL (fun x => layN ts x (wipeE δ ws)) (evCl L n c) (evl L n .val e) xs).bind fun ys => req (ys.length < LIM) (post m (.lst ys))) = (((lcL (fun x => layN ts x (wipeE δ ws)) (evCl L n c) (evl L n .val e) xs).bind fun ys => req (ys.length < LIM) (.ok ys)).bind fun xs => R.ok (D.lst xs)).bind (post m)
    cases lcL (fun x => layN ts x (wipeE δ ws)) (evCl L n c) (evl L n .val e) xs with
    | ok ys => show req (ys.length < LIM) (post m (.lst ys)) = ((req (ys.length < LIM) (.ok ys)).bind fun xs => R.ok (D.lst xs)).bind (post m); unfold req; split <;> rfl
    | _ => rfl
  | _ => rfl
end
end Fw

/-! every expression -/
namespace Fw
open PySem PySem.Spec PyProof.Rows L2
open Evl (Ex ex_rd ex_l ex_t)

theorem and2 {a b : Bool} (h : (a && b) = true) : a = true ∧ b = true := by rwa [Bool.and_eq_true] at h
section
variable {L : Nm} {N : List Str} {sc : Scope} {x : Expr}
theorem mEs_len : ∀ {as : List E} {xs : List Expr}, mEs L N sc as xs = true → as.length = xs.length
  | [], xs, h => by rw [mEs_nil h]; rfl
  | a :: as, xs, h => by
    obtain ⟨y, ys, rfl, _, h2⟩ := mEs_cons h
    show as.length + 1 = ys.length + 1
    rw [mEs_len h2]
theorem cmp_inv {c : Cp} {a b : E} (h : mE L N sc (.cmp c a b) x = true) : ∃ l p r q, x = .Compare l [p] [r] q ∧ cpB c p = true ∧ mE L N sc a l = true ∧ mE L N sc b r = true := by
  cases x <;> first | (cases h; done) | skip
  rename_i l ps rs q
  cases ps with
  | nil => cases h
  | cons p ps =>
    cases ps with
    | cons _ _ => cases h
    | nil =>
      cases rs with
      | nil => cases h
      | cons r rs =>
        cases rs with
        | cons _ _ => cases h
        | nil =>
          obtain ⟨h, h3⟩ := and2 h
          obtain ⟨h1, h2⟩ := and2 h
          exact ⟨l, p, r, q, rfl, h1, h2, h3⟩
theorem chain_inv {c c' : Cp} {a b d : E} (h : mE L N sc (.chain c c' a b d) x = true) : ∃ l p p' r r' q, x = .Compare l [p, p'] [r, r'] q ∧ cpB c p = true ∧ cpB c' p' = true ∧ mE L N sc a l = true ∧ mE L N sc b r = true ∧ mE L N sc d r' = true := by
  cases x <;> first | (cases h; done) | skip
  rename_i l ps rs q
  cases ps with
  | nil => cases h
  | cons p ps =>
    cases ps with
    | nil => cases h
    | cons p' ps =>
      cases ps with
      | cons _ _ => cases h
      | nil =>
        cases rs with
        | nil => cases h
        | cons r rs =>
          cases rs with
          | nil => cases h
          | cons r' rs =>
            cases rs with
            | cons _ _ => cases h
            | nil =>
              obtain ⟨h, h5⟩ := and2 h
              obtain ⟨h, h4⟩ := and2 h
              obtain ⟨h, h3⟩ := and2 h
              obtain ⟨h1, h2⟩ := and2 h
              exact ⟨l, p, p', r, r', q, rfl, h1, h2, h3, h4, h5⟩
theorem isNoneC_inv {r : Expr} (h : isNoneC r = true) : ∃ k p, r = .Constant .none k p := by
  cases r <;> first | (cases h; done) | skip
  rename_i c k p
  cases c <;> first | (cases h; done) | skip
  exact ⟨k, p, rfl⟩
theorem isBoolC_inv {b : Bool} {r : Expr} (h : isBoolC b r = true) : ∃ k p, r = .Constant (.bool b) k p := by
  cases r <;> first | (cases h; done) | skip
  rename_i c k p
  cases c <;> first | (cases h; done) | skip
  rename_i c
  have e : (b == c) = true := h
  have e := eq_of_beq e
  subst e
  exact ⟨k, p, rfl⟩
theorem isN_inv {a : E} (h : mE L N sc (.isN a) x = true) : ∃ l k p q, x = .Compare l [.Is] [.Constant .none k p] q ∧ mE L N sc a l = true := by
  cases x <;> first | (cases h; done) | skip
  rename_i l ps rs q
  cases ps with
  | nil => cases h
  | cons p ps =>
    cases p <;> first | (cases h; done) | skip
    cases ps with
    | cons _ _ => cases h
    | nil =>
      cases rs with
      | nil => cases h
      | cons r rs =>
        cases rs with
        | cons _ _ => cases h
        | nil =>
          obtain ⟨h1, h2⟩ := and2 h
          obtain ⟨k, p, rfl⟩ := isNoneC_inv h2
          exact ⟨l, k, p, q, rfl, h1⟩
theorem notN_inv {a : E} (h : mE L N sc (.notN a) x = true) : ∃ l k p q, x = .Compare l [.IsNot] [.Constant .none k p] q ∧ mE L N sc a l = true := by
  cases x <;> first | (cases h; done) | skip
  rename_i l ps rs q
  cases ps with
  | nil => cases h
  | cons p ps =>
    cases p <;> first | (cases h; done) | skip
    cases ps with
    | cons _ _ => cases h
    | nil =>
      cases rs with
      | nil => cases h
      | cons r rs =>
        cases rs with
        | cons _ _ => cases h
        | nil =>
          obtain ⟨h1, h2⟩ := and2 h
          obtain ⟨k, p, rfl⟩ := isNoneC_inv h2
          exact ⟨l, k, p, q, rfl, h1⟩
theorem isB_inv {b : Bool} {a : E} (h : mE L N sc (.isB b a) x = true) : ∃ l k p q, x = .Compare l [.Is] [.Constant (.bool b) k p] q ∧ mE L N sc a l = true := by
  cases x <;> first | (cases h; done) | skip
  rename_i l ps rs q
  cases ps with
  | nil => cases h
  | cons p ps =>
    cases p <;> first | (cases h; done) | skip
    cases ps with
    | cons _ _ => cases h
    | nil =>
      cases rs with
      | nil => cases h
      | cons r rs =>
        cases rs with
        | cons _ _ => cases h
        | nil =>
          obtain ⟨h1, h2⟩ := and2 h
          obtain ⟨k, p, rfl⟩ := isBoolC_inv h2
          exact ⟨l, k, p, q, rfl, h1⟩
theorem notB_inv {b : Bool} {a : E} (h : mE L N sc (.notB b a) x = true) : ∃ l k p q, x = .Compare l [.IsNot] [.Constant (.bool b) k p] q ∧ mE L N sc a l = true := by
  cases x <;> first | (cases h; done) | skip
  rename_i l ps rs q
  cases ps with
  | nil => cases h
  | cons p ps =>
    cases p <;> first | (cases h; done) | skip
    cases ps with
    | cons _ _ => cases h
    | nil =>
      cases rs with
      | nil => cases h
      | cons r rs =>
        cases rs with
        | cons _ _ => cases h
        | nil =>
          obtain ⟨h1, h2⟩ := and2 h
          obtain ⟨k, p, rfl⟩ := isBoolC_inv h2
          exact ⟨l, k, p, q, rfl, h1⟩
theorem bcall_inv {f : Nat} {as : List E} (h : mE L N sc (.bcall f as) x = true) : ∃ y p xs q, x = .Call (.Name y p) xs [] q ∧ L.hot = false ∧ L.FN[f]? = some y ∧ glB sc y = true ∧ mEs L N sc as xs = true := by
  cases x <;> first | (cases h; done) | skip
  rename_i fn xs ks q
  cases fn <;> first | (cases h; done) | skip
  rename_i y p
  cases ks with
  | cons _ _ => cases h
  | nil =>
    obtain ⟨h, h3⟩ := and2 h
    obtain ⟨h, h2⟩ := and2 h
    obtain ⟨h0, h1⟩ := and2 h
    exact ⟨y, p, xs, q, rfl, by simpa using h0, of_decide_eq_true h1, h2, h3⟩
theorem srt_inv {f : Nat} {a : E} (h : mE L N sc (.srt f a) x = true) : ∃ p l z pz pk q, x = .Call (.Name "sorted" p) [l] [⟨some "key", .Name z pz, pk⟩] q ∧ L.hot = false ∧ bnB L sc "sorted" "sorted" = true ∧ L.FN[f]? = some z ∧ glB sc z = true ∧ mE L N sc a l = true := by
  cases x <;> first | (cases h; done) | skip
  rename_i fn xs ks q
  cases fn <;> first | (cases h; done) | skip
  rename_i y p
  cases xs with
  | nil => cases h
  | cons l xs =>
    cases xs with
    | cons _ _ => cases h
    | nil =>
      cases ks with
      | nil => cases h
      | cons kw ks =>
        cases ks with
        | cons _ _ => obtain ⟨nm, v, pk⟩ := kw; cases nm <;> first | (cases h; done) | (cases v <;> cases h)
        | nil =>
          obtain ⟨nm, v, pk⟩ := kw
          cases nm <;> first | (cases h; done) | skip
          cases v <;> first | (cases h; done) | skip
          rename_i kw z pz
          obtain ⟨h, h7⟩ := and2 h
          obtain ⟨h, h6⟩ := and2 h
          obtain ⟨h, h5⟩ := and2 h
          obtain ⟨h, h4⟩ := and2 h
          obtain ⟨h, h3⟩ := and2 h
          obtain ⟨h1, h2⟩ := and2 h
          have e2 := of_decide_eq_true h2
          have e3 := of_decide_eq_true h3
          subst e2; subst e3
          exact ⟨p, l, z, pz, pk, q, rfl, by simpa using h1, h4, of_decide_eq_true h5, h6, h7⟩
theorem call_inv {f : Nat} {as : List E} (h : mE L N sc (.call f as) x = true) : ∃ y p xs q, x = .Call (.Name y p) xs [] q ∧ L.hot = false ∧ L.FN[f]? = some y ∧ glB sc y = true ∧ mEs L N sc as xs = true := by
  cases x <;> first | (cases h; done) | skip
  rename_i fn xs ks q
  cases fn <;> first | (cases h; done) | skip
  rename_i y p
  cases ks with
  | cons _ _ => cases h
  | nil =>
    obtain ⟨h, h3⟩ := and2 h
    obtain ⟨h, h2⟩ := and2 h
    obtain ⟨h0, h1⟩ := and2 h
    exact ⟨y, p, xs, q, rfl, by simpa using h0, of_decide_eq_true h1, h2, h3⟩
theorem isi_inv {t : Ty} {as : List E} (h : mE L N sc (.blt (.isi t) as) x = true) : ∃ y p l r q, x = .Call (.Name y p) [l, r] [] q ∧ bnB L sc y "isinstance" = true ∧ tyArg L sc t r = true ∧ mEs L N sc as [l] = true := by
  cases x <;> first | (cases h; done) | skip
  rename_i fn xs ks q
  cases fn <;> first | (cases h; done) | skip
  rename_i y p
  cases xs with
  | nil => cases h
  | cons l xs =>
    cases xs with
    | nil => cases h
    | cons r xs =>
      cases xs with
      | cons _ _ => cases h
      | nil =>
        cases ks with
        | cons _ _ => cases h
        | nil =>
          obtain ⟨h, h3⟩ := and2 h
          obtain ⟨h1, h2⟩ := and2 h
          exact ⟨y, p, l, r, q, rfl, h1, h2, h3⟩
theorem blt_inv {f : Blt} {as : List E} (hf : ∀ t, f ≠ .isi t) (h : mE L N sc (.blt f as) x = true) : ∃ y p xs q, x = .Call (.Name y p) xs [] q ∧ (hotN f = true → L.hot = false) ∧ bnB L sc y (bltN f) = true ∧ mEs L N sc as xs = true := by
  cases x <;> first | (cases f <;> first | (cases h; done) | exact absurd rfl (hf _)) | skip
  rename_i fn xs ks q
  cases fn <;> first | (cases f <;> first | (cases h; done) | exact absurd rfl (hf _)) | skip
  rename_i y p
  cases ks with
  | cons _ _ => cases f <;> first | (cases h; done) | exact absurd rfl (hf _)
  | nil =>
    have h : ((!hotN f || !L.hot) && bnB L sc y (bltN f) && mEs L N sc as xs) = true := by cases f <;> first | exact h | exact absurd rfl (hf _)
    obtain ⟨h, h2⟩ := and2 h
    obtain ⟨h0, h1⟩ := and2 h
    exact ⟨y, p, xs, q, rfl, fun z => by rw [z] at h0; simpa using h0, h1, h2⟩
theorem mth_inv {m : Mth} {o : E} {as : List E} (h : mE L N sc (.mth m o as) x = true) : ∃ y p xs q, x = .Call (.Attribute y (mthN m) p) xs [] q ∧ (p.endLine == q.line) = true ∧ xs.length < 25 ∧ notCall y = true ∧ mE L N sc o y = true ∧ mEs L N sc as xs = true := by
  cases x <;> first | (cases h; done) | skip
  rename_i fn xs ks q
  cases fn <;> first | (cases h; done) | skip
  rename_i y nm p
  cases ks with
  | cons _ _ => cases h
  | nil =>
    obtain ⟨h, h6⟩ := and2 h
    obtain ⟨h, h5⟩ := and2 h
    obtain ⟨h, h4⟩ := and2 h
    obtain ⟨h, h3⟩ := and2 h
    obtain ⟨h1, h2⟩ := and2 h
    have e := of_decide_eq_true h1
    subst e
    exact ⟨y, p, xs, q, rfl, h2, of_decide_eq_true h3, h4, h5, h6⟩
theorem ix_inv {a i : E} (h : mE L N sc (.ix a i) x = true) : ∃ y z q, x = .Subscript y z q ∧ mE L N sc a y = true ∧ mE L N sc i z = true := by
  cases x <;> first | (cases h; done) | skip
  rename_i y z q
  obtain ⟨h1, h2⟩ := and2 h
  exact ⟨y, z, q, rfl, h1, h2⟩
theorem nop_inv {e : E} (h : isNop e = true) : e = .nop := by
  cases e <;> first | rfl | cases h
theorem mE_nn {e : E} (h : mE L N sc e x = true) : e ≠ .nop := fun z => by subst z; cases h
def pM (L : Nm) (N : List Str) (sc : Scope) (e : E) (o : Option Expr) : Prop := (e = .nop ∧ o = none) ∨ (e ≠ .nop ∧ ∃ x, o = some x ∧ mE L N sc e x = true)
theorem sl_inv {a lo hi : E} (h : mE L N sc (.sl a lo hi) x = true) : ∃ y l u p q, x = .Subscript y (.Slice l u none p) q ∧ mE L N sc a y = true ∧ pM L N sc lo l ∧ pM L N sc hi u := by
  cases x <;> first | (cases h; done) | skip
  rename_i y z q
  cases z <;> first | (cases h; done) | skip
  rename_i l u st p
  cases st with
  | some _ => cases h
  | none =>
    obtain ⟨h, h3⟩ := and2 h
    obtain ⟨h1, h2⟩ := and2 h
    refine ⟨y, l, u, p, q, rfl, h1, ?_, ?_⟩
    · cases l with
      | none => exact .inl ⟨nop_inv h2, rfl⟩
      | some l => exact .inr ⟨mE_nn h2, l, rfl, h2⟩
    · cases u with
      | none => exact .inl ⟨nop_inv h3, rfl⟩
      | some l => exact .inr ⟨mE_nn h3, l, rfl, h3⟩
def srcB (L : Nm) (N : List Str) (sc : Scope) (tg it : Expr) (src : E) : Bool := (isTupE tg || !needTup src) && mE L N sc src it
theorem rng_inv {as : List E} (h : mE L N sc (.rng as) x = true) : ∃ y p xs q, x = .Call (.Name y p) xs [] q ∧ bnB L sc y "range" = true ∧ mEs L N sc as xs = true := by
  cases x <;> first | (cases h; done) | skip
  rename_i fn xs ks q
  cases fn <;> first | (cases h; done) | skip
  rename_i y p
  cases ks with
  | cons _ _ => cases h
  | nil =>
    obtain ⟨h1, h2⟩ := and2 h
    exact ⟨y, p, xs, q, rfl, h1, h2⟩
theorem zip_inv {a b : E} (h : mE L N sc (.zip a b) x = true) : ∃ y p l r q, x = .Call (.Name y p) [l, r] [] q ∧ bnB L sc y "zip" = true ∧ mE L N sc a l = true ∧ mE L N sc b r = true := by
  cases x <;> first | (cases h; done) | skip
  rename_i fn xs ks q
  cases fn <;> first | (cases h; done) | skip
  rename_i y p
  cases xs with
  | nil => cases h
  | cons l xs =>
    cases xs with
    | nil => cases h
    | cons r xs =>
      cases xs with
      | cons _ _ => cases h
      | nil =>
        cases ks with
        | cons _ _ => cases h
        | nil =>
          obtain ⟨h, h3⟩ := and2 h
          obtain ⟨h1, h2⟩ := and2 h
          exact ⟨y, p, l, r, q, rfl, h1, h2, h3⟩
theorem enum_inv {a : E} (h : mE L N sc (.enum a) x = true) : ∃ y p l q, x = .Call (.Name y p) [l] [] q ∧ bnB L sc y "enumerate" = true ∧ mE L N sc a l = true := by
  cases x <;> first | (cases h; done) | skip
  rename_i fn xs ks q
  cases fn <;> first | (cases h; done) | skip
  rename_i y p
  cases xs with
  | nil => cases h
  | cons l xs =>
    cases xs with
    | cons _ _ => cases h
    | nil =>
      cases ks with
      | cons _ _ => cases h
      | nil =>
        obtain ⟨h1, h2⟩ := and2 h
        exact ⟨y, p, l, q, rfl, h1, h2⟩
theorem lc_inv {ws ts : List Nat} {src c e : E} (h : mE L N sc (.lc ws ts src c e) x = true) : ∃ elt tg it ifs scope q, x = .ListComp elt [⟨tg, it, ifs, 0⟩] scope q ∧ L.hot = false ∧ blkC N sc scope (ownOf N ws) = true ∧ (ownOf N ws).map (·.2) = ws ∧ ts.all (fun t => decide (t ∈ ws)) = true ∧ tgsB N scope (relS scope sc) ts tg = true
    ∧ srcB L N sc tg it src = true ∧ ((c = .nop ∧ ifs = []) ∨ (c ≠ .nop ∧ ∃ t, ifs = [t] ∧ mE L N (relS scope sc) c t = true)) ∧ mE L N (relS scope sc) e elt = true := by
  cases x <;> first | (cases h; done) | skip
  rename_i elt gs scope q
  cases gs with
  | nil => cases h
  | cons g gs =>
    obtain ⟨tg, it, ifs, asy⟩ := g
    cases gs with
    | cons _ _ => cases h
    | nil =>
        obtain ⟨h, h7⟩ := and2 h
        obtain ⟨h, h6⟩ := and2 h
        obtain ⟨h, h5'⟩ := and2 h
        obtain ⟨h, h5⟩ := and2 h
        obtain ⟨h, h4⟩ := and2 h
        obtain ⟨h, h3⟩ := and2 h
        obtain ⟨h, h2⟩ := and2 h
        obtain ⟨h, h1⟩ := and2 h
        obtain ⟨hh, h0⟩ := and2 h
        have h0 := of_decide_eq_true h0
        subst h0
        refine ⟨elt, tg, it, ifs, scope, q, rfl, by simpa using hh, h1, of_decide_eq_true h2, h3, h4, ?_, ?_, h7⟩
        · unfold srcB
          rw [h5, h5']; rfl
        · cases ifs with
          | nil => exact .inl ⟨nop_inv h6, rfl⟩
          | cons t ts =>
            cases ts with
            | cons _ _ => cases h6
            | nil => exact .inr ⟨mE_nn h6, t, rfl, h6⟩
theorem qrep_inv {c : List Nat} {o : E} {y z : List Nat} (h : mE L N sc (.qrep c o y z) x = true) : ∃ c' k p0 r nm p a j1 c0 b j2 c1 q pos, x = .BinOp (.Constant (.str c') k p0) .Add (.Call (.Attribute r nm p) [.Constant (.str a) j1 c0, .Constant (.str b) j2 c1] [] q) pos ∧
    (decide (c'.cps.toList = c) && okB c && decide (nm = "replace") && notCall r && (p.endLine == q.line) && decide (a.cps.toList = y) && decide (b.cps.toList = z) && !(a == b) && decide (1 ≤ a.length) && mE L N sc o r) = true := by
  cases x <;> first | (cases h; done) | skip
  rename_i l op r pos
  cases l <;> first | (cases h; done) | skip
  rename_i c' k p0
  cases c' <;> first | (cases h; done) | skip
  cases op <;> first | (cases h; done) | skip
  cases r <;> first | (cases h; done) | skip
  rename_i fn xs ks q
  cases fn <;> first | (cases h; done) | skip
  cases xs with
  | nil => cases h
  | cons a xs =>
    cases a <;> first | (cases h; done) | skip
    rename_i ca _ _
    cases ca <;> first | (cases h; done) | skip
    cases xs with
    | nil => cases h
    | cons b xs =>
      cases b <;> first | (cases h; done) | skip
      rename_i cb _ _
      cases cb <;> first | (cases h; done) | skip
      cases xs with
      | cons _ _ => cases h
      | nil =>
        cases ks with
        | cons _ _ => cases h
        | nil => exact ⟨_, _, _, _, _, _, _, _, _, _, _, _, _, _, rfl, h⟩
theorem rev_inv {a : E} (h : mE L N sc (.rev a) x = true) : ∃ r k p1 p2 p3 pos, x = .Subscript r (.Slice none none (some (.UnaryOp .USub (.Constant (.int 1) k p1) p2)) p3) pos ∧ mE L N sc a r = true := by
  cases x <;> first | (cases h; done) | skip
  rename_i r sl p2
  cases sl <;> first | (cases h; done) | skip
  rename_i l u st p1
  cases l with
  | some _ => cases h
  | none =>
  cases u with
  | some _ => cases h
  | none =>
  cases st with
  | none => cases h
  | some st =>
  cases st <;> first | (cases h; done) | skip
  rename_i o c q
  cases o <;> first | (cases h; done) | skip
  cases c <;> first | (cases h; done) | skip
  rename_i ci k0 p0
  cases ci <;> first | (cases h; done) | skip
  obtain ⟨h1, h2⟩ := and2 h
  have e := of_decide_eq_true h1
  subst e
  exact ⟨_, _, _, _, _, _, rfl, h2⟩
theorem srep_inv {o hi : E} {lo : Int} {y z : List Nat} (h : mE L N sc (.srep o lo hi y z) x = true) : ∃ r i k0 p0 u p1 p2 nm p a j1 c0 b j2 c1 q, x = .Call (.Attribute (.Subscript r (.Slice (some (.Constant (.int i) k0 p0)) u none p1) p2) nm p) [.Constant (.str a) j1 c0, .Constant (.str b) j2 c1] [] q ∧
    (decide (lo = i) && decide (nm = "replace") && (p.endLine == q.line) && decide (a.cps.toList = y) && decide (b.cps.toList = z) && !(a == b) && decide (1 ≤ a.length)) = true ∧ pM L N sc hi u ∧ mE L N sc o r = true := by
  cases x <;> first | (cases h; done) | skip
  rename_i fn xs ks q
  cases fn <;> first | (cases h; done) | skip
  rename_i s nm p
  cases s <;> first | (cases h; done) | skip
  rename_i r sl p2
  cases sl <;> first | (cases h; done) | skip
  rename_i l u st p1
  cases l with
  | none => cases h
  | some l =>
  cases l <;> first | (cases h; done) | skip
  rename_i ci k0 p0
  cases ci <;> first | (cases h; done) | skip
  rename_i i
  cases st with
  | some _ => cases h
  | none =>
  cases xs with
  | nil => cases h
  | cons a xs =>
    cases a <;> first | (cases h; done) | skip
    rename_i ca _ _
    cases ca <;> first | (cases h; done) | skip
    cases xs with
    | nil => cases h
    | cons b xs =>
      cases b <;> first | (cases h; done) | skip
      rename_i cb _ _
      cases cb <;> first | (cases h; done) | skip
      cases xs with
      | cons _ _ => cases h
      | nil =>
        cases ks with
        | cons _ _ => cases h
        | nil =>
          obtain ⟨h, h9⟩ := and2 h
          obtain ⟨h, h8⟩ := and2 h
          refine ⟨_, _, _, _, _, _, _, _, _, _, _, _, _, _, _, _, rfl, h, ?_, h9⟩
          cases u with
          | none => exact .inl ⟨nop_inv h8, rfl⟩
          | some l => exact .inr ⟨mE_nn h8, l, rfl, h8⟩
end
end Fw

namespace Fw
open PySem PySem.Spec PyProof.Rows L2
open Evl (Ex ex_rd ex_l ex_t)

/-! is, is not -/
section
variable {L : Lw} {n : Nat} {X : Cx}
theorem sx_isN {a : E} {l : Expr} {k : Nat} {p q : Pos} (h : SX L n X a l) : SX L n X (.isN a) (.Compare l [.Is] [.Constant .none k p] q) := by
  refine sx_is (f := fun d => .ok (match d with | .non => true | _ => false)) (m := .bor) ⟨(fun z => by cases z), (fun z => by cases z)⟩ op_isN pe_non h.b (fun m' δ => ?_) (fun _ _ _ h => h) (fun M H d v k Q e r hf q => ?_)
  · show ((evl L n .bor a δ).bind fun x => match x with | .non => R.ok (D.bl true) | _ => R.ok (D.bl false)) = _
    cases evl L n .bor a δ with
    | ok d => cases d <;> rfl
    | _ => rfl
  · refine ⟨rfl, ?_⟩
    cases hf
    rcases r with r | ⟨p, vs, xs, rfl, rfl, _, _⟩
    · cases r <;> exact q
    · exact q
theorem sx_notN {a : E} {l : Expr} {k : Nat} {p q : Pos} (h : SX L n X a l) : SX L n X (.notN a) (.Compare l [.IsNot] [.Constant .none k p] q) := by
  refine sx_is (f := fun d => .ok (match d with | .non => false | _ => true)) (m := .bor) ⟨(fun z => by cases z), (fun z => by cases z)⟩ op_notN pe_non h.b (fun m' δ => ?_) (fun _ _ _ h => h) (fun M H d v k Q e r hf q => ?_)
  · show ((evl L n .bor a δ).bind fun x => match x with | .non => R.ok (D.bl false) | _ => R.ok (D.bl true)) = _
    cases evl L n .bor a δ with
    | ok d => cases d <;> rfl
    | _ => rfl
  · refine ⟨rfl, ?_⟩
    cases hf
    rcases r with r | ⟨p, vs, xs, rfl, rfl, _, _⟩
    · cases r <;> exact q
    · exact q
/-- is a written truth, of anything -/
def rIsAny (neg : Bool) : R2 := fun x y H Q => ∃ b : Bool, y = .bl b ∧ ((∃ c, x = .bl c ∧ Q (.bl (neg != (c == b))) H) ∨ ((x = .non ∨ (∃ i, x = .int i) ∨ (∃ s, x = .str s) ∨ ∃ a, x = .ref a) ∧ Q (.bl neg) H))
theorem op_isAny : OpR X (compareOp .Is) (rIsAny false) := by
  intro pins s σ H x y v u Q I rx ry h
  obtain ⟨b, rfl, h⟩ := h
  rcases h with ⟨c, rfl, q⟩ | ⟨h, q⟩
  · refine op_isBl pins s σ H _ _ v u Q I rx ry ⟨c, b, rfl, rfl, ?_⟩
    rw [show decide (c = b) = (false != (c == b)) by cases c <;> cases b <;> rfl]
    exact q
  · cases ry
    rcases h with rfl | ⟨i, rfl⟩ | ⟨z, rfl⟩ | ⟨a, rfl⟩
    · cases rx; exact wpAny_is_other rfl (fun z => nomatch z) ⟨.bl false, H, I, rfl, q⟩
    · obtain ⟨t, rfl⟩ := rx; exact wpAny_is_other rfl (fun z => nomatch z) ⟨.bl false, H, I, rfl, q⟩
    · obtain ⟨t, rfl⟩ := rx; exact wpAny_is_other rfl (fun z => nomatch z) ⟨.bl false, H, I, rfl, q⟩
    · cases rx; exact wpAny_is_other rfl (fun z => nomatch z) ⟨.bl false, H, I, rfl, q⟩
theorem op_notAny : OpR X (compareOp .IsNot) (rIsAny true) := by
  intro pins s σ H x y v u Q I rx ry h
  obtain ⟨b, rfl, h⟩ := h
  rcases h with ⟨c, rfl, q⟩ | ⟨h, q⟩
  · refine op_notBl pins s σ H _ _ v u Q I rx ry ⟨c, b, rfl, rfl, ?_⟩
    rw [show (!decide (c = b)) = (true != (c == b)) by cases c <;> cases b <;> rfl]
    exact q
  · cases ry
    rcases h with rfl | ⟨i, rfl⟩ | ⟨z, rfl⟩ | ⟨a, rfl⟩
    · cases rx; exact wpAny_isNot_other rfl (fun z => nomatch z) ⟨.bl true, H, I, rfl, q⟩
    · obtain ⟨t, rfl⟩ := rx; exact wpAny_isNot_other rfl (fun z => nomatch z) ⟨.bl true, H, I, rfl, q⟩
    · obtain ⟨t, rfl⟩ := rx; exact wpAny_isNot_other rfl (fun z => nomatch z) ⟨.bl true, H, I, rfl, q⟩
    · cases rx; exact wpAny_isNot_other rfl (fun z => nomatch z) ⟨.bl true, H, I, rfl, q⟩
theorem any_rep {K : PySem.W.Frag} {M H : Hp} {d : D} {v : V} (r : RepB K M H d v) (h : ∀ b, d ≠ .bl b) : v = .non ∨ (∃ i, v = .int i) ∨ (∃ s, v = .str s) ∨ ∃ a, v = .ref a := by
  rcases r with r | ⟨p, vs, xs, rfl, rfl, _, _⟩
  · cases r with
    | non => exact .inl rfl
    | bl b => exact absurd rfl (h b)
    | int i => exact .inr (.inl ⟨i, rfl⟩)
    | str s _ => exact .inr (.inr (.inl ⟨_, rfl⟩))
    | tup _ _ => exact .inr (.inr (.inr ⟨_, rfl⟩))
    | lst _ _ => exact .inr (.inr (.inr ⟨_, rfl⟩))
    | dct _ _ _ => exact .inr (.inr (.inr ⟨_, rfl⟩))
  · exact .inr (.inr (.inr ⟨_, rfl⟩))
theorem sx_isB {b : Bool} {a : E} {l : Expr} {k : Nat} {p q : Pos} (h : SX L n X a l) : SX L n X (.isB b a) (.Compare l [.Is] [.Constant (.bool b) k p] q) := by
  refine sx_is (f := fun d => match d with | .bl c => .ok (c == b) | _ => .ok false) (m := .bor) ⟨(fun z => by cases z), (fun z => by cases z)⟩ op_isAny pe_bl h.b (fun m' δ => ?_) (fun _ _ _ h => h) (fun M H d v k Q e r hf q => ?_)
  · show ((evl L n .bor a δ).bind fun x => match x with | .bl c => R.ok (D.bl (c == b)) | _ => R.ok (D.bl false)) = _
    cases evl L n .bor a δ with
    | ok d => cases d <;> rfl
    | _ => rfl
  · by_cases hb : ∃ c, d = .bl c
    · obtain ⟨c, rfl⟩ := hb
      cases hf
      cases r.bl
      exact ⟨_, rfl, .inl ⟨c, rfl, by rw [show (false != (c == b)) = (c == b) by cases (c == b) <;> rfl]; exact q⟩⟩
    · have : k = false := by
        cases d <;> first | (cases hf; rfl) | exact absurd ⟨_, rfl⟩ hb
      subst this
      exact ⟨_, rfl, .inr ⟨any_rep r fun c z => hb ⟨c, z⟩, q⟩⟩
theorem sx_notB {b : Bool} {a : E} {l : Expr} {k : Nat} {p q : Pos} (h : SX L n X a l) : SX L n X (.notB b a) (.Compare l [.IsNot] [.Constant (.bool b) k p] q) := by
  refine sx_is (f := fun d => match d with | .bl c => .ok (!(c == b)) | _ => .ok true) (m := .bor) ⟨(fun z => by cases z), (fun z => by cases z)⟩ op_notAny pe_bl h.b (fun m' δ => ?_) (fun _ _ _ h => h) (fun M H d v k Q e r hf q => ?_)
  · show ((evl L n .bor a δ).bind fun x => match x with | .bl c => R.ok (D.bl (!(c == b))) | _ => R.ok (D.bl true)) = _
    cases evl L n .bor a δ with
    | ok d => cases d <;> rfl
    | _ => rfl
  · by_cases hb : ∃ c, d = .bl c
    · obtain ⟨c, rfl⟩ := hb
      cases hf
      cases r.bl
      exact ⟨_, rfl, .inl ⟨c, rfl, by rw [show (true != (c == b)) = !(c == b) by cases (c == b) <;> rfl]; exact q⟩⟩
    · have : k = true := by
        cases d <;> first | (cases hf; rfl) | exact absurd ⟨_, rfl⟩ hb
      subst this
      exact ⟨_, rfl, .inr ⟨any_rep r fun c z => hb ⟨c, z⟩, q⟩⟩
/-- a written text, and behind it a replace -/
theorem pe_opC {c : Str} {k : Nat} {p pos : Pos} {f : Expr} {tf : TE} {op : Operator} {r : R2} (ho : OpR X (binaryOp op) r) (hb : L2.PET X f tf) : PE X (.BinOp (.Constant (.str c) k p) op f pos) (tOp r (L2.tC (.str c)) tf) := by
  refine ⟨fun pins s σ H Q I h => ?_⟩
  refine wpAny_BinOp (Calls.Constant_str ?_)
  exact thn (hb pins _ σ H _ (Nat.le_add_left 1 s.toks) (I.tok (s.toks + 1)) h) fun u s2 ⟨y, H2, I2, r2, q2⟩ => ho pins s2 σ H2 (.str c) y (.str c s.toks) u Q I2 ⟨s.toks, rfl⟩ r2 q2
theorem sx_rev {a : E} {r : Expr} {k : Nat} {p1 p2 p3 pos : Pos} (ha : SX L n X a r) : SX L n X (.rev a) (.Subscript r (.Slice none none (some (.UnaryOp .USub (.Constant (.int 1) k p1) p2)) p3) pos) := by
  refine SX.plain (co := fun δ => (evl L n .bor a δ).bind fun x => match x with
    | .str s => req (s.length ≤ LIM) (.ok (.str s.reverse))
    | _ => .stuck) (fun m δ => ?_) ((pe_revS ha.b).imp fun σ H Q ⟨H0, M, δ, d, oo, e, qq⟩ => ?_) (by intro _; rfl)
  · show ((evl L n .bor a δ).bind fun x => match x with
      | .str s => req (s.length ≤ LIM) (post m (.str s.reverse))
      | _ => .stuck) = _
    cases evl L n .bor a δ with
    | ok x =>
      cases x <;> first | rfl | skip
      show req _ (post m _) = (req _ (.ok _)).bind (post m)
      unfold req; split <;> rfl
    | _ => rfl
  · obtain ⟨x, e1, e2⟩ := R.bind_inv e
    cases x <;> first | (cases e2; done) | skip
    rename_i s
    obtain ⟨hl, e3⟩ := req_inv e2
    cases e3
    refine ⟨H0, M, δ, _, oo, e1, fun M1 H1 v x1 r1 => ?_⟩
    obtain ⟨rfl, os⟩ := r1.str
    exact ⟨_, rfl, by rw [str_len, ← lim_eq]; simpa using hl, qq M1 H1 _ x1 (.str _ fun z hz => os z (by simpa using hz))⟩
theorem sx_qrep {o : E} {r : Expr} {c a b : Str} {k j1 j2 : Nat} {p0 p c0 c1 q pos : Pos} (ho : SX L n X o r) (hc : notCall r = true) (hl : (p.endLine == q.line) = true) (hab : (a == b) = false) (h1 : 1 ≤ a.length) (okc : okS c.cps.toList) :
    SX L n X (.qrep c.cps.toList o a.cps.toList b.cps.toList) (.BinOp (.Constant (.str c) k p0) .Add (.Call (.Attribute r "replace" p) [.Constant (.str a) j1 c0, .Constant (.str b) j2 c1] [] q) pos) := by
  refine SX.plain (co := fun δ => (evl L n .bor o δ).bind fun x => match x with
    | .str s => req (s.length + (s.length + 1) * b.cps.toList.length ≤ 16777216 ∧ c.cps.toList.length + (StrLaws.replL a.cps.toList b.cps.toList s).length ≤ LIM ∧ okB (StrLaws.replL a.cps.toList b.cps.toList s) = true) (.ok (.str (c.cps.toList ++ StrLaws.replL a.cps.toList b.cps.toList s)))
    | _ => .stuck) (fun m δ => ?_) ((pe_opC op_add_str (CwR.pet_replC ho.b hab rfl (noSuper hc) hl)).imp fun σ H Q ⟨H0, M, δ, d, oo, e, qq⟩ => ?_) (by intro _; rfl)
  · show ((evl L n .bor o δ).bind fun x => match x with
      | .str s => req (s.length + (s.length + 1) * b.cps.toList.length ≤ 16777216 ∧ c.cps.toList.length + (StrLaws.replL a.cps.toList b.cps.toList s).length ≤ LIM ∧ okB (StrLaws.replL a.cps.toList b.cps.toList s) = true) (post m (.str (c.cps.toList ++ StrLaws.replL a.cps.toList b.cps.toList s)))
      | _ => .stuck) = _
    cases evl L n .bor o δ with
    | ok x =>
      cases x <;> first | rfl | skip
      show req _ (post m _) = (req _ (.ok _)).bind (post m)
      unfold req; split <;> rfl
    | _ => rfl
  · obtain ⟨x, e1, e2⟩ := R.bind_inv e
    cases x <;> first | (cases e2; done) | skip
    rename_i s
    obtain ⟨⟨k1, k2, k3⟩, e3⟩ := req_inv e2
    cases e3
    refine ⟨H0, M, δ, _, oo, e1, fun M1 H1 v x1 r1 => ?_⟩
    obtain ⟨rfl, _⟩ := r1.str
    have er : (Txt.replace ⟨s.toArray⟩ a b).cps.toList = StrLaws.replL a.cps.toList b.cps.toList s := StrLaws.replace_list h1
    have el : (Txt.replace ⟨s.toArray⟩ a b).length = (StrLaws.replL a.cps.toList b.cps.toList s).length := by
      rw [← er]; simp [Str.length]
    have ec : c.length = c.cps.toList.length := by simp [Str.length]
    have eb : b.length = b.cps.toList.length := by simp [Str.length]
    refine ⟨_, rfl, by rw [str_len, eb]; exact k1, _, _, rfl, rfl, by rw [el, ec, ← lim_eq]; exact k2, ?_⟩
    have e4 : c ++ Txt.replace ⟨s.toArray⟩ a b = ⟨(c.cps.toList ++ StrLaws.replL a.cps.toList b.cps.toList s).toArray⟩ := TL.ext_tl (by
      show (c ++ Txt.replace ⟨s.toArray⟩ a b).cps.toList = _
      rw [← er]
      exact TL.tl_append _ _)
    rw [e4]
    refine qq M1 H1 _ x1 (.str _ ?_)
    intro z hz
    rcases List.mem_append.mp hz with hz | hz
    · exact okc z hz
    · exact of_decide_eq_true (List.all_eq_true.mp k3 z hz)
/-- a part of a text, from a written place on, and behind it a replace -/
theorem pe_slrep {r : V → Option Int → Option Int → Hp → VK → Prop} {e : Expr} {te : TE} {hi : Option Expr} {th : TO} {lo : Int} {y z : Str} {k j1 j2 : Nat} {p0 p1 p2 ap c0 c1 q : Pos} (hr : SlR X r) (he : PE X e te) (hu : PO X hi th) (hyz : (y == z) = false) (hline : (ap.endLine == q.line) = true) :
    PE X (.Call (.Attribute (.Subscript e (.Slice (some (.Constant (.int lo) k p0)) hi none p1) p2) "replace" ap) [.Constant (.str y) j1 c0, .Constant (.str z) j2 c1] [] q) (CwR.tReplC (tSl r te (tPart (L2.tC (.int lo))) th) y z) := by
  refine ⟨fun pins s σ H Q I h => ?_⟩
  have big : wpAny (model X.prog X.w) X.A (eval (.Subscript e (.Slice (some (.Constant (.int lo) k p0)) hi none p1) p2) X.env) (fun v s1 => 1 ≤ s1.toks ∧ EP X pins σ (fun v H1 => ∃ x, v = .str x ∧ x.length + (x.length + 1) * z.length ≤ 16777216 ∧ Q (.str (Txt.replace x y z)) H1) v s1) X.xe s := by
    refine Subscript_ (thn (he.run pins s σ H _ I h) fun v s1 ⟨x, H1, I1, r1, q1⟩ => ?_)
    refine wpAny_Slice ?_
    rw [evalPart_some]
    refine wpAny_Constant_int ?_
    obtain ⟨i, ei, q1⟩ := q1
    cases ei
    have I1' := I1.tok (s1.toks + 1)
    refine wpAny_mono (wpAny_toks_of (n := 1) (s := { s1 with toks := s1.toks + 1 }) (Nat.le_add_left 1 s1.toks) (hu.run pins _ σ H1 _ I1' q1)) (fun vu s3 w => ?_) (fun _ _ w => w.2)
    obtain ⟨hk3, u, H3, I3, pu, q3⟩ := w
    rw [evalPart_none]
    refine wpAny_pure ?_
    have I4 : Inv X pins σ H3 { s3 with heap := s3.heap.push { cls := .type "slice", data := .fields #[.int lo s1.toks, vu, .none] } } := I3.kept (t' := s3.toks) fun b ob q => Heap.get?_push_of_some _ q
    obtain ⟨T, id, hT, ht, hg⟩ := hr pins { s3 with heap := s3.heap.push { cls := .type "slice", data := .fields #[.int lo s1.toks, vu, .none] } } σ H3 x v (.int lo s1.toks) vu (some lo) u s3.heap.objs.size _ I4 r1 (Heap.IsSliceOf.new ..) (.int lo s1.toks) pu q3
    exact wpAny_mono (wpAny_toks_of (n := 1) (s := { s3 with heap := s3.heap.push { cls := .type "slice", data := .fields #[.int lo s1.toks, vu, .none] } }) hk3 (tail_any (ops := [.ref s3.heap.objs.size, v]) ht hT hg (by with_unfolding_all rfl))) (fun _ _ w => w) (fun _ _ w => w.2)
  refine PySem.Call_method2 rfl rfl hline (wpAny_mono big (fun v s1 w => ?_) fun _ _ w => w)
  obtain ⟨hk, v', H1, I1, r1, x, e1, hb, q⟩ := w
  subst e1
  obtain ⟨tx, e2⟩ := r1
  subst e2
  refine ⟨"str", _, F.plainAttrs_str, F.slot_str_replace, F.type_str_replace, typeIs_str _ _ _, (fun _ e => nomatch e), Calls.callWith_builtin rfl (Calls.evalArgs_plain (Calls.spliced_cons ?_))⟩
  refine Calls.Constant_str (Calls.spliced_cons (Calls.Constant_str (Calls.spliced_nil ?_)))
  exact PySem.SC.replace (by show s1.toks ≠ 0; omega) (by show s1.toks + 1 ≠ 0; omega) (by show s1.toks ≠ s1.toks + 1; omega) hyz hb fun t' k => ⟨.str (Txt.replace x y z), H1, I1.tok k, ⟨t', rfl⟩, q⟩
theorem sx_srep {o hi : E} {lo : Int} {r : Expr} {u : Option Expr} {a b : Str} {k j1 j2 : Nat} {p0 p1 p2 p c0 c1 q : Pos} (ho : SX L n X o r) (hu : PO X u (tP X.K (evPl L n hi))) (hl : (p.endLine == q.line) = true) (hab : (a == b) = false) (h1 : 1 ≤ a.length) :
    SX L n X (.srep o lo hi a.cps.toList b.cps.toList) (.Call (.Attribute (.Subscript r (.Slice (some (.Constant (.int lo) k p0)) u none p1) p2) "replace" p) [.Constant (.str a) j1 c0, .Constant (.str b) j2 c1] [] q) := by
  refine SX.plain (co := fun δ => (evl L n .bor o δ).bind fun x => (evPl L n hi δ).bind fun h => (slD x (some lo) h).bind fun w => match w with
    | .str s => req (s.length + (s.length + 1) * b.cps.toList.length ≤ 16777216 ∧ okB (StrLaws.replL a.cps.toList b.cps.toList s) = true) (.ok (.str (StrLaws.replL a.cps.toList b.cps.toList s)))
    | _ => .stuck) (fun m δ => ?_) ((pe_slrep dsl ho.b hu hab hl).imp fun σ H Q ⟨H0, M, δ, d, oo, e, qq⟩ => ?_) (by intro _; rfl)
  · have e : evl L n m (.srep o lo hi a.cps.toList b.cps.toList) δ = (evl L n .bor o δ).bind fun x => (evPl L n hi δ).bind fun h => (slD x (some lo) h).bind fun w => match w with
        | .str s => req (s.length + (s.length + 1) * b.cps.toList.length ≤ 16777216 ∧ okB (StrLaws.replL a.cps.toList b.cps.toList s) = true) (post m (.str (StrLaws.replL a.cps.toList b.cps.toList s)))
        | _ => .stuck := by
      cases hi <;> rfl
    rw [e]
    cases evl L n .bor o δ with
    | ok x =>
      show ((evPl L n hi δ).bind _) = ((evPl L n hi δ).bind _).bind (post m)
      cases evPl L n hi δ with
      | ok h =>
        show ((slD x (some lo) h).bind _) = ((slD x (some lo) h).bind _).bind (post m)
        cases slD x (some lo) h with
        | ok w =>
          cases w <;> first | rfl | skip
          show req _ (post m _) = (req _ (.ok _)).bind (post m)
          unfold req; split <;> rfl
        | _ => rfl
      | _ => rfl
    | _ => rfl
  · obtain ⟨x, e1, e⟩ := R.bind_inv e
    obtain ⟨h, e2, e⟩ := R.bind_inv e
    obtain ⟨w, e3, e⟩ := R.bind_inv e
    cases w <;> first | (cases e; done) | skip
    rename_i s
    obtain ⟨⟨k1, k3⟩, e4⟩ := req_inv e
    cases e4
    refine ⟨H0, M, δ, x, oo, e1, fun M1 H1 v x1 r1 => ⟨lo, rfl, H0, M1, δ, h, oo.up x1, e2, fun M2 H2 x2 => ⟨M2, x, .str s, x2.mh, r1.up x2, e3, fun M3 H3 zz x3 r3 => ?_⟩⟩⟩
    obtain ⟨rfl, _⟩ := RepB.str (H := H3) (.inl r3)
    have er : (Txt.replace ⟨s.toArray⟩ a b).cps.toList = StrLaws.replL a.cps.toList b.cps.toList s := StrLaws.replace_list h1
    have eb : b.length = b.cps.toList.length := by simp [Str.length]
    refine ⟨_, rfl, by rw [str_len, eb]; exact k1, ?_⟩
    have e4 : Txt.replace ⟨s.toArray⟩ a b = ⟨(StrLaws.replL a.cps.toList b.cps.toList s).toArray⟩ := TL.ext_tl (by
      show (Txt.replace ⟨s.toArray⟩ a b).cps.toList = _
      rw [er])
    rw [e4]
    exact qq M3 H3 _ ((x1.trans x2).trans x3) (.str _ fun z hz => of_decide_eq_true (List.all_eq_true.mp k3 z hz))
/-! a written dict, read at a key -/
def pickT (kvs : List (List Nat × Int)) : List (TE × TE) := kvs.map fun kv => (L2.tC (.str ⟨kv.1.toArray⟩), L2.tC (.int kv.2))
def pickK (kvs : List (List Nat × Int)) : List (Key × V) := kvs.map fun kv => (.inr ⟨kv.1.toArray⟩, .int kv.2)
theorem pick_pps {pos : Pos} : ∀ {kvs : List (List Nat × Int)} {ks : List (Option Expr)} {vs : List Expr}, pickB kvs ks vs = true → PPs X pos ks vs (pickT kvs) ∧ ks.all (·.isSome) = true ∧ ks.length = vs.length ∧ ks.length = kvs.length
  | [], [], [], _ => ⟨pps_nil, rfl, rfl, rfl⟩
  | [], [], _ :: _, h => by cases h
  | [], _ :: _, _, h => by cases h
  | (s, i) :: r, [], _, h => by cases h
  | (s, i) :: r, none :: ks, _, h => by cases h
  | (s, i) :: r, some k :: ks, [], h => by
    cases k <;> first | (cases h; done) | skip
    rename_i c _ _
    cases c <;> cases h
  | (s, i) :: r, some k :: ks, v :: vs, h => by
    cases k <;> first | (cases h; done) | skip
    rename_i c k0 p0
    cases c <;> first | (cases h; done) | skip
    rename_i y
    cases v <;> first | (cases h; done) | skip
    rename_i c k1 p1
    cases c <;> first | (cases h; done) | skip
    rename_i j
    obtain ⟨h, h3⟩ := and2 h
    obtain ⟨h1, h2⟩ := and2 h
    have e1 := of_decide_eq_true h1
    have e2 := of_decide_eq_true h2
    subst e1; subst e2
    obtain ⟨g1, g2, g3, g4⟩ := pick_pps (pos := pos) h3
    refine ⟨pps_cons ?_ pe_int g1, by rw [List.all_cons, g2]; rfl, by simp [g3], by simp [g4]⟩
    have e3 : (⟨y.cps.toList.toArray⟩ : Str) = y := rfl
    rw [e3]
    exact pe_str
theorem pick_pairs {σ : L2.St} : ∀ {kvs : List (List Nat × Int)} {H : Hp} {Q : List (V × V) → Hp → Prop}, Q ((pickK kvs).map fun kv => (kV kv.1, kv.2)) H → tPairs (pickT kvs) σ H Q
  | [], _, _, h => h
  | (s, i) :: r, _, _, h => pick_pairs (kvs := r) h
theorem pick_val (kvs : List (List Nat × Int)) (s : List Nat) {i : Int} (h : pickF kvs s = some i) : valV (mergeK [] (pickK kvs)) (.inr ⟨s.toArray⟩) = some (.int i) := by
  have key : ∀ (kvs : List (List Nat × Int)) (acc : List (Key × V)) (a : Option Int), valV acc (.inr ⟨s.toArray⟩) = a.map V.int → valV (mergeK acc (pickK kvs)) (.inr ⟨s.toArray⟩) = (kvs.foldl (fun acc kv => if s = kv.1 then some kv.2 else acc) a).map V.int := by
    intro kvs
    induction kvs with
    | nil => intro acc a h; exact h
    | cons kv r ih =>
      intro acc a h
      refine ih (putK acc (.inr ⟨kv.1.toArray⟩) (.int kv.2)) (if s = kv.1 then some kv.2 else a) ?_
      rw [valV_put]
      by_cases hs : s = kv.1
      · subst hs; rw [if_pos rfl, if_pos rfl]; rfl
      · rw [if_neg hs, if_neg (fun z => hs (by cases z; rfl))]; exact h
  rw [key kvs [] none rfl]
  unfold pickF at h
  rw [h]; rfl
theorem sx_pick {N : List Str} {sc : Scope} (g : Good L n N sc X) {kvs : List (List Nat × Int)} {k : E} {ks : List (Option Expr)} {vs : List Expr} {i : Expr} {p q : Pos} (hB : pickB kvs ks vs = true) (h0 : kvs ≠ []) (h15 : kvs.length ≤ 15) (hk : SX L n X k i) (hn : NoSl i) : SX L n X (.pick kvs k) (.Subscript (.Dict ks vs p) i q) := by
  obtain ⟨g1, g2, g3, g4⟩ := pick_pps (X := X) (pos := p) hB
  have hks : ks ≠ [] := fun z => h0 (List.eq_nil_of_length_eq_zero (by rw [← g4, z]; rfl))
  refine SX.plain (co := fun δ => (evl L n .bor k δ).bind fun x => pickD kvs x) (fun m δ => ?_) ((pe_dget (by have := g.un; omega) (pe_disp g1 g2 g3 hks (by omega)) hk.b hn).imp fun σ H Q ⟨H0, M, δ, d, o, e, qq⟩ => ?_) (by intro _; rfl)
  · show ((evl L n .bor k δ).bind fun x => (pickD kvs x).bind (post m)) = _
    cases evl L n .bor k δ <;> rfl
  · obtain ⟨x, e1, e2⟩ := R.bind_inv e
    cases x <;> first | (cases e2; done) | skip
    rename_i s
    cases hp : pickF kvs s with
    | none => rw [show pickD kvs (.str s) = (match pickF kvs s with | some i => .ok (.int i) | none => .stuck) from rfl, hp] at e2; cases e2
    | some j =>
      rw [show pickD kvs (.str s) = (match pickF kvs s with | some i => .ok (.int i) | none => .stuck) from rfl, hp] at e2
      cases e2
      intro a ha
      refine pick_pairs ⟨upd_same, pickK kvs, rfl, by unfold pickK; rw [List.length_map]; exact h15, ?_⟩
      have e3 : upd (upd H a (.dK [])) a (.dK (mergeK [] (pickK kvs))) = upd H a (.dK (mergeK [] (pickK kvs))) := by
        funext b
        by_cases hb : b = a
        · subst hb; rw [upd_same, upd_same]
        · rw [upd_ne hb, upd_ne hb, upd_ne hb]
      rw [e3]
      have x1 := Xt.lay (o := .dK (mergeK [] (pickK kvs))) o.ex ha
      refine ⟨H0, M, δ, .str s, o.up x1, e1, fun M2 H2 v x2 r2 => ?_⟩
      obtain ⟨rfl, _⟩ := r2.str
      refine ⟨a, .int j, rfl, ?_, qq M2 H2 _ (x1.trans x2) (.int j)⟩
      have := DGet.k (H := H2) (a := a) (k := .inr ⟨s.toArray⟩) (x2.h _ _ upd_same)
      rw [pick_val kvs s hp] at this
      exact this
end
section
variable {L : Lw} {n : Nat} {N : List Str}
theorem Reps.rep {K : PySem.W.Frag} {M : Hp} {ds : List D} {vs : List V} (h : Reps K M ds vs) : ∀ k : Nat, Reps K M (List.replicate k ds).flatten (List.replicate k vs).flatten
  | 0 => .nil
  | k + 1 => by
    rw [List.replicate_succ, List.replicate_succ, List.flatten_cons, List.flatten_cons]
    exact h.append (Reps.rep h k)
theorem sx_rep {X : Cx} {as : List E} {b : E} {xs : List Expr} {y : Expr} {p pos : Pos} (ha : SL L n X as xs) (hb : SX L n X b y) : SX L n X (.rep as b) (.BinOp (.List xs p) .Mult y pos) := by
  refine SX.plain (co := fun δ => (evsl L n as δ).bind fun xs => (evl L n .bor b δ).bind fun y => match y with
    | .int k => req (xs.length ≤ LIM ∧ -2147483648 < k ∧ k < 2147483648 ∧ xs.length * k.toNat ≤ LIM) (.ok (.lst (List.replicate k.toNat xs).flatten))
    | _ => .stuck) (fun m δ => ?_) ((pe_op op_rep (pe_lstL ha) hb.b).imp fun σ H Q ⟨H0, M, δ, d, o, e, q⟩ => ?_) (by intro _; rfl)
  · show ((evsl L n as δ).bind fun xs => (evl L n .bor b δ).bind fun y => match y with
      | .int k => req (xs.length ≤ LIM ∧ -2147483648 < k ∧ k < 2147483648 ∧ xs.length * k.toNat ≤ LIM) (post m (.lst (List.replicate k.toNat xs).flatten))
      | _ => .stuck) = _
    cases evsl L n as δ with
    | ok xs =>
      cases evl L n .bor b δ with
      | ok y =>
        cases y <;> first | rfl | skip
        show req _ (post m _) = (req _ (.ok _)).bind (post m)
        unfold req; split <;> rfl
      | _ => rfl
    | _ => rfl
  · obtain ⟨ds, e1, e⟩ := R.bind_inv e
    obtain ⟨y, e2, e3⟩ := R.bind_inv e
    cases y <;> first | (cases e3; done) | skip
    rename_i k
    obtain ⟨⟨k1, k2, k3, k4⟩, e3⟩ := req_inv e3
    cases e3
    refine ⟨H0, M, δ, ds, o, (show ((evsl L n as δ).bind fun xs => req (xs.length ≤ LIM) (.ok xs)) = .ok ds by rw [e1]; exact req_pos k1), fun M1 H1 a vs x1 n0 n1 h1 r1 => ⟨H0, M1, δ, .int k, o.up x1, e2, fun M2 H2 u x2 r2 => ?_⟩⟩
    cases r2.int
    refine ⟨a, k, vs, rfl, rfl, x2.h _ _ h1, by omega, by omega, by rw [← r1.length, ← lim_eq]; exact k4, fun c hc => ?_⟩
    have x3 := Xt.new (o := .lst (List.replicate k.toNat vs).flatten) x2.mh hc
    exact q _ _ _ ((x1.trans x2).trans x3) (.lst (.inl (.inl upd_same)) ((r1.rep k.toNat).up (x2.m.trans x3.m)))
theorem sx_stuck {X : Cx} {e : E} {x : Expr} (h : ∀ m δ d, evl L n m e δ ≠ .ok d) : SX L n X e x :=
  ⟨⟨fun _ _ _ _ _ _ ⟨_, _, _, _, _, e, _⟩ => absurd e (h _ _ _)⟩, ⟨fun _ _ _ _ _ _ ⟨_, _, _, _, _, e, _⟩ => absurd e (h _ _ _)⟩, ⟨fun _ _ _ _ _ _ ⟨_, _, _, _, _, e, _⟩ => absurd e (h _ _ _)⟩⟩
theorem pts_of {sc : Scope} {X : Cx} {c : E} {ifs : List Expr} (h : (c = .nop ∧ ifs = []) ∨ (c ≠ .nop ∧ ∃ t, ifs = [t] ∧ SX L n X c t)) : PTs X ifs (tK X.K (evCl L n c)) := by
  rcases h with ⟨rfl, rfl⟩ | ⟨hc, t, rfl, s⟩
  · refine ⟨fun pins s σ H Q I ⟨H0, M, δ, b, o, e, q⟩ => pts_nil.run pins s σ H Q I ?_⟩
    cases e
    exact q M H (Xt.refl o.ex)
  · have e : evCl L n c = evl L n .test c := by
      funext δ
      cases c <;> first | rfl | exact absurd rfl hc
    rw [e]
    exact pts_one s.t
theorem po_of {X : Cx} {e : E} {o : Option Expr} (h : (e = .nop ∧ o = none) ∨ (e ≠ .nop ∧ ∃ x, o = some x ∧ SX L n X e x)) : PO X o (tP X.K (evPl L n e)) := by
  rcases h with ⟨rfl, rfl⟩ | ⟨he, x, rfl, s⟩
  · exact po_nop
  · exact po_e s he
theorem tup_inv {tg : Expr} (h : isTupE tg = true) : ∃ es k p, tg = .Tuple es k p := by
  cases tg <;> first | (cases h; done) | skip
  exact ⟨_, _, _, rfl⟩
theorem src_noset {tg it : Expr} {L' : Nm} {N' : List Str} {sc' : Scope} {src : E} (h : srcB L' N' sc' tg it src = true) : ∀ es k p, it ≠ .Set es k p := noSet (and2 h).2
theorem src_tup {tg it : Expr} {L' : Nm} {N' : List Str} {sc' : Scope} {src : E} (h : srcB L' N' sc' tg it src = true) (hp : needTup src = true) : ∃ es k p, tg = .Tuple es k p := by
  have h := (and2 h).1
  rw [hp, Bool.not_true, Bool.or_false] at h
  exact tup_inv h
mutual
theorem sE : ∀ (e : E) {sc : Scope} {X : Cx} {x : Expr}, Good L n N sc X → mE L.nm N sc e x = true → SX L n X e x
  | .var i, sc, X, x, g, h => by
    cases x <;> first | (cases h; done) | skip
    obtain ⟨h1, h2⟩ := and2 h
    exact sx_var g (of_decide_eq_true h1) h2
  | .int i, sc, X, x, g, h => by
    cases x <;> first | (cases h; done) | skip
    rename_i c k p
    cases c <;> first | (cases h; done) | skip
    have e := of_decide_eq_true h
    subst e
    exact sx_int
  | .str s, sc, X, x, g, h => by
    cases x <;> first | (cases h; done) | skip
    rename_i c k p
    cases c <;> first | (cases h; done) | skip
    obtain ⟨h1, h2⟩ := and2 h
    exact sx_str (of_decide_eq_true h1) fun z hz => of_decide_eq_true (List.all_eq_true.mp h2 z hz)
  | .bl b, sc, X, x, g, h => by
    have hx : isBoolC b x = true := by
      cases x <;> first | (cases h; done) | skip
      rename_i c _ _
      cases c <;> first | (cases h; done) | exact h
    obtain ⟨k, p, rfl⟩ := isBoolC_inv hx
    exact sx_bl
  | .non, sc, X, x, g, h => by
    have hx : isNoneC x = true := by
      cases x <;> first | (cases h; done) | skip
      rename_i c _ _
      cases c <;> first | (cases h; done) | rfl
    obtain ⟨k, p, rfl⟩ := isNoneC_inv hx
    exact sx_non
  | .glob i, sc, X, x, g, h => by
    cases x <;> first | (cases h; done) | skip
    obtain ⟨h1, h2⟩ := and2 h
    exact sx_glob g (of_decide_eq_true h1) h2
  | .op o a b, sc, X, x, g, h => by
    cases x <;> first | (cases h; done) | skip
    obtain ⟨h, h3⟩ := and2 h
    obtain ⟨h1, h2⟩ := and2 h
    exact sx_op h1 (sE a g h2) (sE b g h3)
  | .neg a, sc, X, x, g, h => by
    cases x <;> first | (cases h; done) | skip
    rename_i o y p
    cases o <;> first | (cases h; done) | skip
    exact sx_neg (sE a g h)
  | .cmp c a b, sc, X, x, g, h => by
    obtain ⟨l, p, r, q, rfl, h1, h2, h3⟩ := cmp_inv h
    exact sx_cmp g h1 (sE a g h2) (sE b g h3) (marks (c := c) h3)
  | .chain c c' a b d, sc, X, x, g, h => by
    obtain ⟨l, p, p', r, r', q, rfl, h1, h2, h3, h4, h5⟩ := chain_inv h
    exact sx_chain g h1 h2 (sE a g h3) (sE b g h4) (sE d g h5) (marks (c := c) h5)
  | .isN a, sc, X, x, g, h => by
    obtain ⟨l, k, p, q, rfl, h1⟩ := isN_inv h
    exact sx_isN (sE a g h1)
  | .notN a, sc, X, x, g, h => by
    obtain ⟨l, k, p, q, rfl, h1⟩ := notN_inv h
    exact sx_notN (sE a g h1)
  | .isB b a, sc, X, x, g, h => by
    obtain ⟨l, k, p, q, rfl, h1⟩ := isB_inv h
    exact sx_isB (sE a g h1)
  | .notB b a, sc, X, x, g, h => by
    obtain ⟨l, k, p, q, rfl, h1⟩ := notB_inv h
    exact sx_notB (sE a g h1)
  | .and as, sc, X, x, g, h => by
    cases x <;> first | (cases h; done) | skip
    rename_i o y p
    cases o <;> first | (cases h; done) | skip
    exact sx_and (sEs as g h)
  | .or as, sc, X, x, g, h => by
    cases x <;> first | (cases h; done) | skip
    rename_i o y p
    cases o <;> first | (cases h; done) | skip
    exact sx_or (sEs as g h)
  | .not a, sc, X, x, g, h => by
    cases x <;> first | (cases h; done) | skip
    rename_i o y p
    cases o <;> first | (cases h; done) | skip
    exact sx_not (sE a g h)
  | .ite c a b, sc, X, x, g, h => by
    cases x <;> first | (cases h; done) | skip
    obtain ⟨h, h3⟩ := and2 h
    obtain ⟨h1, h2⟩ := and2 h
    exact sx_ite (sE c g h1) (sE a g h2) (sE b g h3)
  | .tup as, sc, X, x, g, h => by
    cases x <;> first | (cases h; done) | skip
    exact sx_tup (sEs as g h)
  | .lst as, sc, X, x, g, h => by
    cases x <;> first | (cases h; done) | skip
    exact sx_lst (sEs as g h)
  | .dnew, sc, X, x, g, h => by
    cases x <;> first | (cases h; done) | skip
    rename_i a b p
    cases a <;> first | (cases h; done) | skip
    cases b <;> first | (cases h; done) | skip
    exact sx_dnew
  | .call f as, sc, X, x, g, h => by
    obtain ⟨y, p, xs, q, rfl, h0, h1, h2, h3⟩ := call_inv h
    exact sx_call g h0 h1 h2 (sEs as g h3) h3
  | .blt f as, sc, X, x, g, h => by
    by_cases hf : ∃ t, f = .isi t
    · obtain ⟨t, rfl⟩ := hf
      obtain ⟨y, p, l, r, q, rfl, h1, h2, h3⟩ := isi_inv h
      cases as with
      | nil => have := mEs_nil h3; cases this
      | cons a as =>
        obtain ⟨y', ys, e, h4, h5⟩ := mEs_cons h3
        cases e
        cases as with
        | cons b bs => obtain ⟨_, _, e, _⟩ := mEs_cons h5; cases e
        | nil => exact sx_isi g h1 h2 (sE a g h4) (mE_ns h4)
    · obtain ⟨y, p, xs, q, rfl, h0, h1, h2⟩ := blt_inv (fun t z => hf ⟨t, z⟩) h
      exact sx_blt g h0 (fun t z => hf ⟨t, z⟩) h1 (sEs as g h2) h2
  | .mth m o as, sc, X, x, g, h => by
    obtain ⟨y, p, xs, q, rfl, h1, h2, h3, h4, h5⟩ := mth_inv h
    exact sx_mth g h1 h2 h3 (sE o g h4) (sEs as g h5) h5
  | .ix a i, sc, X, x, g, h => by
    obtain ⟨y, z, q, rfl, h1, h2⟩ := ix_inv h
    exact sx_ix (sE a g h1) (sE i g h2) (plainIx h2)
  | .sl a lo hi, sc, X, x, g, h => by
    obtain ⟨y, l, u, p, q, rfl, h1, h2, h3⟩ := sl_inv h
    refine sx_sl (sE a g h1) (po_of ?_) (po_of ?_)
    · rcases h2 with h2 | ⟨e, x, e2, h2⟩
      · exact .inl h2
      · exact .inr ⟨e, x, e2, sE lo g h2⟩
    · rcases h3 with h3 | ⟨e, x, e2, h3⟩
      · exact .inl h3
      · exact .inr ⟨e, x, e2, sE hi g h3⟩
  | .nop, sc, X, x, g, h => by cases h
  | .lc ws ts src c e, sc, X, x, g, h => by
    obtain ⟨elt, tg, it, ifs, scope, q, rfl, h0, h1, h2, h3, h4, h5, h6, h7⟩ := lc_inv h
    refine sx_lc g (pe_lcL g h0 h1 h2 h3 h4 ?_ (src_noset h5) (fun Y gy => pts_of (sc := sc) ?_) (fun Y gy => (sE e gy h7).v)) (by intro _; rfl)
    · cases src with
      | rng as =>
        obtain ⟨y, p, xs, q, rfl, k1, k2⟩ := rng_inv (and2 h5).2
        exact px_rng g true k1 (sEs as g k2) k2
      | zip a b =>
        obtain ⟨es, k, tp, rfl⟩ := src_tup h5 rfl
        obtain ⟨y, p, l, r, q, rfl, k1, k2, k3⟩ := zip_inv (and2 h5).2
        exact px_zip g true k1 (sE a g k2) (sE b g k3) (mE_ns k2) (mE_ns k3)
      | enum a =>
        obtain ⟨es, k, tp, rfl⟩ := src_tup h5 rfl
        obtain ⟨y, p, l, q, rfl, k1, k2⟩ := enum_inv (and2 h5).2
        exact px_enum g true k1 (sE a g k2) (mE_ns k2)
      | _ => exact px_e true (sE _ g (and2 h5).2) rfl
    · rcases h6 with h6 | ⟨e1, t, e2, h6⟩
      · exact .inl h6
      · exact .inr ⟨e1, t, e2, sE c gy h6⟩
  | .rep as b, sc, X, x, g, h => by
    cases x <;> first | (cases h; done) | skip
    rename_i l o y p
    cases l <;> first | (cases h; done) | skip
    cases o <;> first | (cases h; done) | skip
    obtain ⟨h1, h2⟩ := and2 h
    exact sx_rep (sEs as g h1) (sE b g h2)
  | .qrep c o y z, sc, X, x, g, h => by
    obtain ⟨c', k, p0, r, nm, p, a, j1, c0, b, j2, c1, q, pos, rfl, h⟩ := qrep_inv h
    obtain ⟨h, h10⟩ := and2 h
    obtain ⟨h, h9⟩ := and2 h
    obtain ⟨h, h8⟩ := and2 h
    obtain ⟨h, h7⟩ := and2 h
    obtain ⟨h, h6⟩ := and2 h
    obtain ⟨h, h5⟩ := and2 h
    obtain ⟨h, h4⟩ := and2 h
    obtain ⟨h, h3⟩ := and2 h
    obtain ⟨h1, h2⟩ := and2 h
    have e1 := of_decide_eq_true h1
    have e2 := of_decide_eq_true h3
    have e3 := of_decide_eq_true h6
    have e4 := of_decide_eq_true h7
    subst e1; subst e2; subst e3; subst e4
    exact sx_qrep (sE o g h10) h4 h5 (by simpa using h8) (of_decide_eq_true h9) fun z hz => of_decide_eq_true (List.all_eq_true.mp h2 z hz)
  | .srep o lo hi y z, sc, X, x, g, h => by
    obtain ⟨r, i, k0, p0, u, p1, p2, nm, p, a, j1, c0, b, j2, c1, q, rfl, h, hu, ho⟩ := srep_inv h
    obtain ⟨h, h7⟩ := and2 h
    obtain ⟨h, h6⟩ := and2 h
    obtain ⟨h, h5⟩ := and2 h
    obtain ⟨h, h4⟩ := and2 h
    obtain ⟨h, h3⟩ := and2 h
    obtain ⟨h1, h2⟩ := and2 h
    have e1 := of_decide_eq_true h1
    have e2 := of_decide_eq_true h2
    have e3 := of_decide_eq_true h4
    have e4 := of_decide_eq_true h5
    subst e1; subst e2; subst e3; subst e4
    refine sx_srep (sE o g ho) (po_of ?_) h3 (by simpa using h6) (of_decide_eq_true h7)
    rcases hu with hu | ⟨e, x, e2, hu⟩
    · exact .inl hu
    · exact .inr ⟨e, x, e2, sE hi g hu⟩
  | .pick kvs k, sc, X, x, g, h => by
    cases x <;> first | (cases h; done) | skip
    rename_i dd i q
    cases dd <;> first | (cases h; done) | skip
    obtain ⟨h, h4⟩ := and2 h
    obtain ⟨h, h3⟩ := and2 h
    obtain ⟨h1, h2⟩ := and2 h
    exact sx_pick g h1 (of_decide_eq_true h2) (of_decide_eq_true h3) (sE k g h4) (plainIx h4)
  | .rng _, sc, X, x, g, h => sx_stuck fun m δ d e => by cases e
  | .zip _ _, sc, X, x, g, h => sx_stuck fun m δ d e => by cases e
  | .enum _, sc, X, x, g, h => sx_stuck fun m δ d e => by cases e
  | .repl _ _ _, sc, X, x, g, h => by cases h
  | .rev a, sc, X, x, g, h => by
    obtain ⟨r, k, p1, p2, p3, pos, rfl, h1⟩ := rev_inv h
    exact sx_rev (sE a g h1)
  | .srt f a, sc, X, x, g, h => by
    obtain ⟨p, l, z, pz, pk, q, rfl, h0, h1, h2, h3, h4⟩ := srt_inv h
    exact sx_srt g h0 h1 h2 h3 (sE a g h4) (mE_ns h4)
  | .bcall f as, sc, X, x, g, h => by
    obtain ⟨y, p, xs, q, rfl, h0, h1, h2, h3⟩ := bcall_inv h
    exact sx_bcall g h0 h1 h2 (sEs as g h3) h3
theorem sEs : ∀ (as : List E) {sc : Scope} {X : Cx} {xs : List Expr}, Good L n N sc X → mEs L.nm N sc as xs = true → SL L n X as xs
  | [], sc, X, xs, g, h => by rw [mEs_nil h]; exact sl_nil
  | a :: as, sc, X, xs, g, h => by
    obtain ⟨y, ys, rfl, h1, h2⟩ := mEs_cons h
    exact sl_cons (sE a g h1) (sEs as g h2) (fun zs env => star_ns (mE_ns h1) zs env) (mEs_len h2)
end
end
end Fw

/-! except suites -/
namespace Fw
open PySem PySem.Spec PyProof.Rows L2
open Evl (Ex ex_rd ex_l ex_t)
def hotL (L : Nm) : Nm := { L with hot := true }
def hotW (L : Lw) : Lw := { L with nm := hotL L.nm }
def clB (L : Nm) (sc : Scope) (h : Nat) : Expr → Bool
  | .Name c _ => decide (L.EN[h]? = some c) && glB sc c && !(c == nmn)
  | _ => false
def clsB (L : Nm) (sc : Scope) : List Nat → List Expr → Bool
  | [], [] => true
  | h :: hs, x :: xs => clB L sc h x && clsB L sc hs xs
  | _, _ => false
def errB (N : List Str) (sc : Scope) : Option Nat → Expr → Bool
  | some i, .Name v _ => decide (N[i]? = some v) && visB sc v
  | _, _ => false
def isStarE : Expr → Bool
  | .Starred _ _ => true | _ => false
mutual
def mU (L : Nm) (N : List Str) (sc : Scope) (er : Option Nat) : U → Expr → Bool
  | .e a, x => mE (hotL L) N sc a x
  | .isx h, x => match x with
    | .Call (.Name f _) [v, c] [] _ => bnB L sc f "isinstance" && errB N sc er v && clB L sc h c
    | _ => false
  | .isT hs, x => match x with
    | .Call (.Name f _) [v, .Tuple cs _ _] [] _ => bnB L sc f "isinstance" && errB N sc er v && clsB L sc hs cs && decide (hs.length ≤ 100)
    | _ => false
  | .no a, x => match x with
    | .UnaryOp .Not y _ => mU L N sc er a y
    | _ => false
  | .an a b, x => match x with
    | .BoolOp .And [y, z] _ => mU L N sc er a y && mU L N sc er b z
    | _ => false
  | .orr a b, x => match x with
    | .BoolOp .Or [y, z] _ => mU L N sc er a y && mU L N sc er b z
    | _ => false
  | .callE f, x => match x with
    | .Call (.Name y _) [v] [] _ => decide (f ∈ L.HF) && decide (L.FN[f]? = some y) && glB sc y && errB N sc er v
    | _ => false
  | .ls us, x => match x with
    | .List xs _ => mUs L N sc er us xs
    | _ => false
def mUs (L : Nm) (N : List Str) (sc : Scope) (er : Option Nat) : List U → List Expr → Bool
  | [], xs => xs.isEmpty
  | u :: us, xs => match xs with
    | y :: ys => mU L N sc er u y && !isStarE y && mUs L N sc er us ys
    | _ => false
end
def mSU (L : Nm) (N : List Str) (sc : Scope) (er : Option Nat) : List SU → List Stmt → Bool
  | [], [] => true
  | .ret u :: ss, .Return (some v) _ :: ys => mU L N sc er u v && mSU L N sc er ss ys
  | .ifr u r :: ss, .If t [.Return (some v) _] [] _ :: ys => mU L N sc er u t && mU L N sc er r v && mSU L N sc er ss ys
  | _, _ => false

/-- isinstance(e, (c1, ..)), e the exception that the suite holds -/
def rIsET (K : PySem.W.Frag) (D a : Addr) : List V → Hp → VK → Prop := fun xs H Q => ∃ (tp : Addr) (cs : List V) (us : List Value) (b : Bool), xs = [.ref a, .ref tp] ∧ H tp = some (.tup cs) ∧ (∀ ws, Vals cs ws → ws = us) ∧ PySem.W.kitAny K (.ref D) us = some b ∧ Q (.bl b) H
theorem call_isET {X : Cx} {a D : Addr} {oe : Obj} (hm : (a, oe) ∈ X.pn) (C : ExcC X.K D) (hz : Zc (.ref D) none oe) (hf : ∃ vs, oe.data = .fields vs) : CallR X (.builtin "isinstance") (rIsET X.K D a) := by
  intro pins s σ H xs us Q I r h
  obtain ⟨tp, cs, ws, b, rfl, hT, hu, e, q⟩ := h
  cases r with
  | cons rx rr =>
    cases rr with
    | cons rt rr =>
      cases rr
      cases rx
      cases rt
      obtain ⟨hget, _⟩ := I.pin (a, oe) (List.mem_append_left _ hm)
      obtain ⟨vs, hv⟩ := hf
      have J : PySem.W.InstAt s.heap a oe D none := by
        obtain ⟨oc, od, oda, osl⟩ := oe
        obtain ⟨h1, h2⟩ := hz
        dsimp only at h1 h2 hv
        subst h1 h2 hv
        exact ⟨hget, rfl, rfl, trivial⟩
      obtain ⟨_, its, rv, o, h1, h2, n, h3⟩ := (show ObjOk X.prog X.w H s.heap tp (.tup cs) from I.hok tp _ hT)
      have e3 := hu _ rv
      subst e3
      obtain ⟨oc, od, dt, sl⟩ := o
      simp only at h2 h3
      subst h2 h3
      exact PySem.W.kia_tup (PySem.W.handS_kitx_exc C.hg C.hk C.hs C.hd C.ha C.hn C.ht C.hm) I.kIn J h1 e (fun z => nomatch z) fun tk => ⟨.bl b, H, I.tok tk, rfl, q⟩

theorem call_isE1 {X : Cx} {a D : Addr} {oe : Obj} (hm : (a, oe) ∈ X.pn) (C : ExcC X.K D) (hz : Zc (.ref D) none oe) (hf : ∃ vs, oe.data = .fields vs) : CallR X (.builtin "isinstance") (rIsE X.K D a) := by
  intro pins s σ H xs us Q I r h
  obtain ⟨cc, cv, b, rfl, hcv, ee, q⟩ := h
  cases r with
  | cons rx rr =>
    cases rr with
    | cons rt rr =>
      cases rr
      cases rx
      have ec := hcv _ rt
      subst ec
      obtain ⟨hget, _⟩ := I.pin (a, oe) (List.mem_append_left _ hm)
      obtain ⟨vs, hv⟩ := hf
      have J : PySem.W.InstAt s.heap a oe D none := by
        obtain ⟨oc, od, oda, osl⟩ := oe
        obtain ⟨h1, h2⟩ := hz
        dsimp only at h1 h2 hv
        subst h1 h2 hv
        exact ⟨hget, rfl, rfl, trivial⟩
      exact PySem.W.kia_one (PySem.W.handS_kitx_exc C.hg C.hk C.hs C.hd C.ha C.hn C.ht C.hm) I.kIn J ee (fun z => nomatch z) fun tk => ⟨.bl b, H, I.tok tk, rfl, q⟩
section
variable (L : Lw) (n : Nat) (N : List Str) (sc : Scope) (X : Cx) (er : Option Nat) (a : Addr) (c : Nat)
def errAt : Option Nat → Addr → L2.St → Prop
  | none, _, _ => True
  | some i, a, σ => σ[i]? = some (some (.ref a))
/-- what stands within a suite that holds an exception of the class c at a -/
structure Sui : Prop where
  g : Good (hotW L) n N sc X
  e : ∃ oe : Obj, (a, oe) ∈ X.pn ∧ L2H.Hot1 X.A (a, oe) ∧ L2N.Zn (cvOf X.mg L.nm c) none oe ∧ ∃ vs, oe.data = .fields vs
  c2 : 2 ≤ c
  cm : c < L.nm.RN
abbrev evUl (m : Md) (u : U) : En → R D := evU (run L.Γ L.G n) L.G m c u
abbrev evUsl (us : List U) : En → R (List D) := evUs (run L.Γ L.G n) L.G c us
def tE (co : En → R D) : TE := fun σ H Q => errAt er a σ ∧ tC X.K co σ H Q
def tEK (co : En → R D) : TT := fun σ H Q => errAt er a σ ∧ tK X.K co σ H Q
structure UX (u : U) (x : Expr) : Prop where
  v : PE X x (tE X er a (evUl L n c .val u))
  t : PT X x (tEK X er a (evUl L n c .test u))
end
section
variable {L : Lw} {n : Nat} {N : List Str} {sc : Scope} {X : Cx} {er : Option Nat} {a : Addr} {c : Nat}
theorem Sui.ro (S : Sui L n N sc X a c) : ROk X.K X.mg L.nm c := ⟨(S.g.fs.excs c S.c2 S.cm).own, (S.g.fs.excs c S.c2 S.cm).sub⟩
theorem Sui.D (S : Sui L n N sc X a c) : ∃ D, cvOf X.mg L.nm c = .ref D ∧ CallR X (.builtin "isinstance") (rIsE X.K D a) ∧ CallR X (.builtin "isinstance") (rIsET X.K D a) := by
  obtain ⟨C, hM, hC, k1, k2, k3, k4, k5⟩ := S.ro.own
  obtain ⟨oe, hm, _, hz, hf⟩ := S.e
  rw [hC] at hz
  exact ⟨C, hC, call_isE1 hm k5 hz.zc hf, call_isET hm k5 hz.zc hf⟩
/-- a call of a def with the error -/
theorem pe_callE (S : Sui L n N sc X a c) {f : Nat} {y : Str} {v : Expr} {p pos : Pos} (h1 : f ∈ L.nm.HF) (h2 : L.nm.FN[f]? = some y) (h3 : glB sc y = true) (hn : notStar v = true) (hv : PE X v (fun σ H Q => errAt er a σ ∧ Q (.ref a) H)) :
    PE X (.Call (.Name y p) [v] [] pos) (tE X er a (fun _ => (run L.Γ L.G n f [.ins c []]).bind fun r => .ok r.1)) := by
  obtain ⟨v1, v2⟩ := glB_ok h3
  obtain ⟨fa, k1, k2, k3⟩ := S.g.fs.hots f y h1 h2
  obtain ⟨oe, hm, hh, hz, hf⟩ := S.e
  have A := pa_cons hv pa_nil (star_ns hn _ _)
  refine ⟨fun pins s σ H Q I ⟨h0, H0, M, δ, d, o, e, q⟩ => ?_⟩
  obtain ⟨r, e1, e2⟩ := R.bind_inv e
  cases e2
  refine wpAny_Call_Name_kw (ld_glob I (S.g.gl v1) k1 ?_ v2)
  refine PySem.W.callWith_K (h₀ := X.base) I.ok.mod.kin k2 (thn (A.run pos pins s σ H (fun vs H1 => vs = [V.ref a] ∧ H1 = H) I ⟨h0, rfl, rfl⟩) fun us s1 ⟨vs, H1, I1, r1, ev, eH⟩ => ⟨I1.kIn, ?_⟩) (star_ns hn _ _) rfl
  subst ev
  subst eH
  cases r1 with
  | cons r1 rr =>
    cases rr
    cases r1
    have P1 := I1.pin (a, oe) (List.mem_append_left _ hm)
    have hpin : L2H.PinOk X.stack H1 s1 (a, oe) := ⟨P1.1, P1.2.1, fun hx => (List.mem_cons.mp (I1.stkSub a hx)).elim P1.2.2.1 P1.2.2.2.1, P1.2.2.2.2⟩
    refine wpAny_call (codeAny_mono (k3 X.A X.stack s1 H1 a oe c Q E0 S.g.rmh hh hpin I1.env0 S.c2 S.cm hz hf ⟨M, r, o.ex, e1, fun M' H' w x r => q M' H' w x r⟩) fun res s' hq => ?_)
    cases res with
    | error z => exact False.elim hq
    | ok fl =>
      cases fl with
      | ret u => exact I1.after hq
      | next => exact False.elim hq
      | brk => exact False.elim hq
      | cont => exact False.elim hq
theorem err_pe (S : Sui L n N sc X a c) {x : Expr} (h : errB N sc er x = true) : notStar x = true ∧ PE X x (fun σ H Q => errAt er a σ ∧ Q (.ref a) H) := by
  cases er with
  | none => cases h
  | some i =>
    cases x <;> first | (cases h; done) | skip
    rename_i v p
    obtain ⟨h1, h2⟩ := and2 h
    obtain ⟨v1, v2, v3⟩ := visB_ok h2
    exact ⟨rfl, (pe_var (X := X) (i := i) (x := v) (pos := p) (by rw [S.g.hN]; exact of_decide_eq_true h1) (by rw [S.g.hsc]; exact v1) v2 v3).imp fun σ H Q ⟨e, q⟩ => ⟨_, e, q⟩⟩
theorem cl_pe (S : Sui L n N sc X a c) {h : Nat} {x : Expr} (hB : clB L.nm sc h x = true) : notStar x = true ∧ h < L.nm.EN.length ∧ ∃ v, (∀ u, RelV v u → u = cvOf X.mg L.nm h) ∧ PE X x (L2.tC v) := by
  cases x <;> first | (cases hB; done) | skip
  rename_i y p
  obtain ⟨hB, h3⟩ := and2 hB
  obtain ⟨h1, h2⟩ := and2 hB
  have h1 := of_decide_eq_true h1
  obtain ⟨v1, v2⟩ := glB_ok h2
  obtain ⟨hn, hd, v, r, hu⟩ := S.g.fs.enm h y h1
  refine ⟨rfl, ?_, v, hu, ?_⟩
  · rw [List.getElem?_eq_some_iff] at h1
    exact h1.1
  · rcases hn with hn | ⟨hn, hb, hx⟩
    · exact pe_glob (S.g.gl v1) hn r v2
    · exact pe_bltn (S.g.gl v1) hn hb r hx v2
theorem cls_pe (S : Sui L n N sc X a c) : ∀ {hs : List Nat} {xs : List Expr}, clsB L.nm sc hs xs = true → ∃ vs, (∀ ws, Vals vs ws → ws = hs.map (cvOf X.mg L.nm)) ∧ PySem.W.kitAny X.K (cvOf X.mg L.nm c) (hs.map (cvOf X.mg L.nm)) = some (hs.any (subc c)) ∧ vs.length = hs.length ∧ PA X xs (fun _ H Q => Q vs H)
  | [], [], _ => ⟨[], fun ws h => by cases h; rfl, rfl, rfl, pa_nil⟩
  | [], _ :: _, h => by cases h
  | _ :: _, [], h => by cases h
  | h :: hs, x :: xs, hB => by
    obtain ⟨h1, h2⟩ := and2 (show (clB L.nm sc h x && clsB L.nm sc hs xs) = true from hB)
    obtain ⟨n1, lt, v, hu, p⟩ := cl_pe S h1
    obtain ⟨vs, k1, k2, k3, k4⟩ := cls_pe S h2
    have kk := (S.ro.sub h lt).2
    refine ⟨v :: vs, fun ws hw => ?_, ?_, by simp [k3], (pa_cons p k4 (star_ns n1 _ _)).imp fun σ H Q q => q⟩
    · cases hw with
      | cons r rr =>
        rw [hu _ r, k1 _ rr]; rfl
    · refine kitAny_cons kk (fun hb => ?_) (fun hb => ?_)
      · rw [List.any_cons, hb, Bool.false_or]; exact k2
      · rw [List.any_cons, hb]; rfl
theorem tE_bl {co : En → R D} {x : Expr} (p : PE X x (tE X er a co)) (hb : ∀ δ d, co δ = .ok d → ∃ b, d = .bl b) (he : ∀ whole, isTrue x X.env whole = (do let v ← whole; standAt x.pos; holding [v] (truthy v))) : PT X x (tEK X er a co) :=
  (pt_truth p he).imp fun σ H Q ⟨h0, H0, M, δ, b, o, e, q⟩ => ⟨h0, H0, M, δ, _, o, e, fun M' H' v x r => by
    exact ⟨b, tru_d rfl r.b x.mh, q M' H' x⟩⟩
mutual
theorem sU (S : Sui L n N sc X a c) : ∀ (u : U) {x : Expr}, mU L.nm N sc er u x = true → UX L n X er a c u x
  | .e e, x, h => by
    have z := sE e S.g (show mE (hotL L.nm) N sc e x = true from h)
    exact ⟨z.v.imp fun σ H Q q => q.2, z.t.imp fun σ H Q q => q.2⟩
  | .isx k, x, h => by
    cases x <;> first | (cases h; done) | skip
    rename_i fn xs ks q
    cases fn <;> first | (cases h; done) | skip
    rename_i y p
    cases xs with
    | nil => cases h
    | cons v xs =>
    cases xs with
    | nil => cases h
    | cons z xs =>
    cases xs with
    | cons _ _ => cases h
    | nil =>
    cases ks with
    | cons _ _ => cases h
    | nil =>
      obtain ⟨h, h3⟩ := and2 h
      obtain ⟨h1, h2⟩ := and2 h
      obtain ⟨rfl, v1, v2, v3, v4⟩ := bnB_ok h1
      obtain ⟨n1, pv⟩ := err_pe S h2
      obtain ⟨n2, lt, w, hu, pc⟩ := cl_pe S h3
      obtain ⟨D, hD, C1, _⟩ := S.D
      have kk := (S.ro.sub k lt).2
      rw [hD] at kk
      have A := pa_cons pv (pa_cons pc pa_nil (star_ns n2 _ _)) (star_ns n1 _ _)
      have P : PE X (.Call (.Name "isinstance" p) [v, z] [] q) (tE X er a (evUl L n c .val (.isx k))) :=
        (pe_callB C1 (S.g.gl v1) (S.g.fs.blts _ v3) PyProof.Rows.boot_isinstance A v4 v2 (star_ns n1 _ _) (by rw [star_ns n2]; rfl)).imp fun σ H Q ⟨h0, H0, M, δ, d, o, e, q⟩ => by
          cases e
          exact ⟨h0, w, _, _, rfl, hu, kk, q M H _ (Xt.refl o.ex) (.bl _)⟩
      exact ⟨P, tE_bl P (fun δ d e => by cases e; exact ⟨_, rfl⟩) (by intro _; rfl)⟩
  | .isT ks', x, h => by
    cases x <;> first | (cases h; done) | skip
    rename_i fn xs ks q
    cases fn <;> first | (cases h; done) | skip
    rename_i y p
    cases xs with
    | nil => cases h
    | cons v xs =>
    cases xs with
    | nil => cases h
    | cons z xs =>
    cases z <;> first | (cases h; done) | skip
    rename_i cs kt tp
    cases xs with
    | cons _ _ => cases h
    | nil =>
    cases ks with
    | cons _ _ => cases h
    | nil =>
      obtain ⟨h, h4⟩ := and2 h
      obtain ⟨h, h3⟩ := and2 h
      obtain ⟨h1, h2⟩ := and2 h
      have h4 := of_decide_eq_true h4
      obtain ⟨rfl, v1, v2, v3, v4⟩ := bnB_ok h1
      obtain ⟨n1, pv⟩ := err_pe S h2
      obtain ⟨vs, kv, kk, hl, pc⟩ := cls_pe S h3
      obtain ⟨D, hD, _, C1⟩ := S.D
      rw [hD] at kk
      have A := pa_cons pv (pa_cons (pe_tup (x1 := kt) (pos := tp) pc) pa_nil rfl) (star_ns n1 _ _)
      have P : PE X (.Call (.Name "isinstance" p) [v, .Tuple cs kt tp] [] q) (tE X er a (evUl L n c .val (.isT ks'))) :=
        (pe_callB C1 (S.g.gl v1) (S.g.fs.blts _ v3) PyProof.Rows.boot_isinstance A v4 v2 (star_ns n1 _ _) rfl).imp fun σ H Q ⟨h0, H0, M, δ, d, o, e, q⟩ => by
          cases e
          refine ⟨h0, by rw [hl, sizeLine_eq]; omega, fun tp hp => ?_⟩
          exact ⟨tp, vs, _, _, rfl, upd_same, kv, kk, q M _ _ (Xt.lay o.ex hp) (.bl _)⟩
      exact ⟨P, tE_bl P (fun δ d e => by cases e; exact ⟨_, rfl⟩) (by intro _; rfl)⟩
  | .no u, x, h => by
    cases x <;> first | (cases h; done) | skip
    rename_i o y p
    cases o <;> first | (cases h; done) | skip
    have z := sU S u (show mU L.nm N sc er u y = true from h)
    refine ⟨(pe_notT z.v).imp fun σ H Q ⟨h0, H0, M, δ, d, o, e, q⟩ => ?_, (pt_not z.t).imp fun σ H Q ⟨h0, H0, M, δ, d, o, e, q⟩ => ?_⟩
    · obtain ⟨x, e1, e2⟩ := R.bind_inv e
      cases x <;> first | (cases e2; done) | skip
      cases e2
      exact ⟨h0, H0, M, δ, _, o, e1, fun M1 H1 v x1 r1 => ⟨_, tru_d rfl r1.b x1.mh, q M1 H1 _ x1 (.bl _)⟩⟩
    · obtain ⟨x, e1, e2⟩ := R.bind_inv e
      cases x <;> first | (cases e2; done) | skip
      cases e2
      exact ⟨h0, H0, M, δ, _, o, e1, fun M1 H1 x1 => q M1 H1 x1⟩
  | .an u w, x, h => by
    cases x <;> first | (cases h; done) | skip
    rename_i o ys p
    cases o <;> first | (cases h; done) | skip
    cases ys with
    | nil => cases h
    | cons y ys =>
    cases ys with
    | nil => cases h
    | cons z ys =>
    cases ys with
    | cons _ _ => cases h
    | nil =>
      obtain ⟨h1, h2⟩ := and2 (show (mU L.nm N sc er u y && mU L.nm N sc er w z) = true from h)
      have A := sU S u h1
      have B := sU S w h2
      refine ⟨(pe_and A.v (pe_one B.v)).imp fun σ H Q ⟨h0, H0, M, δ, d, o, e, q⟩ => ?_, ((pw_and A.t (pw_and1 (pos := p) B.t)).pt).imp fun σ H Q ⟨h0, H0, M, δ, d, o, e, q⟩ => ?_⟩
      · obtain ⟨x, e1, e2⟩ := R.bind_inv e
        cases x <;> first | (cases e2; done) | skip
        rename_i k
        refine ⟨h0, H0, M, δ, _, o, e1, fun M1 H1 v x1 r1 => ?_⟩
        cases r1
        refine ⟨k, rfl, ?_⟩
        cases k with
        | true =>
          rw [if_pos rfl]
          obtain ⟨b, e3, rfl⟩ := bl_inv e2
          exact ⟨h0, H0, M1, δ, _, o.up x1, e3, fun M2 H2 v x2 r2 => q M2 H2 v (x1.trans x2) r2⟩
        | false => cases e2; rw [if_neg (by decide)]; exact q M1 H1 _ x1 (.bl _)
      · obtain ⟨x, e1, e2⟩ := R.bind_inv e
        cases x <;> first | (cases e2; done) | skip
        rename_i k
        refine ⟨h0, H0, M, δ, _, o, e1, fun M1 H1 x1 => ?_⟩
        cases k with
        | true =>
          rw [if_pos rfl]
          obtain ⟨b, e3, e4⟩ := bl_inv e2
          cases e4
          exact ⟨h0, H0, M1, δ, _, o.up x1, e3, fun M2 H2 x2 => q M2 H2 (x1.trans x2)⟩
        | false => cases e2; rw [if_neg (by decide)]; exact q M1 H1 x1
  | .orr u w, x, h => by
    cases x <;> first | (cases h; done) | skip
    rename_i o ys p
    cases o <;> first | (cases h; done) | skip
    cases ys with
    | nil => cases h
    | cons y ys =>
    cases ys with
    | nil => cases h
    | cons z ys =>
    cases ys with
    | cons _ _ => cases h
    | nil =>
      obtain ⟨h1, h2⟩ := and2 (show (mU L.nm N sc er u y && mU L.nm N sc er w z) = true from h)
      have A := sU S u h1
      have B := sU S w h2
      refine ⟨(pe_or A.v (pe_one B.v)).imp fun σ H Q ⟨h0, H0, M, δ, d, o, e, q⟩ => ?_, ((pw_or A.t (pw_or1 (pos := p) B.t)).pt).imp fun σ H Q ⟨h0, H0, M, δ, d, o, e, q⟩ => ?_⟩
      · obtain ⟨x, e1, e2⟩ := R.bind_inv e
        cases x <;> first | (cases e2; done) | skip
        rename_i k
        refine ⟨h0, H0, M, δ, _, o, e1, fun M1 H1 v x1 r1 => ?_⟩
        cases r1
        refine ⟨k, rfl, ?_⟩
        cases k with
        | false =>
          rw [if_neg (by decide)]
          obtain ⟨b, e3, rfl⟩ := bl_inv e2
          exact ⟨h0, H0, M1, δ, _, o.up x1, e3, fun M2 H2 v x2 r2 => q M2 H2 v (x1.trans x2) r2⟩
        | true => cases e2; rw [if_pos rfl]; exact q M1 H1 _ x1 (.bl _)
      · obtain ⟨x, e1, e2⟩ := R.bind_inv e
        cases x <;> first | (cases e2; done) | skip
        rename_i k
        refine ⟨h0, H0, M, δ, _, o, e1, fun M1 H1 x1 => ?_⟩
        cases k with
        | false =>
          rw [if_neg (by decide)]
          obtain ⟨b, e3, e4⟩ := bl_inv e2
          cases e4
          exact ⟨h0, H0, M1, δ, _, o.up x1, e3, fun M2 H2 x2 => q M2 H2 (x1.trans x2)⟩
        | true => cases e2; rw [if_pos rfl]; exact q M1 H1 x1
  | .callE f, x, h => by
    cases x <;> first | (cases h; done) | skip
    rename_i fn xs ks q
    cases fn <;> first | (cases h; done) | skip
    rename_i y p
    cases xs with
    | nil => cases h
    | cons v xs =>
    cases xs with
    | cons _ _ => cases h
    | nil =>
    cases ks with
    | cons _ _ => cases h
    | nil =>
      obtain ⟨h, h4⟩ := and2 h
      obtain ⟨h, h3⟩ := and2 h
      obtain ⟨h1, h2⟩ := and2 h
      obtain ⟨n1, pv⟩ := err_pe S h4
      have P := pe_callE (pos := q) (p := p) S (of_decide_eq_true h1) (of_decide_eq_true h2) h3 n1 pv
      refine ⟨P.imp fun σ H Q ⟨h0, H0, M, δ, d, o, e, q⟩ => ?_, (pt_truth P (by intro _; rfl)).imp fun σ H Q ⟨h0, H0, M, δ, b, o, e, q⟩ => ?_⟩
      · exact ⟨h0, H0, M, δ, d, o, e, q⟩
      · obtain ⟨r, e1, e2⟩ := R.bind_inv e
        obtain ⟨b', e4, e5⟩ := R.bind_inv e2
        cases e5
        exact ⟨h0, H0, M, δ, r.1, o, by show (run L.Γ L.G n f [.ins c []]).bind _ = _; rw [e1]; rfl, fun M' H' v x r => ⟨b, tru_d e4 r.b x.mh, q M' H' x⟩⟩
  | .ls us, x, h => by
    cases x <;> first | (cases h; done) | skip
    rename_i xs p
    have A := sUs S us (show mUs L.nm N sc er us xs = true from h)
    have P : PE X (.List xs p) (tE X er a (fun δ => (evUsl L n c us δ).bind fun xs => req (xs.length ≤ LIM) (.ok (.lst xs)))) := (pe_lst A).imp fun σ H Q ⟨h0, H0, M, δ, d, o, e, q⟩ => by
      obtain ⟨ds, e1, e2⟩ := R.bind_inv e
      obtain ⟨hl, e3⟩ := req_inv e2
      cases e3
      refine ⟨h0, H0, M, δ, ds, o, e1, fun M1 H1 vs x1 r1 => ⟨by rw [← r1.length, ← lim_eq]; exact hl, fun p hp => ?_⟩⟩
      have x2 := Xt.new (o := .lst vs) x1.mh hp
      exact q _ _ _ (x1.trans x2) (.lst (.inl (.inl upd_same)) (r1.up x2.m))
    refine ⟨P.imp fun σ H Q ⟨h0, H0, M, δ, d, o, e, q⟩ => ?_, (pt_truth P (by intro _; rfl)).imp fun σ H Q ⟨h0, H0, M, δ, b, o, e, q⟩ => ?_⟩
    · exact ⟨h0, H0, M, δ, d, o, e, q⟩
    · obtain ⟨ds, e1, e2⟩ := R.bind_inv e
      obtain ⟨hl, e3⟩ := req_inv e2
      have e4 : R.ok (D.bl (!ds.isEmpty)) = .ok (.bl b) := e3
      cases e4
      refine ⟨h0, H0, M, δ, .lst ds, o, ?_, fun M' H' v x r => ⟨_, tru_d (d := .lst ds) rfl r.b x.mh, q M' H' x⟩⟩
      show (evUs (run L.Γ L.G n) L.G c us δ).bind _ = _
      rw [show evUs (run L.Γ L.G n) L.G c us δ = .ok ds from e1]
      exact req_pos hl
theorem sUs (S : Sui L n N sc X a c) : ∀ (us : List U) {xs : List Expr}, mUs L.nm N sc er us xs = true → PA X xs (fun σ H Q => errAt er a σ ∧ tAv X.K (evUsl L n c us) σ H Q)
  | [], xs, h => by
    cases xs with
    | cons _ _ => cases h
    | nil => exact pa_nil.imp fun σ H Q ⟨h0, H0, M, δ, d, o, e, q⟩ => by cases e; exact q M H _ (Xt.refl o.ex) .nil
  | u :: us, xs, h => by
    cases xs with
    | nil => cases h
    | cons y ys =>
      obtain ⟨h, h2⟩ := and2 (show (mU L.nm N sc er u y && !isStarE y && mUs L.nm N sc er us ys) = true from h)
      obtain ⟨h1, h3⟩ := and2 h
      have ns : notStar y = true := by cases y <;> first | rfl | cases h3
      refine (pa_cons (sU S u h1).v (sUs S us h2) (star_ns ns _ _)).imp fun σ H Q ⟨h0, H0, M, δ, d, o, e, q⟩ => ?_
      obtain ⟨x, e1, e2⟩ := R.bind_inv e
      obtain ⟨xs, e3, e4⟩ := R.bind_inv e2
      cases e4
      exact ⟨h0, H0, M, δ, x, o, e1, fun M1 H1 v x1 r1 => ⟨h0, H0, M1, δ, xs, o.up x1, e3, fun M2 H2 vs x2 r2 => q M2 H2 _ (x1.trans x2) (.cons (r1.up x2.m) r2)⟩⟩
end
end
end Fw

/-! statements -/
namespace Fw
open PySem PySem.Spec PyProof.Rows L2
open Evl (Ex ex_rd ex_l ex_t)

/-! ### which statement stands for which -/
def notLc : Expr → Bool
  | .ListComp _ _ _ _ => false | .SetComp _ _ _ _ => false | .DictComp _ _ _ _ _ => false | _ => true
def lcOf : Expr → Option (Scope × Pos)
  | .ListComp _ _ s p => some (s, p)
  | _ => none
def setB (N : List Str) (sc : Scope) (i : Nat) (y : Str) (py : Pos) (v : Expr) : Bool := decide (N[i]? = some y) && locB sc y && (notLc v || match v with
  | .ListComp _ [_] s p => decide (sc.names.lookup y = some .local) && !(s.names.any fun (n, k) => n == y && (k == .local || k == .cell)) || !(py.line == p.line)
  | _ => false)
def isTup : Expr → Bool
  | .Tuple _ _ _ => true | .List _ _ => true | _ => false
def nmB (N : List Str) (sc : Scope) (i : Nat) : Expr → Bool
  | .Name y _ => decide (N[i]? = some y) && locB sc y
  | _ => false
def nmsB (N : List Str) (sc : Scope) : List Nat → List Expr → Bool
  | [], [] => true
  | i :: is, e :: es => nmB N sc i e && nmsB N sc is es
  | _, _ => false
def tgfB (N : List Str) (sc : Scope) : List Nat → Expr → Bool
  | [i], e => nmB N sc i e
  | [i, j], .Tuple [a, b] _ _ => nmB N sc i a && nmB N sc j b
  | _, _ => false
def isF : E → Bool
  | .blt .listOf _ => true
  | .call _ _ => true | .lst _ => true | .lc _ _ _ _ _ => true | .op .add _ _ => true | _ => false
def notSl : Expr → Bool
  | .Slice _ _ _ _ => false | _ => true
def two : Expr → Option (Expr × Expr)
  | .Tuple [a, b] _ _ => some (a, b)
  | _ => none
def three : Expr → Option (Expr × Expr × Expr)
  | .Tuple [a, b, c] _ _ => some (a, b, c)
  | _ => none
def pop0B (y : Str) : Expr → Bool
  | .Call (.Attribute (.Name z _) nm p) [] [] q => decide (z = y) && decide (nm = "pop") && (p.endLine == q.line)
  | _ => false
def popA (y : Str) : Expr → Option Expr
  | .Call (.Attribute (.Name z _) nm p) [b] [] q => if (decide (z = y) && decide (nm = "pop") && (p.endLine == q.line)) = true then some b else none
  | _ => none
def isCallX : EX → Bool
  | .call _ _ => true | _ => false
mutual
def mEX (L : Nm) (N : List Str) (sc : Scope) : EX → Expr → Bool
  | .e a, x => mE L N sc a x
  | .call f as, x => match x with
    | .Call (.Name y _) xs [] _ => decide (L.FN[f]? = some y) && glB sc y && !xs.isEmpty && mEs L N sc as xs
    | _ => false
  | .tup as, x => match x with
    | .Tuple xs _ _ => mEXs L N sc as xs
    | _ => false
def mEXs (L : Nm) (N : List Str) (sc : Scope) : List EX → List Expr → Bool
  | [], xs => xs.isEmpty
  | a :: as, xs => match xs with
    | y :: ys => mEX L N sc a y && mEXs L N sc as ys
    | _ => false
end
def mHd (L : Nm) (N : List Str) (sc : Scope) : List (Nat × List SU) → List ExceptHandler → Bool
  | [], [] => true
  | (h, su) :: hs, .ExceptHandler (some x) none (b :: suite) _ :: xs => clB L sc h x && mSU L N sc none su (b :: suite) && mHd L N sc hs xs
  | _, _ => false
/-! where a token is out: replace of any text -/
def mRepl (L : Nm) (N : List Str) (sc : Scope) : E → Expr → Bool
  | .repl o y z, .Call (.Attribute r nm p) [.Constant (.str a) _ _, .Constant (.str b) _ _] [] q =>
    decide (nm = "replace") && notCall r && (p.endLine == q.line) && decide (a.cps.toList = y) && decide (b.cps.toList = z) && !(a == b) && decide (1 ≤ a.length) && mE L N sc o r
  | _, _ => false
def nsC : Expr → Bool
  | .Call (.Name _ _) _ _ _ => false
  | _ => true
def mTV (L : Nm) (N : List Str) (sc : Scope) : E → Expr → Bool
  | .repl o y z, x => mRepl L N sc (.repl o y z) x
  | .mth .count o [w], x => (match x with
    | .Call (.Attribute r nm p) [t] [] q => decide (nm = "count") && (p.endLine == q.line) && nsC r && mRepl L N sc o r && mE L N sc w t
    | _ => false)
  | .blt .len [o], x => (match x with
    | .Call (.Name y _) [t] [] _ => bnB L sc y "len" && mRepl L N sc o t
    | _ => false)
  | _, _ => false
def cmpTB (L : Nm) (N : List Str) (sc : Scope) (c : Cp) (a b : E) : Expr → Bool
  | .Compare l [p] [r] _ => cpB c p && mTV L N sc a l && mE L N sc b r
  | _ => false
def mTC (L : Nm) (N : List Str) (sc : Scope) : E → Expr → Bool
  | .cmp c a b, x => mE L N sc (.cmp c a b) x || cmpTB L N sc c a b x
  | e, x => mE L N sc e x
def mTCs (L : Nm) (N : List Str) (sc : Scope) : List E → List Expr → Bool
  | [], xs => xs.isEmpty
  | a :: as, xs => match xs with
    | y :: ys => mTC L N sc a y && mTCs L N sc as ys
    | _ => false
def mTT (L : Nm) (N : List Str) (sc : Scope) : E → Expr → Bool
  | .or as, x => match x with
    | .BoolOp .Or xs _ => mTCs L N sc as xs
    | _ => false
  | e, x => mTC L N sc e x
def tkB (L : Nm) (N : List Str) (sc : Scope) (i : Nat) (a : E) (lo : Int) (hi : E) : Stmt → Bool
  | .Assign [.Name y _] (.Subscript v (.Slice (some (.Constant (.int k) _ _)) u none _) _) _ => decide (N[i]? = some y) && locB sc y && decide (lo = k) && mE L N sc a v && (match u with | none => isNop hi | some h => mE L N sc hi h)
  | _ => false
mutual
def mTs (L : Nm) (N : List Str) (sc : Scope) : List S → List Stmt → Bool
  | [], xs => xs.isEmpty
  | s :: ss, xs => match xs with
    | y :: ys => mTS L N sc s y && mTs L N sc ss ys
    | _ => false
def mTS (L : Nm) (N : List Str) (sc : Scope) : S → Stmt → Bool
  | .ite c a b, x => match x with
    | .If t y z _ => mTT L N sc c t && mSs L N sc a y && mSs L N sc b z
    | _ => false
  | .ret e, x => match x with
    | .Return (some v) _ => mE L N sc e v || mTV L N sc e v
    | _ => false
  | s, x => false
def mS (L : Nm) (N : List Str) (sc : Scope) : S → Stmt → Bool
  | .set i e, x => match x with
    | .Assign [.Name y py] v _ => setB N sc i y py v && mE L N sc e v
    | _ => false
  | .own i e, x => match x with
    | .Assign [.Name y py] v _ => setB N sc i y py v && isF e && mE L N sc e v
    | _ => false
  | .freeze _, _ => false
  | .unp is e, x => match x with
    | .Assign [.Tuple ts _ _] v _ => !isTup v && notLc v && nmsB N sc is ts && mE L N sc e v
    | _ => false
  | .expr e, x => match x with
    | .Expr v _ => notLc v && mE L N sc e v
    | _ => false
  | .app i e, x => match x with
    | .Expr (.Call (.Attribute (.Name y _) nm p) [a] [] q) _ => decide (N[i]? = some y) && visB sc y && decide (nm = "append") && (p.endLine == q.line) && mE L N sc e a
    | _ => false
  | .seti i k e, x => match x with
    | .Assign [.Subscript (.Name y _) j _] v _ => decide (N[i]? = some y) && visB sc y && notLc v && notSl j && mE L N sc k j && mE L N sc e v
    | _ => false
  | .orl i e, x => match x with
    | .Assign [.Name y py] (.BoolOp .Or [.Name z _, b] _) _ => decide (N[i]? = some y) && decide (z = y) && locB sc y && visB sc y && isF e && mE L N sc e b
    | _ => false
  | .pop1 i e, x => match x with
    | .Expr (.Call (.Attribute (.Name y _) nm p) [t] [] q) _ => decide (N[i]? = some y) && visB sc y && decide (nm = "append") && (p.endLine == q.line) && (match two t with
      | some (a, b) => pop0B y b && mE L N sc e a
      | none => false)
    | _ => false
  | .pop2 i e, x => match x with
    | .Expr (.Call (.Attribute (.Name y _) nm p) [t] [] q) _ => decide (N[i]? = some y) && visB sc y && decide (nm = "append") && (p.endLine == q.line) && (match three t with
      | some (a, b, c) => pop0B y c && (match popA y b with
        | some b => mE L N sc (.op .sub (.blt .len [.var i]) (.int 2)) b && mE L N sc e a
        | none => false)
      | none => false)
    | _ => false
  | .ret e, x => match x with
    | .Return (some v) _ => mE L N sc e v
    | _ => false
  | .ext i e, x => match x with
    | .Expr (.Call (.Attribute (.Name y _) nm p) [a] [] q) _ => decide (N[i]? = some y) && visB sc y && decide (nm = "extend") && (p.endLine == q.line) && (isF e && mE L N sc e a)
    | _ => false
  | .unpi i j k l e, x => match x with
    | .Assign [.Tuple [.Subscript (.Name y _) (.Constant (.int k') _ _) _, .Subscript (.Name z _) (.Constant (.int l') _ _) _] _ _] v _ => decide (N[i]? = some y) && visB sc y && decide (N[j]? = some z) && visB sc z && decide (k = k') && decide (l = l') && !isTup v && notLc v && mE L N sc e v
    | _ => false
  | .clr i, x => match x with
    | .Expr (.Call (.Attribute (.Name y _) nm p) [] [] q) _ => decide (N[i]? = some y) && visB sc y && decide (nm = "clear") && (p.endLine == q.line)
    | _ => false
  | .retF e, x => match x with
    | .Return (some v) _ => isF e && mE L N sc e v
    | _ => false
  | .retO i, x => match x with
    | .Return (some (.Name y _)) _ => decide (N[i]? = some y) && visB sc y
    | _ => false
  | .retN, x => match x with
    | .Return none _ => true
    | _ => false
  | .ite c a b, x => match x with
    | .If t y z _ => mE L N sc c t && mSs L N sc a y && mSs L N sc b z
    | _ => false
  | .fr ts src b, x => match x with
    | .For tg it body [] _ => tgfB N sc ts tg && srcB L N sc tg it src && mSs L N sc b body
    | _ => false
  | .wh c b, x => match x with
    | .While t body [] _ => mE L N sc c t && mSs L N sc b body
    | _ => false
  | .tryb b, x => match x with
    | .Try body (_ :: _) [] [] _ => mSs L N sc b body
    | _ => false
  | .x k e, x => match k with
    | .set i => (match x with
      | .Assign [.Name y py] v _ => setB N sc i y py v && notLc v && mEX L N sc e v
      | _ => false)
    | .own i => (match x with
      | .Assign [.Name y py] v _ => setB N sc i y py v && notLc v && mEX L N sc e v
      | _ => false)
    | .expr => (match x with
      | .Expr v _ => notLc v && mEX L N sc e v
      | _ => false)
    | .ret => (match x with
      | .Return (some v) _ => mEX L N sc e v
      | _ => false)
    | .retf => (match x with
      | .Return (some v) _ => mEX L N sc e v
      | _ => false)
    | .app i => (match x with
      | .Expr (.Call (.Attribute (.Name y _) nm p) [a] [] q) _ => decide (N[i]? = some y) && visB sc y && decide (nm = "append") && (p.endLine == q.line) && mEX L N sc e a
      | _ => false)
  | .raise c, x => match x with
    | .Raise (some (.Call (.Name y _) [.Constant (.str _) _ _] [] _)) none _ => decide (L.EN[c]? = some y) && glB sc y && decide (2 ≤ c ∧ c < L.RN)
    | _ => false
  | .trys b m hs, x => match x with
    | .Try body (h₀ :: hds) [] [] _ => mSs L N sc b body && decide (m ≤ L.RN) && mHd L N sc hs (h₀ :: hds)
    | _ => false
  | .tryas b m h i su, x => match x with
    | .Try body [.ExceptHandler (some y) (some nm) (b₀ :: suite) _] [] [] _ => mSs L N sc b body && decide (m ≤ L.RN) && clB L sc h y && decide (N[i]? = some nm) && decide (sc.names.lookup nm = some .local) && mSU L N sc (some i) su (b₀ :: suite)
    | _ => false
  | .tks _ _ _ _ _, _ => false
  | .brk, x => match x with
    | .Break _ => true
    | _ => false
  | .cont, x => match x with
    | .Continue _ => true
    | _ => false
  | .never, _ => true
def mSs (L : Nm) (N : List Str) (sc : Scope) : List S → List Stmt → Bool
  | [], xs => match xs with
    | [] => true
    | _ => false
  | .never :: _, _ => true
  | .freeze _ :: ss, xs => mSs L N sc ss xs
  | .tks i a lo hi rest :: ss, xs => ss.isEmpty && match xs with
    | y :: ys => tkB L N sc i a lo hi y && mTs L N sc rest ys
    | _ => false
  | s :: ss, xs => match xs with
    | y :: ys => mS L N sc s y && mSs L N sc ss ys
    | _ => false
end

section
variable {K : PySem.W.Frag}
abbrev WF := Nat → L2.St → Hp → Prop
def endOk (K : PySem.W.Frag) (wx : WF) (M0 H0 : Hp) (D : Ends) : F → Prop
  | .nx δ => ∀ M H σ, Xt M0 H0 M H → OKs K H0 M H σ δ → D.nx σ H
  | .bk δ => ∀ M H σ, Xt M0 H0 M H → OKs K H0 M H σ δ → D.bk σ H
  | .ct δ => ∀ M H σ, Xt M0 H0 M H → OKs K H0 M H σ δ → D.ct σ H
  | .rt d b => ∀ M H v, Xt M0 H0 M H → RepF K H0 M H (d, b) v → D.rt v H
  | .ex c δ => ∀ M H σ, Xt M0 H0 M H → OKs K H0 M H σ δ → wx c σ H
def tS (K : PySem.W.Frag) (wx : WF) (co : En → R F) : TS := fun D σ H => ∃ M0 H0 M δ f, Xt M0 H0 M H ∧ OKs K H0 M H σ δ ∧ co δ = .ok f ∧ endOk K wx M0 H0 D f
/-- the frozen part grows while the first heap stays -/
theorem Xt.trans' {M0 H0 M1 H1 M H : Hp} (a : Xt M0 H0 M1 H1) (b : Xt M1 H0 M H) : Xt M0 H0 M H :=
  ⟨a.m.trans b.m, b.h, b.mh, fun x h1 h2 => b.fr x (a.fr x h1 h2) h2⟩
theorem endOk.up {wx : WF} {M0 H0 M1 H1 : Hp} {D : Ends} {f : F} (h : endOk K wx M0 H0 D f) (x : Xt M0 H0 M1 H1) : endOk K wx M1 H0 D f := by
  cases f with
  | nx δ => exact fun M H σ y o => h M H σ (x.trans' y) o
  | bk δ => exact fun M H σ y o => h M H σ (x.trans' y) o
  | ct δ => exact fun M H σ y o => h M H σ (x.trans' y) o
  | rt d b => exact fun M H v y o => h M H v (x.trans' y) o
  | ex c δ => exact fun M H σ y o => h M H σ (x.trans' y) o
theorem Xt.self {M0 H0 M H : Hp} (x : Xt M0 H0 M H) : Xt M H0 M H := ⟨Evl.Ex.refl M, x.h, x.mh, fun a h _ => h⟩
theorem OKs.freeze {H0 M H : Hp} {σ : L2.St} {δ : En} {i : Nat} {xs : List D} (o : OKs K H0 M H σ δ) (h : δ[i]? = some (.own xs)) :
    ∃ p, H0 p = none ∧ M p = none ∧ ∃ vs, H p = some (.lst vs) ∧ σ[i]? = some (some (.ref p)) ∧ OKs K H0 (upd M p (.lst vs)) H σ (δ.set i (.dat (.lst xs))) := by
  obtain ⟨p, vs, e1, e2, e3, e4⟩ := o.getO h
  have hi : i < δ.length := (List.getElem?_eq_some_iff.mp h).1
  refine ⟨p, o.new i xs p h e1, e2, vs, e3, e1, ?_⟩
  have ex := Evl.Ex.new (o := HO.lst vs) e2
  have key : ∀ (j : Nat) ys, (δ.set i (.dat (.lst xs)))[j]? = some (.own ys) → j ≠ i ∧ δ[j]? = some (.own ys) := fun j ys e => by
    by_cases hj : j = i
    · subst hj
      rw [List.getElem?_set_self hi] at e; cases e
    · rw [List.getElem?_set_ne (Ne.symm hj)] at e; exact ⟨hj, e⟩
  refine ⟨by rw [List.length_set]; exact o.len, fun j s d' q1 q2 => ?_, fun j k ys zs q hjk q1 q2 q3 => ?_, fun j ys q q1 q2 => o.new j ys q (key j ys q1).2 q2, fun b u q => ?_, o.h0⟩
  · by_cases hj : j = i
    · subst hj
      rw [List.getElem?_set_self hi] at q2
      cases q2
      rw [e1] at q1
      cases q1
      exact ⟨_, rfl, .lst (.inl (.inl upd_same)) (e4.up ex)⟩
    · rw [List.getElem?_set_ne (Ne.symm hj)] at q2
      have z := o.sl j s d' q1 q2
      cases d' with
      | no => trivial
      | dat d => obtain ⟨v, z1, z2⟩ := z; exact ⟨v, z1, z2.up ex⟩
      | own ys =>
        obtain ⟨p', us, z1, z2, z3, z4⟩ := z
        subst z1
        refine ⟨p', us, rfl, ?_, z3, z4.up ex⟩
        rw [upd_ne]
        · exact z2
        · intro z; subst z
          exact o.dis j i ys xs p' hj q2 h q1 e1
  · exact o.dis j k ys zs q hjk (key j ys q1).2 (key k zs q2).2 q3
  · by_cases hb : b = p
    · subst hb; rw [upd_same] at q; cases q; exact e3
    · rw [upd_ne hb] at q; exact o.ex b u q
theorem OKs.app {H0 M H : Hp} {σ : L2.St} {δ : En} {i : Nat} {xs : List D} {p : Addr} {vs us : List V} {ys : List D} (o : OKs K H0 M H σ δ) (h : δ[i]? = some (.own xs)) (e1 : σ[i]? = some (some (.ref p))) (h1 : H p = some (.lst vs)) (r : Reps K M ys us) :
    OKs K H0 M (upd H p (.lst us)) σ (δ.set i (.own ys)) := by
  obtain ⟨p', vs', e1', e2, e3, e4⟩ := o.getO h
  rw [e1] at e1'
  cases e1'
  have h0 := o.new i xs p h e1
  have hi : i < δ.length := (List.getElem?_eq_some_iff.mp h).1
  have key : ∀ (j : Nat) zs, (δ.set i (.own ys))[j]? = some (.own zs) → ∃ ws, δ[j]? = some (.own ws) := fun j zs e => by
    by_cases hj : j = i
    · subst hj; exact ⟨_, h⟩
    · rw [List.getElem?_set_ne (Ne.symm hj)] at e; exact ⟨_, e⟩
  refine ⟨by rw [List.length_set]; exact o.len, fun j s d' q1 q2 => ?_, fun j k as bs q hjk q1 q2 q3 => ?_, fun j as q q1 q2 => ?_, fun b u q => ?_, fun b u q => ?_⟩
  · by_cases hj : j = i
    · subst hj
      rw [List.getElem?_set_self hi] at q2
      cases q2
      rw [e1] at q1
      cases q1
      exact ⟨p, us, rfl, e2, upd_same, r⟩
    · rw [List.getElem?_set_ne (Ne.symm hj)] at q2
      have z := o.sl j s d' q1 q2
      cases d' with
      | no => trivial
      | dat d => exact z
      | own as =>
        obtain ⟨p', ws, z1, z2, z3, z4⟩ := z
        subst z1
        refine ⟨p', ws, rfl, z2, ?_, z4⟩
        rw [upd_ne]
        · exact z3
        · intro z; subst z
          exact o.dis j i as xs p' hj q2 h q1 e1
  · obtain ⟨as', q1⟩ := key j as q1
    obtain ⟨bs', q2⟩ := key k bs q2
    exact o.dis j k as' bs' q hjk q1 q2 q3
  · obtain ⟨as', q1⟩ := key j as q1
    exact o.new j as' q q1 q2
  · rw [upd_ne]
    · exact o.ex b u q
    · intro z; subst z; rw [e2] at q; cases q
  · rw [upd_ne]
    · exact o.h0 b u q
    · intro z; subst z; rw [h0] at q; cases q
end

/-! ### new lists -/
section
variable {L : Lw} {n : Nat} {N : List Str} {sc : Scope} {X : Cx}
abbrev evFl (L : Lw) (n : Nat) (e : E) : En → R (List D) := evF (run L.Γ L.G n) L.G e
theorem src_pi (g : Good L n N sc X) {tg it : Expr} {src : E} (b : Bool) (h5 : srcB L.nm N sc tg it src = true) : PI X tg it (tIx X.K b (evIl L n (mdB b) src)) := by
  cases src with
  | rng as =>
    obtain ⟨y, p, xs, q, rfl, k1, k2⟩ := rng_inv (and2 h5).2
    exact px_rng g b k1 (sEs as g k2) k2
  | zip a c =>
    obtain ⟨es, k, tp, rfl⟩ := src_tup h5 rfl
    obtain ⟨y, p, l, r, q, rfl, k1, k2, k3⟩ := zip_inv (and2 h5).2
    exact px_zip g b k1 (sE a g k2) (sE c g k3) (mE_ns k2) (mE_ns k3)
  | enum a =>
    obtain ⟨es, k, tp, rfl⟩ := src_tup h5 rfl
    obtain ⟨y, p, l, q, rfl, k1, k2⟩ := enum_inv (and2 h5).2
    exact px_enum g b k1 (sE a g k2) (mE_ns k2)
  | _ => exact px_e b (sE _ g (and2 h5).2) rfl
abbrev lcCo (L : Lw) (n : Nat) (ws ts : List Nat) (src c e : E) : En → R (List D) := fun δ => (evIl L n .bor src δ).bind fun xs => (lcL (fun x => layN ts x (wipeE δ ws)) (evCl L n c) (evl L n .val e) xs).bind fun ys => req (ys.length < LIM) (.ok ys)
theorem lc_val (ws ts : List Nat) (src c e : E) (δ : En) : evl L n .val (.lc ws ts src c e) δ = (lcCo L n ws ts src c e δ).bind fun xs => .ok (.lst xs) := by
  rw [lc_eq]
  show _ = ((evIl L n .bor src δ).bind fun xs => (lcL (fun x => layN ts x (wipeE δ ws)) (evCl L n c) (evl L n .val e) xs).bind fun ys => req (ys.length < LIM) (.ok ys)).bind fun xs => R.ok (D.lst xs)
  cases evIl L n .bor src δ with
  | ok xs =>
    show ((lcL (fun x => layN ts x (wipeE δ ws)) (evCl L n c) (evl L n .val e) xs).bind fun ys => req (ys.length < LIM) (post .val (.lst ys))) = (((lcL (fun x => layN ts x (wipeE δ ws)) (evCl L n c) (evl L n .val e) xs).bind fun ys => req (ys.length < LIM) (.ok ys)).bind fun xs => R.ok (D.lst xs))
    cases lcL (fun x => layN ts x (wipeE δ ws)) (evCl L n c) (evl L n .val e) xs with
    | ok ys => show req (ys.length < LIM) (post .val (.lst ys)) = ((req (ys.length < LIM) (.ok ys)).bind fun xs => R.ok (D.lst xs)); unfold req; split <;> rfl
    | _ => rfl
  | _ => rfl
theorem lc_V {ws ts : List Nat} {src c e : E} {K : PySem.W.Frag} (σ : L2.St) (H : Hp) (Q : VK) (h : tC K (evl L n .val (.lc ws ts src c e)) σ H Q) : tL K (lcCo L n ws ts src c e) σ H Q := by
  refine tL.told ?_
  rw [show evl L n .val (.lc ws ts src c e) = fun δ => (lcCo L n ws ts src c e δ).bind fun xs => .ok (.lst xs) from funext (lc_val ws ts src c e)] at h
  exact h
theorem lc_F {ws ts : List Nat} {src c e : E} {K : PySem.W.Frag} (σ : L2.St) (H : Hp) (Q : VK) (h : tL K (evFl L n (.lc ws ts src c e)) σ H Q) : tL K (lcCo L n ws ts src c e) σ H Q := by
  obtain ⟨H0, M, δ, zs, o, e1, q⟩ := h
  have e1 : ((evl L n .val (.lc ws ts src c e) δ).bind fun d => match d with | .lst ys => R.ok ys | _ => .stuck) = .ok zs := e1
  rw [lc_val] at e1
  obtain ⟨d, e2, e3⟩ := R.bind_inv e1
  obtain ⟨xs, e4, e5⟩ := R.bind_inv e2
  cases e5
  cases e3
  exact ⟨H0, M, δ, _, o, e4, q⟩
theorem sF {e : E} {x : Expr} (g : Good L n N sc X) (h : mE L.nm N sc e x = true) (hf : isF e = true) : PE X x (tL X.K (evFl L n e)) := by
  cases e <;> first | (cases hf; done) | skip
  case call f as =>
    obtain ⟨y, p, xs, q, rfl, h0, h1, h2, h3⟩ := call_inv h
    refine (pe_callR g h0 h1 h2 (sEs as g h3) h3).imp fun σ H Q ⟨H0, M, δ, zs, o, e, q⟩ => ?_
    obtain ⟨ds, e1, e2⟩ := R.bind_inv e
    obtain ⟨r, e3, e4⟩ := R.bind_inv e2
    obtain ⟨d, b⟩ := r
    cases d <;> first | (cases e4; done) | skip
    cases b with
    | false => cases e4
    | true =>
      cases e4
      refine ⟨H0, M, δ, _, o, by show (evsl L n as δ).bind _ = _; rw [show evsl L n as δ = .ok ds from e1]; exact e3, fun M' H' v x r => ?_⟩
      obtain ⟨a, us, ws, q1, rfl, q3, q4, q5, q6⟩ := r
      cases q1
      exact q M' H' a us x q3 q4 q5 q6
  case op o a b =>
    cases o <;> first | (cases hf; done) | skip
    cases x <;> first | (cases h; done) | skip
    rename_i l p r q
    obtain ⟨h, h3⟩ := and2 h
    obtain ⟨h1, h2⟩ := and2 h
    cases p <;> first | (cases h1; done) | skip
    refine (pe_op op_catR (sE a g h2).b (sE b g h3).b).imp fun σ H Q ⟨H0, M, δ, xs, o, e, q⟩ => ?_
    have e : ((((evl L n .bor a δ).bind fun x => (evl L n .bor b δ).bind fun y => (op2 .add x y).bind (post .val))).bind fun d => match d with | .lst ys => R.ok ys | _ => .stuck) = .ok xs := e
    obtain ⟨d, e1, e2⟩ := R.bind_inv e
    obtain ⟨x, e3, e4⟩ := R.bind_inv e1
    obtain ⟨y, e5, e6⟩ := R.bind_inv e4
    obtain ⟨z, e7, e8⟩ := R.bind_inv e6
    cases e8
    cases d <;> first | (cases e2; done) | skip
    cases e2
    cases x <;> first | (cases e7; done) | (cases y <;> first | (cases e7; done) | (obtain ⟨_, e7⟩ := req_inv e7; cases e7; done) | skip) | skip
    rename_i xs ys
    obtain ⟨hl, e7⟩ := req_inv e7
    cases e7
    refine ⟨H0, M, δ, _, o, e3, fun M1 H1 v x1 r1 => ⟨H0, M1, δ, _, o.up x1, e5, fun M2 H2 u x2 r2 => ?_⟩⟩
    obtain ⟨a, vs, rfl, ha, ra⟩ := (r1.up x2).lst x2.mh
    obtain ⟨b, us, rfl, hb, rb⟩ := r2.lst x2.mh
    refine ⟨a, b, vs, us, rfl, rfl, ha, hb, by rw [← ra.length, ← rb.length, ← lim_eq]; exact hl, fun c hc => ?_⟩
    have x3 := Xt.lay (o := .lst (vs ++ us)) x2.mh hc
    exact q _ _ c (vs ++ us) ((x1.trans x2).trans x3) (Ex.none_of (x1.trans x2).h hc) (Ex.none_of x2.mh hc) upd_same (ra.append rb)
  case blt f as =>
    cases f <;> first | (cases hf; done) | skip
    obtain ⟨y, p, xs, q, rfl, h0, h1, h2⟩ := blt_inv (f := .listOf) (fun t z => by cases z) h
    obtain ⟨rfl, v1, v2, v3, v4⟩ := bnB_ok h1
    have hs := sEs as g h2
    cases xs with
    | nil =>
      have ea : as = [] := by
        cases as with
        | nil => rfl
        | cons a as => obtain ⟨_, _, z, _⟩ := mEs_cons h2; cases z
      subst ea
      refine ⟨fun _ _ _ _ _ _ hh => ?_⟩
      obtain ⟨_, _, _, _, _, e, _⟩ := hh
      have e1 : (R.stuck : R (List D)) = .ok _ := e
      cases e1
    | cons x xs =>
      cases as with
      | nil => have := mEs_nil h2; cases this
      | cons a as =>
        obtain ⟨y', ys', e, hm1, hm2⟩ := mEs_cons h2
        cases e
        refine (pe_callTy call_list_of (g.gl v1) (g.fs.blts _ v3) (blt_boot .listOf) hs.ab v4 v2 (star_ns (mE_ns hm1) _ _) (stars_ok _ _ hm2)).imp fun σ H Q ⟨H0, M, δ, zs, o, e, q⟩ => ?_
        obtain ⟨ds, e1, e2⟩ := R.bind_inv e
        obtain ⟨d, e3, e4⟩ := R.bind_inv e2
        cases d <;> first | (cases e4; done) | skip
        cases e4
        refine ⟨H0, M, δ, ds, o, e1, fun M1 H1 vs x1 r1 => ?_⟩
        cases ds with
        | nil => cases e3
        | cons d0 ds =>
          cases ds with
          | cons _ _ => cases d0 <;> cases e3
          | nil =>
            obtain ⟨v, rfl, hx⟩ := r1.one
            cases d0 with
            | lst ys =>
              cases e3
              obtain ⟨b, ws, rfl, ha, ra⟩ := hx.lst x1.mh
              refine ⟨b, ws, rfl, .inl ha, fun l hl => ?_⟩
              exact q _ _ l ws (x1.trans (Xt.lay x1.mh hl)) (Ex.none_of x1.h hl) (Ex.none_of x1.mh hl) upd_same ra
            | tup ys =>
              cases e3
              obtain ⟨b, ws, rfl, ha, ra⟩ := hx.tup
              refine ⟨b, ws, rfl, .inr (ex_t x1.mh ha), fun l hl => ?_⟩
              exact q _ _ l ws (x1.trans (Xt.lay x1.mh hl)) (Ex.none_of x1.h hl) (Ex.none_of x1.mh hl) upd_same ra
            | _ => cases e3
  case lst as =>
    cases x <;> first | (cases h; done) | skip
    exact pe_lstL (sEs as g h)
  case lc ws ts src c e =>
    obtain ⟨elt, tg, it, ifs, scope, q, rfl, h0, h1, h2, h3, h4, h5, h6, h7⟩ := lc_inv h
    refine (pe_lcL g h0 h1 h2 h3 h4 (src_pi g true h5) (src_noset h5) (fun Y gy => pts_of (sc := sc) ?_) (fun Y gy => (sE e gy h7).v)).imp lc_F
    rcases h6 with h6 | ⟨e1, t, e2, h6⟩
    · exact .inl h6
    · exact .inr ⟨e1, t, e2, sE c gy h6⟩
end

/-! ### statements -/
section
variable {L : Lw} {n : Nat} {N : List Str} {sc : Scope} {X : Cx}
abbrev exl (L : Lw) (n : Nat) (s : S) : En → R F := ex (run L.Γ L.G n) L.G s
abbrev exsl (L : Lw) (n : Nat) (ss : List S) : En → R F := exs (run L.Γ L.G n) L.G ss
structure GoodS (L : Lw) (n : Nat) (N : List Str) (sc : Scope) (X : Cx) (wx : WF) : Prop extends Good L n N sc X where
  cold : L.nm.hot = false
  stk : X.stack = X.env :: X.outer
  frm : X.env.frame = some X.env.locals
  tk : ∃ W, L2N.Takes X W ∧ ∀ c σ H, wx c σ H → W (cvOf X.mg L.nm c) none σ H
  kind : sc.kind = .function
  fn : ∀ x, X.fn x = true
  po : PassesOwn (model X.prog X.w) X.A X.env X.xe
def wx0 : WF := fun _ _ _ => False
theorem takesN0 {X : Cx} : L2N.Takes X (fun _ _ _ _ => False) := fun _ _ x => by
  obtain ⟨_, _, _, _, _, _, _, _, _, _, _, _, _, _, _, _, z⟩ := x
  exact z.elim
theorem GoodS.nox {L : Lw} {n : Nat} {N : List Str} {sc : Scope} {X : Cx} {wx : WF} (g : GoodS L n N sc X wx) : GoodS L n N sc X.nox wx0 := ⟨⟨g.fs, g.rmh, g.room, g.room2, g.calm, g.hN, g.nd, g.hsc⟩, g.cold, g.stk, g.frm, ⟨_, takesN0, fun _ _ _ z => z⟩, g.kind, g.fn, PassesOwn.never⟩
variable {wx : WF}
theorem sw_none {v : Expr} (h : notLc v = true) (t : Option Expr) (l : Nat) (env : Env) : swapsWith v t l env = pure false := by
  cases v <;> first | rfl | cases h
theorem sw_line {elt : Expr} {gs : List Comprehension} {s : Scope} {p py : Pos} {y : Str} {l : Nat} {env : Env} (h : (py.line == p.line) = false) : swapsWith (.ListComp elt gs s p) (some (.Name y py)) l env = pure false := by
  unfold swapsWith
  simp only [Expr.pos, h]
  rw [Bool.and_false, Bool.false_and]
theorem setB_ok {i : Nat} {y : Str} {py : Pos} {v : Expr} (h : setB N sc i y py v = true) : N[i]? = some y ∧ L2.Loc sc y ∧ (notLc v = true ∨ ∃ e g s p, v = .ListComp e [g] s p ∧
    ((py.line == p.line) = false ∨ ((py.line == p.line) = true ∧ sc.names.lookup y = some .local ∧ (s.names.any fun (n, k) => n == y && (k == .local || k == .cell)) = false))) := by
  unfold setB at h
  obtain ⟨h, h3⟩ := and2 h
  obtain ⟨h1, h2⟩ := and2 h
  refine ⟨of_decide_eq_true h1, locB_ok h2, ?_⟩
  rw [Bool.or_eq_true] at h3
  rcases h3 with h3 | h3
  · exact .inl h3
  · right
    cases v <;> first | (cases h3; done) | skip
    rename_i e gs s p
    cases gs with
    | nil => cases h3
    | cons g gs =>
      cases gs with
      | cons _ _ => cases h3
      | nil =>
        refine ⟨e, g, s, p, rfl, ?_⟩
        have h3 : (decide (sc.names.lookup y = some .local) && !(s.names.any fun (n, k) => n == y && (k == .local || k == .cell)) || !(py.line == p.line)) = true := h3
        rw [Bool.or_eq_true] at h3
        cases hl : (py.line == p.line) with
        | false => exact .inl rfl
        | true =>
          right
          rw [hl] at h3
          rcases h3 with h3 | h3
          · obtain ⟨a, b⟩ := and2 h3
            refine ⟨rfl, of_decide_eq_true a, ?_⟩
            simpa using b
          · cases h3
theorem _root_.L2.PS.imp {st : Stmt} {t t' : TS} (h : PS X st t) (i : ∀ D σ H, t' D σ H → t D σ H) : PS X st t' := ⟨fun pins s σ H D I q => h.run pins s σ H D I (i D σ H q)⟩
theorem _root_.L2.PSs.imp {st : List Stmt} {t t' : TS} (h : PSs X st t) (i : ∀ D σ H, t' D σ H → t D σ H) : PSs X st t' := ⟨fun pins s σ H D I q => h.run pins s σ H D I (i D σ H q)⟩
theorem GoodS.fx (g : GoodS L n N sc X wx) (y : Str) : X.fn y = true ∨ X.env.scope.names.lookup y = some .local := .inl (g.fn y)
/-- name = e -/
theorem ps_setE (g : GoodS L n N sc X wx) {i : Nat} {y : Str} {py pos : Pos} {e : E} {v : Expr} {te : TE} (h : setB N sc i y py v = true) (hm : mE L.nm N sc e v = true) (P : PE X v te)
    (hl : ∀ ws ts src c e', e = .lc ws ts src c e' → ∀ σ H Q, te σ H Q → tL X.K (lcCo L n ws ts src c e') σ H Q) : PS X (.Assign [.Name y py] v pos) (tAsg te (gName i)) := by
  obtain ⟨h1, h2, h3⟩ := setB_ok h
  have hN : X.N.Nodup := by rw [g.hN]; exact g.nd
  have hi : X.N[i]? = some y := by rw [g.hN]; exact h1
  have hx : L2.Loc X.env.scope y := by rw [g.hsc]; exact h2
  rcases h3 with h3 | ⟨elt, gg, s, p, rfl, h3⟩
  · exact ps_set hN hi hx P (sw_none h3 _ _ _) (g.fx y)
  · rcases h3 with h3 | ⟨k1, k2, k3⟩
    · exact ps_set hN hi hx P (sw_line h3) (g.fx y)
    · cases e with
      | lc ws ts src c e =>
        obtain ⟨elt, tg, it, ifs, scope, q, e0, hh, h1, h2, h3, h4, h5, h6, h7⟩ := lc_inv hm
        cases e0
        have ok := blkOk_by (N := X.N) (sc := X.env.scope) (scope := s) (own := ownOf N ws) (by rw [g.hN, g.hsc]; exact h1)
        have hy : X.env.scope.names.lookup y = some .local := by rw [g.hsc]; exact k2
        have P := ps_setLc (g := gN X.K ts) (tt := tK X.K (evCl L n c)) (te := tC X.K (evl L n .val e)) (pos := p) (spos := pos) (py := py) (g.calm hh) hN hi hy (sw_true (by rw [g.hsc]; exact g.kind) hy k1 k3) (src_pi g.toGood true h5) ok (fun s' H C cl fp => tgs_ok g.toGood hh h4 s' H C cl fp)
          (fun s' H C cl fp => pts_of (sc := sc) (by
            rcases h6 with h6 | ⟨e1, t, e2, h6⟩
            · exact .inl h6
            · exact .inr ⟨e1, t, e2, sE c (g.toGood.blk s' H s C cl fp) h6⟩)) (fun s' H C cl fp => (sE e (g.toGood.blk s' H s C cl fp) h7).v) (set_ok (src_noset h5))
        rw [h2] at P
        exact P.imp fun D σ H q => lc_turns (fun _ _ _ h => h) (fun _ _ _ h => h) (fun _ _ _ h => h) (fun t ht => of_decide_eq_true (List.all_eq_true.mp h3 t ht)) σ H _ (hl _ _ _ _ _ rfl σ H _ q)
      | blt f as => cases f <;> cases hm
      | _ => cases hm
theorem nm_pg (g : GoodS L n N sc X wx) {i : Nat} {e : Expr} (h : nmB N sc i e = true) : PG X e (gName i) := by
  cases e <;> first | (cases h; done) | skip
  rename_i y p
  obtain ⟨h1, h2⟩ := and2 h
  exact pg_name (by rw [g.hN]; exact g.nd) (by rw [g.hN]; exact of_decide_eq_true h1) (by rw [g.hsc]; exact locB_ok h2) (g.fx y)
theorem nm_each {i : Nat} {e : Expr} (h : nmB N sc i e = true) (zs : List Expr) (env : Env) : assignEach (e :: zs) env = (false, assign e env) :: assignEach zs env := by
  cases e <;> first | rfl | cases h
def gNs : List Nat → TGs
  | [] => gNil
  | i :: is => gCons (gName i) (gNs is)
theorem nms_pg (g : GoodS L n N sc X wx) : ∀ {is : List Nat} {es : List Expr}, nmsB N sc is es = true → PGs X es (gNs is) ∧ (assignEach es X.env).length = is.length ∧ (assignEach es X.env).findIdx? (·.1) = none
  | [], [], _ => ⟨pgs_nil, rfl, rfl⟩
  | [], _ :: _, h => by cases h
  | _ :: _, [], h => by cases h
  | i :: is, e :: es, h => by
    obtain ⟨h1, h2⟩ := and2 (show (nmB N sc i e && nmsB N sc is es) = true from h)
    obtain ⟨a, b, c⟩ := nms_pg g h2
    refine ⟨pgs_cons (nm_pg g h1) a (by rw [nm_each h1]; rfl), by rw [nm_each h1]; simp [b], ?_⟩
    rw [nm_each h1, List.findIdx?_cons, c]
    rfl
theorem tgf_pg (g : GoodS L n N sc X wx) {ts : List Nat} {e : Expr} (h : tgfB N sc ts e = true) : PG X e (gN X.K ts) := by
  cases ts with
  | nil => cases h
  | cons t ts =>
    cases ts with
    | nil => exact nm_pg g h
    | cons u ts =>
      cases ts with
      | cons _ _ => cases h
      | nil =>
        cases e <;> first | (cases h; done) | skip
        rename_i es k p
        cases es with
        | nil => cases h
        | cons a es =>
          cases es with
          | nil => cases h
          | cons b es =>
            cases es with
            | cons _ _ => cases h
            | nil =>
              have h : (nmB N sc t a && nmB N sc u b) = true := h
              have hh : nmsB N sc [t, u] [a, b] = true := by
                show (nmB N sc t a && (nmB N sc u b && true)) = true
                rw [Bool.and_true]; exact h
              obtain ⟨p1, p2, p3⟩ := nms_pg g hh
              exact pg_tup (g.calm g.cold) p1 p2 p3
theorem layNs_ok {K : PySem.W.Frag} : ∀ {is : List Nat} {xs : List D} {δ δ' : En} {H0 M H : Hp} {σ : L2.St} {vs : List V}, layNs is xs δ = .ok δ' → OKs K H0 M H σ δ → Reps K M xs vs → ∀ {Q : L2.St → Hp → Prop}, (∀ σ', OKs K H0 M H σ' δ' → Q σ' H) → gNs is vs σ H Q
  | [], [], _, _, _, _, _, _, _, h, o, r, _, q => by
    cases h; cases r
    exact ⟨rfl, q _ o⟩
  | [], _ :: _, _, _, _, _, _, _, _, h, _, _, _, _ => by cases h
  | _ :: _, [], _, _, _, _, _, _, _, h, _, _, _, _ => by cases h
  | i :: is, x :: xs, δ, δ', _, _, _, σ, _, h, o, r, _, q => by
    cases r with
    | cons r rs => exact ⟨_, _, rfl, layNs_ok (is := is) h (o.set r) rs q⟩
theorem layNs_len : ∀ {is : List Nat} {xs : List D} {δ δ' : En}, layNs is xs δ = .ok δ' → xs.length = is.length
  | [], [], _, _, _ => rfl
  | [], _ :: _, _, _, h => by cases h
  | _ :: _, [], _, _, h => by cases h
  | i :: is, x :: xs, _, _, h => by
    have := layNs_len (is := is) (xs := xs) h
    simp [this]
end
end Fw

/-! what may raise; what is caught -/
namespace Fw
open PySem PySem.Spec PyProof.Rows L2
open Evl (Ex ex_rd ex_l ex_t)
def xOk {α : Type} (K : PySem.W.Frag) (wx : WF) (M0 H0 : Hp) (σ : L2.St) (δ : En) (P : α → Prop) : R α → Prop
  | .ok a => P a
  | .exc c => ∀ M' H', Xt M0 H0 M' H' → OKs K H0 M' H' σ δ → wx c σ H'
  | .stuck => False
theorem xOk.imp {α : Type} {K : PySem.W.Frag} {wx : WF} {M0 H0 : Hp} {σ : L2.St} {δ : En} {P P' : α → Prop} {r : R α} (h : xOk K wx M0 H0 σ δ P r) (i : ∀ a, r = .ok a → P a → P' a) : xOk K wx M0 H0 σ δ P' r := by
  cases r with
  | ok a => exact i a rfl h
  | exc c => exact h
  | stuck => exact h
/-- one behind the other -/
theorem xOk.bind {α β : Type} {K : PySem.W.Frag} {wx : WF} {M0 H0 : Hp} {σ : L2.St} {δ : En} {P : β → Prop} {r : R α} {f : α → R β} (h : xOk K wx M0 H0 σ δ P (r.bind f)) : xOk K wx M0 H0 σ δ (fun a => xOk K wx M0 H0 σ δ P (f a)) r := by
  cases r with
  | ok a => exact h
  | exc c => exact h
  | stuck => exact h
section
variable (K : PySem.W.Frag) (wx : WF)
def tXr (co : En → R (D × Bool)) : TE := fun σ H Q => ∃ M0 H0 M δ, Xt M0 H0 M H ∧ OKs K H0 M H σ δ ∧ xOk K wx M0 H0 σ δ (fun r => ∀ M' H' v, Xt M H M' H' → RepF K H M' H' r v → Q v H') (co δ)
def tXs (co : En → R (List D)) : TA := fun σ H Q => ∃ M0 H0 M δ, Xt M0 H0 M H ∧ OKs K H0 M H σ δ ∧ xOk K wx M0 H0 σ δ (fun ds => ∀ M' H' vs, Xt M H M' H' → Reps K M' ds vs → Q vs H') (co δ)
end
section
variable {L : Lw} {n : Nat} {N : List Str} {sc : Scope} {X : Cx} {wx : WF}
abbrev evXl (L : Lw) (n : Nat) (e : EX) : En → R (D × Bool) := evX (run L.Γ L.G n) L.G e
abbrev evXsl (L : Lw) (n : Nat) (e : List EX) : En → R (List D) := evXs (run L.Γ L.G n) L.G e
theorem Xt.on' {M0 H0 M H M' H' : Hp} (x : Xt M0 H0 M H) (x1 : Xt M H M' H') : Xt M0 H0 M' H' := x.trans x1
theorem noX_x {α : Type} {K : PySem.W.Frag} {M0 H0 : Hp} {σ : L2.St} {δ : En} {P : α → Prop} {r : R α} (h : xOk K wx M0 H0 σ δ P (noX r)) : ∃ a, r = .ok a ∧ P a := by
  cases r with
  | ok a => exact ⟨a, rfl, h⟩
  | exc c => exact h.elim
  | stuck => exact h.elim
theorem mEX_ns {e : EX} {x : Expr} (h : mEX L.nm N sc e x = true) : notStar x = true := by
  cases e with
  | e a => exact mE_ns (show mE L.nm N sc a x = true from h)
  | call f as => cases x <;> first | rfl | cases h
  | tup as => cases x <;> first | rfl | cases h
mutual
theorem sEX (g : GoodS L n N sc X wx) : ∀ (e : EX) {x : Expr}, mEX L.nm N sc e x = true → PE X x (tXr X.K wx (evXl L n e))
  | .e a, x, h => by
    refine (sE a g.toGood (show mE L.nm N sc a x = true from h)).v.imp fun σ H Q ⟨M0, H0, M, δ, x0, o, q⟩ => ?_
    obtain ⟨d, e1, q⟩ := noX_x (xOk.bind q)
    exact ⟨H0, M, δ, d, o, e1, fun M' H' v x r => q M' H' v x r⟩
  | .call f as, x, h => by
    cases x <;> first | (cases h; done) | skip
    rename_i fn xs ks pos
    cases fn <;> first | (cases h; done) | skip
    rename_i y p
    cases ks with
    | cons _ _ => cases h
    | nil =>
      obtain ⟨h, h4⟩ := and2 h
      obtain ⟨h, h3⟩ := and2 h
      obtain ⟨h1, h2⟩ := and2 h
      have h1 := of_decide_eq_true h1
      obtain ⟨v1, v2⟩ := glB_ok h2
      obtain ⟨fa, fd, ps, c1, c2, c3, c4⟩ := g.fs.calls f y h1
      obtain ⟨W, tk, hw⟩ := g.tk
      have hs := sEs as g.toGood h4
      cases xs with
      | nil => cases h3
      | cons x xs =>
        cases as with
        | nil => have := mEs_nil h4; cases this
        | cons a as =>
          obtain ⟨y', ys', e, hm1, hm2⟩ := mEs_cons h4
          cases e
          refine (L2.pe_callS c4 (g.room g.cold) (g.gl v1) c1 c2 c3 (L2N.passAt tk) hs.av v2 (star_ns (mE_ns hm1) _ _) (stars_ok _ _ hm2)).imp fun σ H Q ⟨M0, H0, M, δ, x0, o, q⟩ => ?_
          obtain ⟨ds, e1, q⟩ := noX_x (xOk.bind q)
          refine ⟨H0, M, δ, ds, o, e1, fun M1 H1 vs x1 r1 => ⟨M1, ds, x1.mh, r1, ?_⟩⟩
          cases hr : run L.Γ L.G n f ds with
          | stuck => rw [hr] at q; exact q.elim
          | exc c =>
            rw [hr] at q
            exact .inr ⟨c, rfl, fun M2 H2 x2 => hw c σ H2 (q M2 H2 (x0.trans (x1.trans x2)) (o.up (x1.trans x2)))⟩
          | ok r =>
            rw [hr] at q
            refine .inl ⟨r, rfl, fun M2 H2 v x2 r2 => q M2 H2 v (x1.trans x2) ?_⟩
            obtain ⟨d, b⟩ := r
            cases b with
            | false => exact r2
            | true =>
              obtain ⟨a, us, zs, q1, q2, q3, q4, q5, q6⟩ := r2
              exact ⟨a, us, zs, q1, q2, Ex.none_of x1.h q3, q4, q5, q6⟩
  | .tup as, x, h => by
    cases x <;> first | (cases h; done) | skip
    rename_i xs k p
    refine (pe_tup (sEXs g as (show mEXs L.nm N sc as xs = true from h)).1).imp fun σ H Q ⟨M0, H0, M, δ, x0, o, q⟩ => ?_
    refine ⟨M0, H0, M, δ, x0, o, (xOk.bind q).imp fun ds _ q M1 H1 vs x1 r1 => ?_⟩
    by_cases hl : ds.length ≤ LIM
    · rw [req_pos hl] at q
      refine ⟨by rw [← r1.length, ← lim_eq]; exact hl, fun p hp => ?_⟩
      have x2 := Xt.new (o := .tup vs) x1.mh hp
      exact q _ _ _ (x1.trans x2) (Rep.tup (.inl (.inl upd_same)) (r1.up x2.m))
    · have e : req (ds.length ≤ LIM) (R.ok (D.tup ds, false)) = .stuck := if_neg hl
      rw [e] at q
      exact q.elim
theorem sEXs (g : GoodS L n N sc X wx) : ∀ (as : List EX) {xs : List Expr}, mEXs L.nm N sc as xs = true → PA X xs (tXs X.K wx (evXsl L n as)) ∧ True
  | [], xs, h => by
    cases xs with
    | cons _ _ => cases h
    | nil => exact ⟨pa_nil.imp fun σ H Q ⟨M0, H0, M, δ, x0, o, q⟩ => q M H [] (Xt.refl o.ex) .nil, trivial⟩
  | a :: as, xs, h => by
    cases xs with
    | nil => cases h
    | cons y ys =>
      obtain ⟨h1, h2⟩ := and2 (show (mEX L.nm N sc a y && mEXs L.nm N sc as ys) = true from h)
      refine ⟨(pa_cons (sEX g a h1) (sEXs g as h2).1 (star_ns (mEX_ns h1) _ _)).imp fun σ H Q ⟨M0, H0, M, δ, x0, o, q⟩ => ?_, trivial⟩
      refine ⟨M0, H0, M, δ, x0, o, (xOk.bind q).imp fun r _ q M1 H1 v x1 r1 => ?_⟩
      obtain ⟨M2, x2, r2⟩ := r1.told x1
      refine ⟨M0, H0, M2, δ, x0.trans x2, o.up x2, (xOk.bind q).imp fun ds _ q M3 H3 vs x3 r3 => ?_⟩
      exact q M3 H3 _ (x2.trans x3) (.cons (r2.up x3.m) r3)
end
/-- the outcome of a call, told -/
theorem tXr.told {K : PySem.W.Frag} {co : En → R (D × Bool)} {σ : L2.St} {H : Hp} {Q : VK} (h : ∃ M0 H0 M δ, Xt M0 H0 M H ∧ OKs K H0 M H σ δ ∧ xOk K wx M0 H0 σ δ (fun r => ∀ M' H' v, Xt M H M' H' → Rep K M' r.1 v → Q v H') (co δ)) : tXr K wx co σ H Q := by
  obtain ⟨M0, H0, M, δ, x0, o, q⟩ := h
  refine ⟨M0, H0, M, δ, x0, o, q.imp fun r _ q M1 H1 v x1 r1 => ?_⟩
  obtain ⟨M2, x2, r2⟩ := r1.told x1
  exact q M2 H1 v x2 r2
theorem tkX_inv {δ : En} {k : TK} {r : R (D × Bool)} {f : F} (h : tkX δ k r = .ok f) : (∃ a, r = .ok a ∧ tkD a δ k = .ok f) ∨ ∃ c, r = .exc c ∧ f = .ex c δ ∧ appOk δ k = true := by
  cases r with
  | ok a => exact .inl ⟨a, rfl, h⟩
  | exc c =>
    have h : (if appOk δ k = true then R.ok (F.ex c δ) else .stuck) = .ok f := h
    by_cases hk : appOk δ k = true
    · rw [if_pos hk] at h; cases h; exact .inr ⟨c, rfl, rfl, hk⟩
    · rw [if_neg hk] at h; cases h
  | stuck => cases h
theorem OKs.setNo {K : PySem.W.Frag} {H0 M H : Hp} {σ : L2.St} {δ : En} (i : Nat) (s : Option V) (o : OKs K H0 M H σ δ) : OKs K H0 M H (σ.set i s) (δ.set i .no) := by
  have key : ∀ (j : Nat) xs, (δ.set i .no)[j]? = some (.own xs) → j ≠ i ∧ δ[j]? = some (.own xs) := fun j xs e => by
    by_cases hj : j = i
    · subst hj
      by_cases hl : j < δ.length
      · rw [List.getElem?_set_self hl] at e; cases e
      · rw [List.getElem?_eq_none (by simpa using hl)] at e; cases e
    · rw [List.getElem?_set_ne (Ne.symm hj)] at e; exact ⟨hj, e⟩
  refine ⟨by rw [List.length_set, List.length_set]; exact o.len, fun j s' d' e1 e2 => ?_, fun j k xs ys p hjk e1 e2 e3 => ?_, fun j xs p e1 e2 => ?_, o.ex, o.h0⟩
  · by_cases hj : j = i
    · subst hj
      have hl : j < δ.length := by simpa using (List.getElem?_eq_some_iff.mp e2).1
      rw [List.getElem?_set_self hl] at e2
      cases e2
      trivial
    · rw [List.getElem?_set_ne (Ne.symm hj)] at e1 e2
      exact o.sl j s' d' e1 e2
  · obtain ⟨h1, h2⟩ := key j xs e1
    obtain ⟨h3, h4⟩ := key k ys e2
    rw [List.getElem?_set_ne (Ne.symm h1)] at e3
    rw [List.getElem?_set_ne (Ne.symm h3)]
    exact o.dis j k xs ys p hjk h2 h4 e3
  · obtain ⟨h1, h2⟩ := key j xs e1
    rw [List.getElem?_set_ne (Ne.symm h1)] at e2
    exact o.new j xs p h2 e2

/-! ### k := what may raise -/
theorem x_rd (g : GoodS L n N sc X wx) : ∀ {k : TK} {e : EX} {x : Stmt}, mS L.nm N sc (.x k e) x = true → PS X x (tS X.K wx (exl L n (.x k e)))
  | .set i, e, x, h => by
    cases x <;> first | (cases h; done) | skip
    rename_i ts v pos
    cases ts with
    | nil => cases h
    | cons t ts =>
      cases t <;> first | (cases h; done) | skip
      cases ts with
      | cons _ _ => cases h
      | nil =>
        obtain ⟨h, h3⟩ := and2 h
        obtain ⟨h1, h2⟩ := and2 h
        obtain ⟨k1, k2, _⟩ := setB_ok h1
        refine (ps_set (by rw [g.hN]; exact g.nd) (by rw [g.hN]; exact k1) (by rw [g.hsc]; exact k2) (sEX g e h3) (sw_none h2 _ _ _) (g.fx _)).imp fun D σ H ⟨M0, H0, M, δ, f, x0, o, e1, q⟩ => ?_
        refine tXr.told ⟨M0, H0, M, δ, x0, o, ?_⟩
        rcases tkX_inv (show tkX δ (.set i) (evXl L n e δ) = .ok f from e1) with ⟨a, e2, e3⟩ | ⟨c, e2, rfl, ka⟩
        · rw [e2]
          cases e3
          exact fun M1 H1 v x1 r1 => q M1 H1 _ (x0.trans' ⟨x1.m, x0.h.trans x1.h, x1.mh, fun a h1 h2 => x1.fr a h1 (Ex.some x0.h h2)⟩) ((o.up x1).set r1)
        · rw [e2]
          exact fun M1 H1 x1 o1 => q M1 H1 σ x1 o1
  | .own i, e, x, h => by
    cases x <;> first | (cases h; done) | skip
    rename_i ts v pos
    cases ts with
    | nil => cases h
    | cons t ts =>
      cases t <;> first | (cases h; done) | skip
      cases ts with
      | cons _ _ => cases h
      | nil =>
        obtain ⟨h, h3⟩ := and2 h
        obtain ⟨h1, h2⟩ := and2 h
        obtain ⟨k1, k2, _⟩ := setB_ok h1
        refine (ps_set (by rw [g.hN]; exact g.nd) (by rw [g.hN]; exact k1) (by rw [g.hsc]; exact k2) (sEX g e h3) (sw_none h2 _ _ _) (g.fx _)).imp fun D σ H ⟨M0, H0, M, δ, f, x0, o, e1, q⟩ => ?_
        refine ⟨M0, H0, M, δ, x0, o, ?_⟩
        rcases tkX_inv (show tkX δ (.own i) (evXl L n e δ) = .ok f from e1) with ⟨⟨d, b⟩, e2, e3⟩ | ⟨c, e2, rfl, ka⟩
        · rw [e2]
          cases d <;> first | (cases e3; done) | skip
          cases b <;> first | (cases e3; done) | skip
          cases e3
          intro M1 H1 v x1 r1
          obtain ⟨p, vs, xs, rfl', rfl, n0, n1, hh, r⟩ := r1
          cases rfl'
          exact q M1 H1 _ (x0.trans x1) ((o.up x1).setO n1 hh r (Ex.none_of x0.h n0) fun j ys _ hj hs => o.fresh n0 j ys hj hs)
        · rw [e2]
          exact fun M1 H1 x1 o1 => q M1 H1 σ x1 o1
  | .expr, e, x, h => by
    cases x <;> first | (cases h; done) | skip
    obtain ⟨h1, h2⟩ := and2 h
    refine (ps_expr (sEX g e h2) (sw_none h1 _ _ _)).imp fun D σ H ⟨M0, H0, M, δ, f, x0, o, e1, q⟩ => ?_
    refine tXr.told ⟨M0, H0, M, δ, x0, o, ?_⟩
    rcases tkX_inv (show tkX δ .expr (evXl L n e δ) = .ok f from e1) with ⟨a, e2, e3⟩ | ⟨c, e2, rfl, ka⟩
    · rw [e2]
      cases e3
      exact fun M1 H1 v x1 r1 => q M1 H1 σ (x0.trans x1) (o.up x1)
    · rw [e2]
      exact fun M1 H1 x1 o1 => q M1 H1 σ x1 o1
  | .ret, e, x, h => by
    cases x <;> first | (cases h; done) | skip
    rename_i v pos
    cases v with
    | none => cases h
    | some v =>
      refine (ps_ret (sEX g e h)).imp fun D σ H ⟨M0, H0, M, δ, f, x0, o, e1, q⟩ => ?_
      refine tXr.told ⟨M0, H0, M, δ, x0, o, ?_⟩
      rcases tkX_inv (show tkX δ .ret (evXl L n e δ) = .ok f from e1) with ⟨a, e2, e3⟩ | ⟨c, e2, rfl, ka⟩
      · rw [e2]
        cases e3
        exact fun M1 H1 v x1 r1 => q M1 H1 v (x0.trans x1) r1
      · rw [e2]
        exact fun M1 H1 x1 o1 => q M1 H1 σ x1 o1
  | .retf, e, x, h => by
    cases x <;> first | (cases h; done) | skip
    rename_i v pos
    cases v with
    | none => cases h
    | some v =>
      refine (ps_ret (sEX g e h)).imp fun D σ H ⟨M0, H0, M, δ, f, x0, o, e1, q⟩ => ?_
      refine ⟨M0, H0, M, δ, x0, o, ?_⟩
      rcases tkX_inv (show tkX δ .retf (evXl L n e δ) = .ok f from e1) with ⟨⟨d, b⟩, e2, e3⟩ | ⟨c, e2, rfl, ka⟩
      · rw [e2]
        cases d <;> first | (cases e3; done) | skip
        cases b <;> first | (cases e3; done) | skip
        cases e3
        intro M1 H1 v x1 r1
        obtain ⟨p, vs, xs, rfl', rfl, n0, n1, hh, r⟩ := r1
        cases rfl'
        exact q M1 H1 _ (x0.trans x1) ⟨p, vs, _, rfl, rfl, Ex.none_of x0.h n0, n1, hh, r⟩
      · rw [e2]
        exact fun M1 H1 x1 o1 => q M1 H1 σ x1 o1
  | .app i, e, x, h => by
    cases x <;> first | (cases h; done) | skip
    rename_i v pos
    cases v <;> first | (cases h; done) | skip
    rename_i fn as ks q
    cases fn <;> first | (cases h; done) | skip
    rename_i o nm p
    cases o <;> first | (cases h; done) | skip
    cases as with
    | nil => cases h
    | cons a as =>
      cases as with
      | cons _ _ => cases h
      | nil =>
        cases ks with
        | cons _ _ => cases h
        | nil =>
          obtain ⟨h, h4⟩ := and2 h
          obtain ⟨h, h3⟩ := and2 h
          obtain ⟨h, hq⟩ := and2 h
          obtain ⟨h1, h2⟩ := and2 h
          have h1 := of_decide_eq_true h1
          have ee := of_decide_eq_true hq
          subst ee
          obtain ⟨v1, v2, v3⟩ := visB_ok h2
          have A := pa_cons (sEX g e h4) pa_nil (star_ns (mEX_ns h4) _ _)
          refine (ps_expr (pe_bm PySem.F.plainAttrs_list PySem.F.slot_list_append PySem.F.type_list_append mt_append (pe_var (X := X) (i := i) (by rw [g.hN]; exact h1) (by rw [g.hsc]; exact v1) v2 v3) A rfl
            (by rw [star_ns (mEX_ns h4)]; rfl) h3 (star_ns (mEX_ns h4) _ _) rfl) (sw_none rfl _ _ _)).imp fun D σ H ⟨M0, H0, M, δ, f, x0, o, e1, qq⟩ => ?_
          rcases tkX_inv (show tkX δ (.app i) (evXl L n e δ) = .ok f from e1) with ⟨a, e2, e3⟩ | ⟨c, e2, rfl, ka⟩
          · have e3 : (match δ[i]? with | some (.own xs) => req (xs.length < LIM) (R.ok (F.nx (δ.set i (.own (xs ++ [a.1]))))) | _ => .stuck) = .ok f := e3
            cases c : δ[i]? with
            | none => rw [c] at e3; cases e3
            | some s =>
              rw [c] at e3
              cases s <;> first | (cases e3; done) | skip
              rename_i xs
              obtain ⟨hl, e4⟩ := req_inv e3
              cases e4
              obtain ⟨b, vs, k1, k2, k3, k4⟩ := o.getO c
              refine ⟨_, k1, .inl ⟨rfl, vs, .inl (.inl k3)⟩, tXr.told ⟨M0, H0, M, δ, x0, o, ?_⟩⟩
              rw [e2]
              intro M' H' w x1 r1
              refine ⟨b, vs, w, rfl, rfl, x1.h _ _ k3, ?_, ?_⟩
              · rw [← k4.length, ← lim_eq]; exact hl
              · have o1 := o.up x1
                have x2 := x0.trans x1
                have m' : M' b = none := x1.fr b k2 (by rw [k3]; exact fun z => nomatch z)
                have h0 : H0 b = none := o.new i xs b c k1
                refine qq M' _ σ ⟨x2.m, fun d u hb => ?_, fun d u hb => ?_, x2.fr⟩ (o1.app c k1 (x1.h _ _ k3) ((k4.up x1.m).snoc r1))
                · rw [upd_ne (fun z => by subst z; rw [h0] at hb; cases hb)]; exact x2.h d u hb
                · rw [upd_ne (fun z => by subst z; rw [m'] at hb; cases hb)]; exact x2.mh d u hb
          · have ka : (match δ[i]? with | some (.own _) => true | _ => false) = true := ka
            cases c' : δ[i]? with
            | none => rw [c'] at ka; cases ka
            | some s =>
              rw [c'] at ka
              cases s <;> first | (cases ka; done) | skip
              obtain ⟨b, vs, k1, k2, k3, k4⟩ := o.getO c'
              refine ⟨_, k1, .inl ⟨rfl, vs, .inl (.inl k3)⟩, tXr.told ⟨M0, H0, M, δ, x0, o, ?_⟩⟩
              rw [e2]
              exact fun M1 H1 x1 o1 => qq M1 H1 σ x1 o1
theorem raise_rd (g : GoodS L n N sc X wx) {c : Nat} {x : Stmt} (h : mS L.nm N sc (.raise c) x = true) : PS X x (tS X.K wx (exl L n (.raise c))) := by
  cases x <;> first | (cases h; done) | skip
  rename_i e cause pos
  cases e with
  | none => cases h
  | some e =>
  cases e <;> first | (cases h; done) | skip
  rename_i fn as ks q
  cases fn <;> first | (cases h; done) | skip
  rename_i y p
  cases as with
  | nil => cases h
  | cons a as =>
  cases a <;> first | (cases h; done) | skip
  rename_i ca j p2
  cases ca <;> first | (cases h; done) | skip
  cases as with
  | cons _ _ => cases h
  | nil =>
  cases ks with
  | cons _ _ => cases h
  | nil =>
  cases cause with
  | some _ => cases h
  | none =>
    obtain ⟨h, h3⟩ := and2 h
    obtain ⟨h1, h2⟩ := and2 h
    have h1 := of_decide_eq_true h1
    have h3 := of_decide_eq_true h3
    obtain ⟨v1, v2⟩ := glB_ok h2
    have ro := g.fs.excs c h3.1 h3.2
    obtain ⟨C, hm, hC, k1, k2, k3, k4, k5⟩ := ro.own
    obtain ⟨W, tk, hw⟩ := g.tk
    have hm := hm y h1
    refine (L2N.ps_raise (g.calm g.cold) tk (L2N.pmk_own PySem.F.excBase_ValueError k1 hm k2 (raises_own k3 k4) (g.gl v1) v2)).imp fun D σ H ⟨M0, H0, M, δ, f, x0, o, e1, q⟩ => ?_
    cases e1
    have z := hw c σ H (q M H σ x0 o)
    rw [hC] at z
    exact z

/-! ### suites -/
abbrev exUl (L : Lw) (n c : Nat) (su : List SU) : En → R F := exU (run L.Γ L.G n) L.G c su
theorem exU_f {c : Nat} : ∀ {su : List SU} {δ : En} {f : F}, exUl L n c su δ = .ok f → f = .nx δ ∨ ∃ d, f = .rt d false
  | [], δ, f, h => by cases h; exact .inl rfl
  | .ret u :: ss, δ, f, h => by
    obtain ⟨d, _, h2⟩ := R.bind_inv h
    cases h2; exact .inr ⟨d, rfl⟩
  | .ifr u r :: ss, δ, f, h => by
    obtain ⟨d, hd, h2⟩ := R.bind_inv h
    clear hd
    cases d <;> first | (cases h2; done) | skip
    rename_i b
    cases b with
    | true =>
      obtain ⟨d, _, h3⟩ := R.bind_inv h2
      cases h3; exact .inr ⟨d, rfl⟩
    | false => exact exU_f (su := ss) h2
def tUs (X : Cx) (er : Option Nat) (a : Addr) (wx : WF) (co : En → R F) : TS := fun D σ H => errAt er a σ ∧ tS X.K wx co D σ H
theorem sSU {er : Option Nat} {a : Addr} {c : Nat} (S : Sui L n N sc X a c) : ∀ (su : List SU) {xs : List Stmt}, mSU L.nm N sc er su xs = true → PSs X xs (tUs X er a wx (exUl L n c su))
  | [], xs, h => by
    cases xs with
    | cons _ _ => cases h
    | nil =>
      refine pss_nil.imp fun D σ H ⟨_, M0, H0, M, δ, f, x, o, e1, q⟩ => ?_
      cases e1
      exact q M H σ x o
  | .ret u :: ss, xs, h => by
    cases xs with
    | nil => cases h
    | cons x xs =>
      cases x <;> first | (cases h; done) | skip
      rename_i v pos
      cases v with
      | none => cases h
      | some v =>
        obtain ⟨h1, h2⟩ := and2 (show (mU L.nm N sc er u v && mSU L.nm N sc er ss xs) = true from h)
        refine (pss_cons (ps_ret (sU S u h1).v) (sSU S ss h2)).imp fun D σ H ⟨h0, M0, H0, M, δ, f, x, o, e1, q⟩ => ?_
        obtain ⟨d, e2, e3⟩ := R.bind_inv e1
        cases e3
        exact ⟨h0, H0, M, δ, d, o, e2, fun M' H' v x1 r => q M' H' v (x.on' x1) r⟩
  | .ifr u r :: ss, xs, h => by
    cases xs with
    | nil => cases h
    | cons x xs =>
      cases x <;> first | (cases h; done) | skip
      rename_i t y z pos
      cases y with
      | nil => cases h
      | cons s y =>
      cases s <;> first | (cases h; done) | skip
      rename_i v pos2
      cases v with
      | none => cases h
      | some v =>
      cases y with
      | cons _ _ => cases h
      | nil =>
      cases z with
      | cons _ _ => cases h
      | nil =>
        obtain ⟨h, h3⟩ := and2 (show (mU L.nm N sc er u t && mU L.nm N sc er r v && mSU L.nm N sc er ss xs) = true from h)
        obtain ⟨h1, h2⟩ := and2 h
        refine (pss_cons (ps_if (sU S u h1).t (pss_one (ps_ret (sU S r h2).v)) pss_nil) (sSU S ss h3)).imp fun D σ H ⟨h0, M0, H0, M, δ, f, x, o, e1, q⟩ => ?_
        obtain ⟨d, e2, e3⟩ := R.bind_inv e1
        cases d <;> first | (cases e3; done) | skip
        rename_i b
        refine ⟨h0, H0, M, δ, b, o, e2, fun M1 H1 x1 => ?_⟩
        cases b with
        | true =>
          obtain ⟨d, e4, e5⟩ := R.bind_inv e3
          cases e5
          rw [if_pos rfl]
          exact ⟨h0, H0, M1, δ, d, o.up x1, e4, fun M2 H2 v x2 r => q M2 H2 v (x.on' (x1.trans x2)) r⟩
        | false =>
          rw [if_neg (by decide)]
          exact ⟨h0, M0, H0, M1, δ, f, x.on' x1, o.up x1, e3, q⟩
theorem cl_names (g : GoodS L n N sc X wx) {h : Nat} {x : Expr} (hB : clB L.nm sc h x = true) : ∃ y p, x = .Name y p ∧ h < L.nm.EN.length ∧ Names X y (cvOf X.mg L.nm h) := by
  cases x <;> first | (cases hB; done) | skip
  rename_i y p
  obtain ⟨hB, h3⟩ := and2 hB
  obtain ⟨h1, h2⟩ := and2 hB
  have h1 := of_decide_eq_true h1
  obtain ⟨v1, v2⟩ := glB_ok h2
  obtain ⟨hn, hd, _⟩ := g.fs.enm h y h1
  exact ⟨y, p, rfl, (List.getElem?_eq_some_iff.mp h1).1, g.gl v1, v2, hn⟩
theorem sui_of (g : GoodS L n N sc X wx) {a : Addr} {oe : Obj} {pn : List (Addr × Obj)} {c : Nat} (h2 : 2 ≤ c) (hm : c < L.nm.RN) (hz : L2N.Zn (cvOf X.mg L.nm c) none oe) (hf : ∃ vs, oe.data = .fields vs) : Sui L n N sc (X.suite a ((a, oe) :: pn)) a c := by
  refine ⟨⟨⟨g.fs.calls, g.fs.globs, g.fs.blts, g.fs.enm, fun c a b => ⟨(g.fs.excs c a b).own, (g.fs.excs c a b).sub⟩, g.fs.hots⟩, ⟨g.rmh.dp, g.rmh.un⟩, (fun z => by cases z), (fun z => by cases z), (fun z => by cases z), g.hN, g.nd, g.hsc⟩, ⟨oe, List.mem_cons_self, ⟨rfl, ?_⟩, hz, hf⟩, h2, hm⟩
  obtain ⟨vs, hv⟩ := hf
  exact ⟨vs, hv, hz.2.2 vs hv⟩
def tSui (X : Cx) (L : Lw) (n : Nat) (er : Option Nat) (wx : WF) (su : List SU) (a : Addr) (cls : Value) (d : Option Addr) : TS := fun D σ H => ∃ c, 2 ≤ c ∧ c < L.nm.RN ∧ cls = cvOf X.mg L.nm c ∧ d = none ∧ tUs X er a wx (exUl L n c su) D σ H
theorem sui_pss (g : GoodS L n N sc X wx) {er : Option Nat} {su : List SU} {xs : List Stmt} (h : mSU L.nm N sc er su xs = true) (a : Addr) (oe : Obj) (cls : Value) (d : Option Addr) (pn : List (Addr × Obj)) (hz : L2N.Zn cls d oe) (hf : ∃ vs, oe.data = .fields vs) :
    PSs (X.suite a ((a, oe) :: pn)) xs (tSui X L n er wx su a cls d) :=
  ⟨fun pins s σ H D I ⟨c, h2, hm, e1, e2, q⟩ => by
    subst e1; subst e2
    exact (sSU (wx := wx) (sui_of g h2 hm hz hf) su h).run pins s σ H D I q⟩
def hdL (X : Cx) (L : Lw) (n : Nat) (wx : WF) (hs : List (Nat × List SU)) : List (Value × (Addr → Value → Option Addr → TS)) := hs.map fun h => (cvOf X.mg L.nm h.1, tSui X L n none wx h.2)
theorem hds_ok (g : GoodS L n N sc X wx) : ∀ {hs : List (Nat × List SU)} {xs : List ExceptHandler}, mHd L.nm N sc hs xs = true → L2N.HdsOk X xs (hdL X L n wx hs) ∧ ∀ h ∈ hs, h.1 < L.nm.EN.length
  | [], [], _ => ⟨.nil, fun _ h => by cases h⟩
  | [], _ :: _, h => by cases h
  | h :: hs, [], e => by cases e
  | (h, su) :: hs, x :: xs, e => by
    cases x
    rename_i t nm b p
    cases t with
    | none => cases e
    | some t =>
    cases nm with
    | some _ => cases e
    | none =>
    cases b with
    | nil => cases e
    | cons b bs =>
      obtain ⟨e, e3⟩ := and2 (show (clB L.nm sc h t && mSU L.nm N sc none su (b :: bs) && mHd L.nm N sc hs xs) = true from e)
      obtain ⟨e1, e2⟩ := and2 e
      obtain ⟨y, p, rfl, lt, hn⟩ := cl_names g e1
      obtain ⟨r1, r2⟩ := hds_ok g e3
      refine ⟨.cons hn (fun a oe cls d pn hz hf => sui_pss g e2 a oe cls d pn hz hf) r1, fun k hk => ?_⟩
      rcases List.mem_cons.mp hk with rfl | hk
      · exact lt
      · exact r2 k hk
/-- the context of a body that is tried -/
theorem GoodS.tr (g : GoodS L n N sc X wx) {W : WX} {pn : List (Addr × Obj)} {xe : Value → Shared → Prop} (tk : L2N.Takes (X.tr pn xe) W) (po : PassesOwn (model X.prog X.w) X.A X.env xe) :
    GoodS L n N sc (X.tr pn xe) (fun c σ H => W (cvOf X.mg L.nm c) none σ H) := ⟨⟨g.fs, g.rmh, g.room, g.room2, g.calm, g.hN, g.nd, g.hsc⟩, g.cold, g.stk, g.frm, ⟨W, tk, fun _ _ _ h => h⟩, g.kind, g.fn, po⟩
theorem trys_rd (g : GoodS L n N sc X wx) {b : List S} {m : Nat} {hs : List (Nat × List SU)} {body : List Stmt} {h₀ : ExceptHandler} {hds : List ExceptHandler} {pos : Pos} (hb : ∀ {X : Cx} {wx : WF}, GoodS L n N sc X wx → PSs X body (tS X.K wx (exsl L n b))) (hm : m ≤ L.nm.RN) (hh : mHd L.nm N sc hs (h₀ :: hds) = true) :
    PS X (.Try body (h₀ :: hds) [] [] pos) (tS X.K wx (exl L n (.trys b m hs))) := by
  obtain ⟨W, tk, hw⟩ := g.tk
  obtain ⟨hk, hlt⟩ := hds_ok g hh
  refine (L2N.ps_try_many (tb := fun W => tS X.K (fun c σ H => W (cvOf X.mg L.nm c) none σ H) (exsl L n b)) g.stk g.frm tk (fun W pn xe tk po => hb (g.tr tk po)) hk).imp fun D σ H ⟨M0, H0, M, δ, f, x, o, e, q⟩ => ?_
  obtain ⟨f1, e1, e2⟩ := R.bind_inv e
  refine ⟨M0, H0, M, δ, f1, x, o, e1, ?_⟩
  cases f1 with
  | nx δ1 => cases e2; exact q
  | bk δ1 => cases e2; exact q
  | ct δ1 => cases e2; exact q
  | rt d k => cases e2; exact q
  | ex c δ1 =>
    obtain ⟨⟨c2, cm⟩, e3⟩ := req_inv e2
    have ro := g.fs.excs c c2 (Nat.lt_of_lt_of_le cm hm)
    intro M1 H1 σ1 x1 o1
    show wMany X.K W D (hdL X L n wx hs) (cvOf X.mg L.nm c) none σ1 H1
    have key : ∀ hs : List (Nat × List SU), (∀ h ∈ hs, h.1 < L.nm.EN.length) → suiteD (run L.Γ L.G n) L.G c δ1 hs = .ok f → wMany X.K W D (hdL X L n wx hs) (cvOf X.mg L.nm c) none σ1 H1 := by
      intro hs
      induction hs with
      | nil => intro _ e; cases e; exact hw c σ1 H1 (q M1 H1 σ1 x1 o1)
      | cons h hs ih =>
        intro hl e
        have e : (if subc c h.1 = true then exUl L n c h.2 δ1 else suiteD (run L.Γ L.G n) L.G c δ1 hs) = .ok f := e
        refine ⟨subc c h.1, (ro.sub h.1 (hl h (List.mem_cons_self ..))).1, fun hb a na => ?_, fun hb => ?_⟩
        · rw [if_pos hb] at e
          exact ⟨c, c2, Nat.lt_of_lt_of_le cm hm, rfl, rfl, trivial, M0, H0, M1, δ1, f, x1, o1, e, q⟩
        · rw [if_neg (by rw [hb]; decide)] at e
          exact ih (fun k hk => hl k (List.mem_cons_of_mem _ hk)) e
    exact key hs hlt e3
theorem tryas_rd (g : GoodS L n N sc X wx) {b : List S} {m h i : Nat} {su : List SU} {body : List Stmt} {y : Expr} {nm : Str} {b₀ : Stmt} {suite : List Stmt} {pos p2 : Pos} (hb : ∀ {X : Cx} {wx : WF}, GoodS L n N sc X wx → PSs X body (tS X.K wx (exsl L n b))) (hm : m ≤ L.nm.RN)
    (h1 : clB L.nm sc h y = true) (h2 : N[i]? = some nm) (h3 : sc.names.lookup nm = some .local) (h4 : mSU L.nm N sc (some i) su (b₀ :: suite) = true) :
    PS X (.Try body [.ExceptHandler (some y) (some nm) (b₀ :: suite) p2] [] [] pos) (tS X.K wx (exl L n (.tryas b m h i su))) := by
  obtain ⟨W, tk, hw⟩ := g.tk
  obtain ⟨y, p, rfl, lt, hn⟩ := cl_names g h1
  refine (L2N.ps_try_as (tb := fun W => tS X.K (fun c σ H => W (cvOf X.mg L.nm c) none σ H) (exsl L n b)) (i := i) g.stk g.frm (by rw [g.hN]; exact g.nd) (by rw [g.hN]; exact h2) (by show X.env.scope.names.lookup nm = _; rw [g.hsc]; exact h3) hn tk (fun W pn xe tk po => hb (g.tr tk po)) (fun a oe cls d pn hz hf => sui_pss g h4 a oe cls d pn hz hf)).imp fun D σ H ⟨M0, H0, M, δ, f, x, o, e, q⟩ => ?_
  obtain ⟨f1, e1, e2⟩ := R.bind_inv e
  refine ⟨M0, H0, M, δ, f1, x, o, e1, ?_⟩
  cases f1 with
  | nx δ1 => cases e2; exact q
  | bk δ1 => cases e2; exact q
  | ct δ1 => cases e2; exact q
  | rt d k => cases e2; exact q
  | ex c δ1 =>
    obtain ⟨⟨⟨c2, cm⟩, hi⟩, e3⟩ := req_inv e2
    have hm := Nat.lt_of_lt_of_le cm hm
    have ro := g.fs.excs c c2 hm
    intro M1 H1 σ1 x1 o1
    refine ⟨subc c h, (ro.sub h lt).1, fun hb a na => ?_, fun hb => ?_⟩
    · rw [if_pos hb] at e3
      obtain ⟨f2, e4, e5⟩ := R.bind_inv e3
      refine ⟨c, c2, hm, rfl, rfl, ?_, M0, H0, M1, δ1.set i .no, f2, x1, o1.setNo i _, e4, ?_⟩
      · show (σ1.set i (some (.ref a)))[i]? = some (some (.ref a))
        rw [List.getElem?_set_self (by rw [o1.len]; exact hi)]
      · rcases exU_f e4 with rfl | ⟨d, rfl⟩
        · cases e5
          exact fun M2 H2 σ2 x2 o2 => q M2 H2 _ x2 (o2.setNo i none)
        · cases e5
          exact q
    · rw [if_neg (by rw [hb]; decide)] at e3
      cases e3
      exact hw c σ1 H1 (q M1 H1 σ1 x1 o1)
end
end Fw

/-! where a token is out -/
namespace Fw
open PySem PySem.Spec PyProof.Rows L2
open Evl (Ex ex_rd ex_l ex_t)
def PTT (X : Cx) (e : Expr) (t : TT) : Prop := ∀ (pins : List (Addr × Obj)) (s : Shared) (σ : L2.St) (H : Hp) (Q : Bool → Hp → Prop), 1 ≤ s.toks → Inv X pins σ H s → t σ H Q →
  wpAny (model X.prog X.w) X.A (isTrue e X.env (eval e X.env)) (TP X pins σ Q) X.xe s
def PWT (X : Cx) (e : Expr) (t : TT) : Prop := ∀ (w : Sem Value) (pins : List (Addr × Obj)) (s : Shared) (σ : L2.St) (H : Hp) (Q : Bool → Hp → Prop), 1 ≤ s.toks → Inv X pins σ H s → t σ H Q →
  wpAny (model X.prog X.w) X.A (isTrue e X.env w) (TP X pins σ Q) X.xe s
/-- tokens stay out -/
theorem thnK {α : Type} {t : Sem α} {Q Q' : α → Shared → Prop} {M : Model} {A : Around} {E : Value → Shared → Prop} {s : Shared} (h0 : 1 ≤ s.toks) (h : wpAny M A t Q E s) (hQ : ∀ a s1, 1 ≤ s1.toks → Q a s1 → Q' a s1) : wpAny M A t Q' E s :=
  wpAny_mono (PySem.wpAny_toks_of h0 h) (fun a s1 x => hQ a s1 x.1 x.2) fun _ _ x => x.2
section
variable {L : Lw} {n : Nat} {N : List Str} {sc : Scope} {X : Cx} {wx : WF}
theorem ptt_of {x : Expr} {t : TT} (h : PT X x t) : PTT X x t := fun pins s σ H Q _ I q => h.run pins s σ H Q I q
theorem PTTi {x : Expr} {t t' : TT} (h : PTT X x t) (i : ∀ σ H Q, t' σ H Q → t σ H Q) : PTT X x t' := fun pins s σ H Q h0 I q => h pins s σ H Q h0 I (i σ H Q q)
theorem PETi {x : Expr} {t t' : TE} (h : PET X x t) (i : ∀ σ H Q, t' σ H Q → t σ H Q) : PET X x t' := fun pins s σ H Q h0 I q => h pins s σ H Q h0 I (i σ H Q q)
def replC (L : Lw) (n : Nat) (o : E) (y z : List Nat) : En → R D := fun δ => (evl L n .bor o δ).bind fun x => match x with
  | .str s => req (s.length + (s.length + 1) * z.length ≤ 16777216 ∧ okB (StrLaws.replL y z s) = true) (.ok (.str (StrLaws.replL y z s)))
  | _ => .stuck
theorem repl_ev (m : Md) (o : E) (y z : List Nat) (δ : En) : evl L n m (.repl o y z) δ = (replC L n o y z δ).bind (post m) := by
  show ((evl L n .bor o δ).bind fun x => match x with
    | .str s => req (s.length + (s.length + 1) * z.length ≤ 16777216 ∧ okB (StrLaws.replL y z s) = true) (post m (.str (StrLaws.replL y z s)))
    | _ => .stuck) = _
  unfold replC
  cases evl L n .bor o δ with
  | ok x =>
    cases x <;> first | rfl | skip
    show req _ (post m _) = (req _ (.ok _)).bind (post m)
    unfold req; split <;> rfl
  | _ => rfl
theorem tx_repl (g : Good L n N sc X) {o : E} {y z : List Nat} {x : Expr} (h : mRepl L.nm N sc (.repl o y z) x = true) : PET X x (tC X.K (replC L n o y z)) ∧ notStar x = true ∧ ∀ w, isTrue x X.env w = (do let v ← w; standAt x.pos; holding [v] (truthy v)) := by
  cases x <;> first | (cases h; done) | skip
  rename_i fn xs ks q
  cases fn <;> first | (cases h; done) | skip
  rename_i r nm p
  cases xs with
  | nil => cases h
  | cons a xs =>
  cases a <;> first | (cases h; done) | skip
  rename_i ca j1 c0
  cases ca <;> first | (cases h; done) | skip
  rename_i a
  cases xs with
  | nil => cases h
  | cons b xs =>
  cases b <;> first | (cases h; done) | skip
  rename_i cb j2 c1
  cases cb <;> first | (cases h; done) | skip
  rename_i b
  cases xs with
  | cons _ _ => cases h
  | nil =>
  cases ks with
  | cons _ _ => cases h
  | nil =>
    obtain ⟨h, h8⟩ := and2 h
    obtain ⟨h, h7⟩ := and2 h
    obtain ⟨h, h6⟩ := and2 h
    obtain ⟨h, h5⟩ := and2 h
    obtain ⟨h, h4⟩ := and2 h
    obtain ⟨h, h3⟩ := and2 h
    obtain ⟨h1, h2⟩ := and2 h
    have e1 := of_decide_eq_true h1
    have e2 := of_decide_eq_true h4
    have e3 := of_decide_eq_true h5
    subst e1; subst e2; subst e3
    refine ⟨PETi (CwR.pet_replC (sE o g h8).b (by simpa using h6) rfl (noSuper h2) h3) fun σ H Q ⟨H0, M, δ, d, oo, e, qq⟩ => ?_, rfl, by intro _; rfl⟩
    obtain ⟨x, ea, eb⟩ := R.bind_inv e
    cases x <;> first | (cases eb; done) | skip
    rename_i s
    obtain ⟨⟨hl, hk⟩, ec⟩ := req_inv eb
    cases ec
    refine ⟨H0, M, δ, _, oo, ea, fun M1 H1 v x1 r1 => ?_⟩
    obtain ⟨rfl, os⟩ := r1.str
    refine ⟨_, rfl, by rw [str_len]; exact hl, ?_⟩
    have z0 := StrLaws.replace_list (x := (⟨s.toArray⟩ : Str)) (y := a) (z := b) (of_decide_eq_true h7)
    have z1 : Txt.replace ⟨s.toArray⟩ a b = (⟨(StrLaws.replL a.cps.toList b.cps.toList s).toArray⟩ : Str) := by
      cases hh : Txt.replace ⟨s.toArray⟩ a b with
      | mk c =>
        rw [hh] at z0
        have z0 : c.toList = StrLaws.replL a.cps.toList b.cps.toList s := z0
        rw [← z0]
    rw [z1]
    exact qq M1 H1 _ x1 (.str _ fun c hc => of_decide_eq_true (List.all_eq_true.mp hk c hc))
theorem noSuperC {o : Expr} {nm : Str} {env : Env} {w : Sem Value} (h : nsC o = true) : attributeBase o nm env w = w := by
  cases o <;> first | rfl | skip
  rename_i f a k p
  cases f <;> first | rfl | cases h
theorem tV_tru {e : E} {x : Expr} {co : En → R D} (h : ∀ m δ, evl L n m e δ = (co δ).bind (post m)) (p : PET X x (tC X.K co)) : PET X x (tC X.K (evl L n .val e)) ∧ PET X x (tU X.K (evl L n .bor e)) := by
  refine ⟨PETi p fun σ H Q ⟨H0, M, δ, d, o, e1, q⟩ => ?_, PETi p fun σ H Q ⟨H0, M, δ, d, o, e1, q⟩ => ?_⟩
  · rw [h, bind_val] at e1
    exact ⟨H0, M, δ, d, o, e1, q⟩
  · rw [h, bind_bor] at e1
    exact ⟨H0, M, δ, d, o, e1, fun M' H' v x r => q M' H' v x r.b⟩
theorem repl_inv {o : E} {x : Expr} {L' : Nm} (h : mRepl L' N sc o x = true) : ∃ a y z, o = .repl a y z := by
  cases o <;> first | exact ⟨_, _, _, rfl⟩ | (cases x <;> cases h)
theorem sTV (g : Good L n N sc X) : ∀ {e : E} {x : Expr}, mTV L.nm N sc e x = true → PET X x (tC X.K (evl L n .val e)) ∧ PET X x (tU X.K (evl L n .bor e))
  | .repl o y z, x, h => tV_tru (fun m δ => repl_ev m o y z δ) (tx_repl g h).1
  | .mth .count o [w], x, h => by
    cases x <;> first | (cases h; done) | skip
    rename_i fn xs ks q
    cases fn <;> first | (cases h; done) | skip
    rename_i r nm p
    cases xs with
    | nil => cases h
    | cons t xs =>
    cases xs with
    | cons _ _ => cases h
    | nil =>
    cases ks with
    | cons _ _ => cases h
    | nil =>
      obtain ⟨h, h5⟩ := and2 h
      obtain ⟨h, h4⟩ := and2 h
      obtain ⟨h, h3⟩ := and2 h
      obtain ⟨h1, h2⟩ := and2 h
      have e1 := of_decide_eq_true h1
      subst e1
      obtain ⟨o, y, z, rfl⟩ := repl_inv h4
      obtain ⟨P, ns, _⟩ := tx_repl g h4
      have W := sE w g h5
      have nw := mE_ns h5
      have A := pa_cons W.b pa_nil (star_ns nw _ _)
      refine tV_tru (co := fun δ => (replC L n o y z δ).bind fun x => (evl L n .bor w δ).bind fun u => mthD .count x [u]) (fun m δ => ?_) ?_
      · show ((evl L n .bor (.repl o y z) δ).bind fun x => (((evl L n .bor w δ).bind fun u => (R.ok []).bind fun us => R.ok (u :: us)) : R (List D)).bind fun us => (mthD .count x us).bind (post m)) = _
        rw [repl_ev, bind_bor]
        cases replC L n o y z δ with
        | ok x => cases evl L n .bor w δ <;> rfl
        | _ => rfl
      · intro pins s σ H Q k0 I ⟨H0, M, δ, d, oo, e, qq⟩
        obtain ⟨x, ea, eb⟩ := R.bind_inv e
        obtain ⟨u, ec, ed⟩ := R.bind_inv eb
        have few : ((backTo q (starEach [t] X.env)).all (fun x => !x.1) && (backToKw q (keywordEach [] X.env)).all (fun x => x.1.isSome) && decide ([t].length + ([] : List Keyword).length + (if ([] : List Keyword).isEmpty then 0 else 1) < 30)) = true := by
          rw [star_ns nw]; rfl
        refine wpAny_Call_method_late (noSuperC h3) few h2 rfl (thnK k0 (P pins s σ H (fun v H1 => tyV X.K "str" v H1 ∧ (∃ M1, Xt M H M1 H1 ∧ Rep X.K M1 x v)) k0 I ⟨H0, M, δ, x, oo, ea, fun M1 H1 v x1 r1 => ⟨?_, M1, x1, r1⟩⟩) fun ov s1 k1 hv => ?_)
        · cases x <;> first | (cases ed; done) | skip
          obtain ⟨rfl, _⟩ := Rep.strI r1
          rfl
        · obtain ⟨x2, H1, I1, rx, ty, M1, x1, r1⟩ := hv
          obtain ⟨t1, t2⟩ := tyV_is I1 rx ty
          refine ⟨"str", "str.count", F.plainAttrs_str, F.slot_str_count, F.type_str_count, t1, t2, ?_⟩
          have B := A.run q pins s1 σ H1 (fun us H2 => ∃ M2, Xt M1 H1 M2 H2 ∧ RepBs X.K M2 H2 [u] us) I1 ⟨H0, M1, δ, u, oo.up x1, ec, fun M2 H2 uu y2 r2 => ⟨M2, y2, .cons r2 .nil⟩⟩
          rw [star_ns nw] at B ⊢
          refine Calls.callWith_builtin rfl (Calls.evalArgs_plain (thn B fun us s2 hs => ?_))
          obtain ⟨vs, H2, I2, r2, M2, y2, rb⟩ := hs
          exact dm_count pins s2 σ H2 x2 vs ov us Q I2 rx r2 ⟨M2, x, [u], d, y2.mh, (r1.up y2.m).b, rb, ed, fun M3 H3 z3 y3 r3 => qq M3 H3 z3 ((x1.trans y2).trans y3) r3⟩
  | .blt .len [o], x, h => by
    cases x <;> first | (cases h; done) | skip
    rename_i fn xs ks q
    cases fn <;> first | (cases h; done) | skip
    rename_i y p
    cases xs with
    | nil => cases h
    | cons t xs =>
    cases xs with
    | cons _ _ => cases h
    | nil =>
    cases ks with
    | cons _ _ => cases h
    | nil =>
      obtain ⟨h1, h2⟩ := and2 (show (bnB L.nm sc y "len" && mRepl L.nm N sc o t) = true from h)
      obtain ⟨rfl, v1, v2, v3, v4⟩ := bnB_ok h1
      obtain ⟨o, y', z, rfl⟩ := repl_inv h2
      obtain ⟨P, ns, _⟩ := tx_repl g h2
      refine tV_tru (co := fun δ => (replC L n o y' z δ).bind fun x => bltD .len [x]) (fun m δ => ?_) ?_
      · show ((((evl L n .bor (.repl o y' z) δ).bind fun u => (R.ok []).bind fun us => R.ok (u :: us)) : R (List D)).bind fun us => (bltD .len us).bind (post m)) = _
        rw [repl_ev, bind_bor]
        cases replC L n o y' z δ <;> rfl
      · intro pins s σ H Q k0 I ⟨H0, M, δ, d, oo, e, qq⟩
        obtain ⟨x, ea, eb⟩ := R.bind_inv e
        have A := pat_cons P pat_nil (star_ns ns _ _)
        refine wpAny_Call_Name_kw (ld_blt I (g.gl v1) (g.fs.blts _ v3) (blt_boot .len) ?_ v4 v2)
        refine PyProof.Rows.callWith_builtin1 (thn (A q pins s σ H (fun vs H1 => ∃ M1, Xt M H M1 H1 ∧ Reps X.K M1 [x] vs) k0 I ⟨H0, M, δ, x, oo, ea, fun M1 H1 v x1 r1 => ⟨M1, x1, .cons r1 .nil⟩⟩) fun us s1 hs => ?_) (star_ns ns _ _) rfl
        obtain ⟨vs, H1, I1, r1, M1, x1, rb⟩ := hs
        exact dblt .len (fun z => by cases z) (fun t z => by cases z) pins s1 σ H1 vs us Q I1 r1 ⟨M1, [x], d, x1.mh, by
          cases rb with
          | cons a b => cases b; exact .cons a.b .nil, eb, fun M2 H2 z y2 r2 => qq M2 H2 z (x1.trans y2) r2⟩
  | .var _, _, h => by cases h
  | .int _, _, h => by cases h
  | .str _, _, h => by cases h
  | .bl _, _, h => by cases h
  | .non, _, h => by cases h
  | .glob _, _, h => by cases h
  | .op _ _ _, _, h => by cases h
  | .neg _, _, h => by cases h
  | .cmp _ _ _, _, h => by cases h
  | .chain _ _ _ _ _, _, h => by cases h
  | .isN _, _, h => by cases h
  | .notN _, _, h => by cases h
  | .isB _ _, _, h => by cases h
  | .notB _ _, _, h => by cases h
  | .and _, _, h => by cases h
  | .or _, _, h => by cases h
  | .not _, _, h => by cases h
  | .ite _ _ _, _, h => by cases h
  | .tup _, _, h => by cases h
  | .lst _, _, h => by cases h
  | .dnew, _, h => by cases h
  | .call _ _, _, h => by cases h
  | .ix _ _, _, h => by cases h
  | .sl _ _ _, _, h => by cases h
  | .nop, _, h => by cases h
  | .lc _ _ _ _ _, _, h => by cases h
  | .rep _ _, _, h => by cases h
  | .qrep _ _ _ _, _, h => by cases h
  | .srep _ _ _ _ _, _, h => by cases h
  | .pick _ _, _, h => by cases h
  | .rng _, _, h => by cases h
  | .zip _ _, _, h => by cases h
  | .enum _, _, h => by cases h
  | .rev _, _, h => by cases h
  | .mth .join _ _, _, h => by cases h
  | .mth .find _ _, _, h => by cases h
  | .mth .replace _ _, _, h => by cases h
  | .mth .index _ _, _, h => by cases h
  | .mth .split _ _, _, h => by cases h
  | .mth .part _ _, _, h => by cases h
  | .mth .startsw _ _, _, h => by cases h
  | .mth .lcount _ _, _, h => by cases h
  | .mth .count _ [], _, h => by cases h
  | .mth .count _ (_ :: _ :: _), _, h => by cases h
  | .blt .len [], _, h => by cases h
  | .blt .len (_ :: _ :: _), _, h => by cases h
  | .blt (.isi _) _, _, h => by cases h
  | .blt .intOf _, _, h => by cases h
  | .blt .strOf _, _, h => by cases h
  | .blt .listOf _, _, h => by cases h
  | .blt .tupleOf _, _, h => by cases h
  | .blt .absOf _, _, h => by cases h
  | .blt .max2 _, _, h => by cases h
  | .blt .min2 _, _, h => by cases h
  | .blt .sumOf _, _, h => by cases h
  | .blt .allOf _, _, h => by cases h
theorem mTC_plain {e : E} {x : Expr} {L' : Nm} (h : mTC L' N sc e x = true) (hc : ∀ c a b, e ≠ .cmp c a b) : mE L' N sc e x = true := by
  cases e <;> first | exact h | exact absurd rfl (hc _ _ _)
theorem sTC (g : Good L n N sc X) {e : E} {x : Expr} (h : mTC L.nm N sc e x = true) : PTT X x (tK X.K (evl L n .test e)) := by
  by_cases hc : ∃ c a b, e = .cmp c a b
  · obtain ⟨c, a, b, rfl⟩ := hc
    have h : (mE L.nm N sc (.cmp c a b) x || cmpTB L.nm N sc c a b x) = true := h
    rw [Bool.or_eq_true] at h
    rcases h with h | h
    · exact ptt_of (sE _ g h).t
    · obtain ⟨l, ps, rs, q, rfl⟩ : ∃ l ps rs q, x = .Compare l ps rs q := by
        cases x <;> first | exact ⟨_, _, _, _, rfl⟩ | cases h
      cases ps with
      | nil => cases h
      | cons p ps =>
      cases ps with
      | cons _ _ => cases h
      | nil =>
      cases rs with
      | nil => cases h
      | cons r rs =>
      cases rs with
      | cons _ _ => cases h
      | nil =>
        obtain ⟨h, h3⟩ := and2 h
        obtain ⟨h1, h2⟩ := and2 h
        have P := (sTV g h2).2
        have B := (sE b g h3).b
        have O := dcp (X := X) (c := c) (p := p) h1 g.un
        intro pins s σ H Q k0 I ⟨H0, M, δ, d, oo, e, qq⟩
        obtain ⟨u, ea, eb⟩ := R.bind_inv e
        obtain ⟨w, ec, ed⟩ := R.bind_inv eb
        obtain ⟨k, ee, ef⟩ := R.bind_inv ed
        cases ef
        refine wpAny_isTrue_Compare1 (thn (P pins s σ H (fun v H1 => ∃ M1, Xt M H M1 H1 ∧ RepB X.K M1 H1 u v) k0 I ⟨H0, M, δ, u, oo, ea, fun M1 H1 v x1 r1 => ⟨M1, x1, r1⟩⟩) fun v1 s1 hv => ?_) (marks (c := c) h3)
        obtain ⟨y1, H1, I1, rx, M1, x1, r1⟩ := hv
        refine thn (B.run pins s1 σ H1 (fun v H2 => ∃ M2, Xt M1 H1 M2 H2 ∧ RepB X.K M2 H2 w v) I1 ⟨H0, M1, δ, w, oo.up x1, ec, fun M2 H2 v x2 r2 => ⟨M2, x2, r2⟩⟩) fun v2 s2 hw => ?_
        obtain ⟨y2, H2, I2, ry, M2, x2, r2⟩ := hw
        refine thn (O pins s2 σ H2 y1 y2 v1 v2 (fun z H3 => z = .bl d ∧ Q d H3) I2 rx ry ⟨M2, u, w, d, x2.mh, r1.up x2, r2, ee, rfl, qq M2 H2 (x1.trans x2)⟩) fun v3 s3 hz => ?_
        obtain ⟨y3, H3, I3, rz, rfl, q3⟩ := hz
        cases rz
        exact wpAny_truthy_bool ⟨H3, I3, q3⟩
  · exact ptt_of (sE e g (mTC_plain h fun c a b z => hc ⟨c, a, b, z⟩)).t
theorem sTCs (g : Good L n N sc X) {pos : Pos} : ∀ {as : List E} {xs : List Expr}, mTCs L.nm N sc as xs = true → PWT X (.BoolOp .Or xs pos) (tK X.K (evOl L n .test as))
  | [], _, _ => fun _ _ _ _ _ _ _ _ ⟨_, _, _, _, _, e, _⟩ => by cases e
  | [a], xs, h => by
    cases xs with
    | nil => cases h
    | cons y ys =>
    cases ys with
    | cons _ _ =>
      obtain ⟨_, h2⟩ := and2 h
      cases h2
    | nil =>
      obtain ⟨h1, _⟩ := and2 (show (mTC L.nm N sc a y && mTCs L.nm N sc [] []) = true from h)
      have A := sTC g h1
      intro w pins s σ H Q k0 I ⟨H0, M, δ, d, oo, e, qq⟩
      obtain ⟨b, e1, e2⟩ := bl_inv e
      cases e2
      refine isTrue_or (thn (A pins s σ H Q k0 I ⟨H0, M, δ, _, oo, e1, qq⟩) fun c s1 hc => ?_)
      cases c with
      | false => exact isTrue_or_nil hc
      | true => exact hc
  | a :: b :: as, xs, h => by
    cases xs with
    | nil => cases h
    | cons y ys =>
      obtain ⟨h1, h2⟩ := and2 (show (mTC L.nm N sc a y && mTCs L.nm N sc (b :: as) ys) = true from h)
      have A := sTC g h1
      have R' := sTCs (pos := pos) g h2
      intro w pins s σ H Q k0 I ⟨H0, M, δ, d, oo, e, qq⟩
      have e : ((evl L n .test a δ).bind fun x => match x with | .bl true => R.ok (D.bl true) | .bl false => evOl L n .test (b :: as) δ | _ => .stuck) = .ok (.bl d) := e
      obtain ⟨x, e1, e2⟩ := R.bind_inv e
      cases x <;> first | (cases e2; done) | skip
      rename_i c
      refine isTrue_or (thnK k0 (A pins s σ H (fun k H1 => k = c ∧ ∃ M1, Xt M H M1 H1) k0 I ⟨H0, M, δ, c, oo, e1, fun M1 H1 x1 => ⟨rfl, M1, x1⟩⟩) fun k s1 k1 hc => ?_)
      obtain ⟨H1, I1, rfl, M1, x1⟩ := hc
      cases k with
      | true => cases e2; exact ⟨H1, I1, qq M1 H1 x1⟩
      | false => exact R' w pins s1 σ H1 Q k1 I1 ⟨H0, M1, δ, d, oo.up x1, e2, fun M2 H2 x2 => qq M2 H2 (x1.trans x2)⟩
theorem sTT (g : Good L n N sc X) {e : E} {x : Expr} (h : mTT L.nm N sc e x = true) : PTT X x (tK X.K (evl L n .test e)) := by
  by_cases hc : ∃ as, e = .or as
  · obtain ⟨as, rfl⟩ := hc
    cases x <;> first | (cases h; done) | skip
    rename_i o y p
    cases o <;> first | (cases h; done) | skip
    exact fun pins s σ H Q k0 I q => sTCs g (show mTCs L.nm N sc as y = true from h) _ pins s σ H Q k0 I q
  · have h : mTC L.nm N sc e x = true := by cases e <;> first | exact h | exact absurd ⟨_, rfl⟩ hc
    exact sTC g h
/-! statements -/
theorem pst_ifT {c : Expr} {a b : List Stmt} {pos : Pos} {tc : TT} {t u : TS} (hc : PTT X c tc) (ha : PSs X a t) (hb : PSs X b u) : L2.PST X (.If c a b pos) (tIfS tc t u) := by
  intro pins s σ H D k0 I q
  refine wpAny_If (thn (hc pins s σ H _ k0 I q) fun d s1 hd => ?_)
  obtain ⟨H1, I1, q1⟩ := hd
  cases d with
  | true => exact ha.run pins s1 σ H1 D I1 q1
  | false => exact hb.run pins s1 σ H1 D I1 q1
/-- name = a[k:..]: behind it a token is out -/
theorem tks_rd (g : GoodS L n N sc X wx) {i : Nat} {a : E} {lo : Int} {hi : E} {rest : List S} {y : Stmt} {ys : List Stmt} (h : tkB L.nm N sc i a lo hi y = true) (P : L2.PSsT X ys (tS X.K wx (exsl L n rest))) :
    PSs X (y :: ys) (tS X.K wx (exsl L n [.tks i a lo hi rest])) := by
  obtain ⟨nm, py, v, k0, p0, u, p1, p2, pos, rfl⟩ : ∃ nm py v k0 p0 u p1 p2 pos, y = .Assign [.Name nm py] (.Subscript v (.Slice (some (.Constant (.int lo) k0 p0)) u none p1) p2) pos := by
    cases y <;> first | (cases h; done) | skip
    rename_i ts v pos
    cases ts with
    | nil => cases h
    | cons t ts =>
    cases t <;> first | (cases h; done) | skip
    cases ts with
    | cons _ _ => cases h
    | nil =>
    cases v <;> first | (cases h; done) | skip
    rename_i v sl p2
    cases sl <;> first | (cases h; done) | skip
    rename_i l u st p1
    cases l with
    | none => cases h
    | some l =>
    cases l <;> first | (cases h; done) | skip
    rename_i c k0 p0
    cases c <;> first | (cases h; done) | skip
    cases st with
    | some _ => cases h
    | none =>
      obtain ⟨h, h5⟩ := and2 h
      obtain ⟨h, h4⟩ := and2 h
      obtain ⟨h, h3⟩ := and2 h
      have e3 := of_decide_eq_true h3
      subst e3
      exact ⟨_, _, _, _, _, _, _, _, _, rfl⟩
  obtain ⟨h, h5⟩ := and2 h
  obtain ⟨h, h4⟩ := and2 h
  obtain ⟨h, h3⟩ := and2 h
  obtain ⟨h1, h2⟩ := and2 h
  have h1 := of_decide_eq_true h1
  have A := (sE a g.toGood h4).b
  have U : PO X u (tP X.K (evPl L n hi)) := by
    cases u with
    | none => rw [nop_inv h5]; exact po_nop
    | some w => exact po_e (sE hi g.toGood h5) (mE_nn h5)
  refine ⟨fun pins s σ H D I ⟨M0, H0, M, δ, f, x0, o, e, qq⟩ => ?_⟩
  have e : ((((evl L n .val (.sl a (.int lo) hi) δ).bind fun d => exsl L n rest (δ.set i (.dat d))).bind fun f => match f with
    | .nx δ' => R.ok (F.nx δ') | .rt d k => .ok (.rt d k) | .bk δ' => .ok (.bk δ') | .ct δ' => .ok (.ct δ') | .ex c δ' => .ok (.ex c δ')) : R F) = .ok f := e
  have e : ((evl L n .val (.sl a (.int lo) hi) δ).bind fun d => exsl L n rest (δ.set i (.dat d))) = .ok f := by
    obtain ⟨f1, e1, e2⟩ := R.bind_inv e
    cases f1 <;> (cases e2; exact e1)
  obtain ⟨d, ed, er⟩ := R.bind_inv e
  have ed : ((evl L n .bor a δ).bind fun x => (evPl L n hi δ).bind fun h => slD x (some lo) h) = .ok d := by
    have z : evl L n .val (.sl a (.int lo) hi) δ = ((evl L n .bor a δ).bind fun x => (evPl L n hi δ).bind fun h => (slD x (some lo) h).bind (post .val)) := by cases hi <;> rfl
    rw [z] at ed
    obtain ⟨x, e1, e2⟩ := R.bind_inv ed
    obtain ⟨w, e3, e4⟩ := R.bind_inv e2
    rw [bind_val] at e4
    rw [e1, R.bind_ok, e3]
    exact e4
  obtain ⟨x, e1, e2⟩ := R.bind_inv ed
  obtain ⟨w, e3, e4⟩ := R.bind_inv e2
  refine wpAny_execs_cons (thn (Q := fun fl s' => 1 ≤ s'.toks ∧ SP X pins { D with nx := fun σ' H' => tS X.K wx (exsl L n rest) D σ' H' } fl s') ?_ fun fl s1 hs => ?_)
  · refine wpAny_Assign_Name (thn (Q := fun v s' => 1 ≤ s'.toks ∧ EP X pins σ (fun v H1 => ∃ M1, Xt M H M1 H1 ∧ Rep X.K M1 d v) v s') ?_ fun va s1 hv => ?_) (by rfl)
    · refine Subscript_ (thn (A.run pins s σ H (fun v H1 => ∃ M1, Xt M H M1 H1 ∧ RepB X.K M1 H1 x v) I ⟨H0, M, δ, x, o, e1, fun M1 H1 v x1 r1 => ⟨M1, x1, r1⟩⟩) fun v1 s1 hv => ?_)
      obtain ⟨y1, H1, I1, rx, M1, x1, r1⟩ := hv
      refine wpAny_Slice ?_
      rw [evalPart_some]
      refine wpAny_Constant_int ?_
      refine wpAny_mono (PySem.wpAny_toks_of (n := 1) (show 1 ≤ s1.toks + 1 by omega) (thn (U.run pins { s1 with toks := s1.toks + 1 } σ H1 (fun w' H2 => w' = w ∧ ∃ M2, Xt M1 H1 M2 H2) (I1.tok _) ⟨H0, M1, δ, w, o.up x1, e3, fun M2 H2 x2 => ⟨rfl, M2, x2⟩⟩) fun _ _ z => z)) (fun vu s2 hu => ?_) fun _ _ z => z.2
      obtain ⟨k2, w', H2, I2, pu, rfl, M2, x2⟩ := hu
      rw [evalPart_none]
      refine wpAny_pure ?_
      have I3 : Inv X pins σ H2 { s2 with heap := s2.heap.push { cls := .type "slice", data := .fields #[.int lo s1.toks, vu, .none] } } := I2.kept (t' := s2.toks) fun b ob z => Heap.get?_push_of_some _ z
      obtain ⟨T, id, hT, hty, hg⟩ := dsl pins _ σ H2 y1 v1 (.int lo s1.toks) vu (some lo) w' s2.heap.objs.size (fun v H1 => ∃ M1, Xt M H M1 H1 ∧ Rep X.K M1 d v) I3 rx (Heap.IsSliceOf.new ..) (.int lo _) pu ⟨M2, x, d, x2.mh, r1.up x2, e4, fun M3 H3 z x3 r3 => ⟨M3, (x1.trans x2).trans x3, r3⟩⟩
      refine wpAny_mono (PySem.wpAny_toks_of (n := 1) k2 ?_) (fun _ _ z => z) fun _ _ z => z.2
      exact tail_any (ops := [.ref s2.heap.objs.size, v1]) hty hT hg (by with_unfolding_all rfl)
    · obtain ⟨ht, y1, H1, I1, rx, M1, x1, r1⟩ := hv
      refine wpAny_mono (PySem.wpAny_toks_of (n := 1) ht (store_ok (Q := fun _ s' => Inv X pins (σ.set i (some y1)) H1 s') (E := X.xe) I1 (by rw [g.hN]; exact g.nd) (by rw [g.hN]; exact h1) (by rw [g.hsc]; exact locB_ok h2) rx (fun s2 I2 => I2) (g.fx _))) (fun _ s2 z => ?_) fun _ _ z => z.2
      exact ⟨z.1, _, H1, z.2, M0, H0, M1, _, f, x0.trans x1, (o.up x1).set r1, er, qq⟩
  · obtain ⟨ht, q⟩ := hs
    cases fl with
    | next =>
      obtain ⟨σ', H', I', q⟩ := q
      exact P pins s1 σ' H' D ht I' q
    | ret v => exact q
    | brk => exact q
    | cont => exact q
end
end Fw

/-! every statement -/
namespace Fw
open PySem PySem.Spec PyProof.Rows L2
open Evl (Ex ex_rd ex_l ex_t)
theorem two_inv {t a b : Expr} (h : two t = some (a, b)) : ∃ tk tp, t = .Tuple [a, b] tk tp := by
  unfold two at h
  split at h
  · cases h; exact ⟨_, _, rfl⟩
  · cases h
theorem three_inv {t a b c : Expr} (h : three t = some (a, b, c)) : ∃ tk tp, t = .Tuple [a, b, c] tk tp := by
  unfold three at h
  split at h
  · cases h; exact ⟨_, _, rfl⟩
  · cases h
theorem pop0_inv {y : Str} {x : Expr} (h : pop0B y x = true) : ∃ p6 p7 q7, x = .Call (.Attribute (.Name y p6) "pop" p7) [] [] q7 ∧ (p7.endLine == q7.line) = true := by
  unfold pop0B at h
  split at h
  · obtain ⟨h, h3⟩ := and2 h
    obtain ⟨h1, h2⟩ := and2 h
    have e1 := of_decide_eq_true h1
    have e2 := of_decide_eq_true h2
    subst e1; subst e2
    exact ⟨_, _, _, rfl, h3⟩
  · cases h
theorem popA_inv {y : Str} {x b : Expr} (h : popA y x = some b) : ∃ p6 p7 q7, x = .Call (.Attribute (.Name y p6) "pop" p7) [b] [] q7 ∧ (p7.endLine == q7.line) = true := by
  unfold popA at h
  split at h
  · split at h
    · rename_i h0
      obtain ⟨h1, h3⟩ := and2 h0
      obtain ⟨h1, h2⟩ := and2 h1
      have e1 := of_decide_eq_true h1
      have e2 := of_decide_eq_true h2
      subst e1; subst e2
      cases h
      exact ⟨_, _, _, rfl, h3⟩
    · cases h
  · cases h
theorem app1_inv {P : Str → Expr → Bool} {N : List Str} {sc : Scope} {i : Nat} {x : Stmt} (h : (match x with | .Expr (.Call (.Attribute (.Name y _) nm p) [t] [] q) _ => decide (N[i]? = some y) && visB sc y && decide (nm = "append") && (p.endLine == q.line) && P y t | _ => false) = true) :
    ∃ y p1 p t q pos, x = .Expr (.Call (.Attribute (.Name y p1) "append" p) [t] [] q) pos ∧ N[i]? = some y ∧ visB sc y = true ∧ (p.endLine == q.line) = true ∧ P y t = true := by
  split at h
  · obtain ⟨h, h5⟩ := and2 h
    obtain ⟨h, h4⟩ := and2 h
    obtain ⟨h, h3⟩ := and2 h
    obtain ⟨h1, h2⟩ := and2 h
    have e := of_decide_eq_true h3
    subst e
    exact ⟨_, _, _, _, _, _, rfl, of_decide_eq_true h1, h2, h4, h5⟩
  · cases h
theorem pop1_inv {L : Nm} {N : List Str} {sc : Scope} {i : Nat} {e : E} {x : Stmt} (h : mS L N sc (.pop1 i e) x = true) : ∃ y p1 p v p6 p7 q7 tk tp q pos, x = .Expr (.Call (.Attribute (.Name y p1) "append" p) [.Tuple [v, .Call (.Attribute (.Name y p6) "pop" p7) [] [] q7] tk tp] [] q) pos ∧
    N[i]? = some y ∧ visB sc y = true ∧ (p.endLine == q.line) = true ∧ (p7.endLine == q7.line) = true ∧ mE L N sc e v = true := by
  obtain ⟨y, p1, p, t, q, pos, rfl, h1, h2, h3, h4⟩ := app1_inv (P := fun y t => match two t with | some (a, b) => pop0B y b && mE L N sc e a | none => false) h
  cases ht : two t with
  | none => rw [ht] at h4; cases h4
  | some ab =>
    obtain ⟨a, b⟩ := ab
    rw [ht] at h4
    obtain ⟨h5, h6⟩ := and2 h4
    obtain ⟨tk, tp, rfl⟩ := two_inv ht
    obtain ⟨p6, p7, q7, rfl, h7⟩ := pop0_inv h5
    exact ⟨_, _, _, _, _, _, _, _, _, _, _, rfl, h1, h2, h3, h7, h6⟩
theorem pop2_inv {L : Nm} {N : List Str} {sc : Scope} {i : Nat} {e : E} {x : Stmt} (h : mS L N sc (.pop2 i e) x = true) : ∃ y p1 p v p4 p5 b q5 p6 p7 q7 tk tp q pos, x = .Expr (.Call (.Attribute (.Name y p1) "append" p) [.Tuple [v, .Call (.Attribute (.Name y p4) "pop" p5) [b] [] q5, .Call (.Attribute (.Name y p6) "pop" p7) [] [] q7] tk tp] [] q) pos ∧
    N[i]? = some y ∧ visB sc y = true ∧ (p.endLine == q.line) = true ∧ (p5.endLine == q5.line) = true ∧ (p7.endLine == q7.line) = true ∧ mE L N sc (.op .sub (.blt .len [.var i]) (.int 2)) b = true ∧ mE L N sc e v = true := by
  obtain ⟨y, p1, p, t, q, pos, rfl, h1, h2, h3, h4⟩ := app1_inv (P := fun y t => match three t with | some (a, b, c) => pop0B y c && (match popA y b with | some b => mE L N sc (.op .sub (.blt .len [.var i]) (.int 2)) b && mE L N sc e a | none => false) | none => false) h
  cases ht : three t with
  | none => rw [ht] at h4; cases h4
  | some ab =>
    obtain ⟨a, b, c⟩ := ab
    rw [ht] at h4
    obtain ⟨h5, h6⟩ := and2 h4
    obtain ⟨tk, tp, rfl⟩ := three_inv ht
    obtain ⟨p6, p7, q7, rfl, h7⟩ := pop0_inv h5
    cases hb : popA y b with
    | none => rw [hb] at h6; cases h6
    | some b' =>
      rw [hb] at h6
      obtain ⟨h8, h9⟩ := and2 h6
      obtain ⟨p4, p5, q5, rfl, h10⟩ := popA_inv hb
      exact ⟨_, _, _, _, _, _, _, _, _, _, _, _, _, _, _, rfl, h1, h2, h3, h10, h7, h8, h9⟩
section
variable {L : Lw} {n : Nat} {N : List Str} {sc : Scope} {X : Cx} {wx : WF}
theorem seq_ok {K : PySem.W.Frag} {c1 c2 : En → R F} : ∀ D σ H, tS K wx (fun δ => (c1 δ).bind fun f => match f with | .nx δ' => c2 δ' | .rt d k => .ok (.rt d k) | .bk δ' => .ok (.bk δ') | .ct δ' => .ok (.ct δ') | .ex c δ' => .ok (.ex c δ')) D σ H → tSeq (tS K wx c1) (tS K wx c2) D σ H := by
  intro D σ H ⟨M0, H0, M, δ, f, x, o, e, q⟩
  obtain ⟨f1, e1, e2⟩ := R.bind_inv e
  refine ⟨M0, H0, M, δ, f1, x, o, e1, ?_⟩
  cases f1 with
  | nx δ1 => exact fun M1 H1 σ1 x1 o1 => ⟨M0, H0, M1, δ1, f, x1, o1, e2, q⟩
  | rt d k => cases e2; exact q
  | bk δ1 => cases e2; exact q
  | ct δ1 => cases e2; exact q
  | ex c δ1 => cases e2; exact q
theorem set_rd {K : PySem.W.Frag} {i : Nat} {co : En → R D} : ∀ D σ H, tS K wx (fun δ => (co δ).bind fun d => .ok (.nx (δ.set i (.dat d)))) D σ H → tAsg (tC K co) (gName i) D σ H := by
  intro D σ H ⟨M0, H0, M, δ, f, x, o, e, q⟩
  obtain ⟨d, e1, e2⟩ := R.bind_inv e
  cases e2
  exact ⟨H0, M, δ, d, o, e1, fun M' H' v x1 r => q M' H' _ (x.trans' ⟨x1.m, x.h.trans x1.h, x1.mh, fun a h1 h2 => x1.fr a h1 (Ex.some x.h h2)⟩) ((o.up x1).set r)⟩
theorem Xt.on {M0 H0 M H M' H' : Hp} (x : Xt M0 H0 M H) (x1 : Xt M H M' H') : Xt M0 H0 M' H' := x.trans x1
theorem own_rd {K : PySem.W.Frag} {i : Nat} {co : En → R (List D)} : ∀ D σ H, tS K wx (fun δ => (co δ).bind fun xs => .ok (.nx (δ.set i (.own xs)))) D σ H → tAsg (tL K co) (gName i) D σ H := by
  intro D σ H ⟨M0, H0, M, δ, f, x, o, e, q⟩
  obtain ⟨xs, e1, e2⟩ := R.bind_inv e
  cases e2
  refine ⟨H0, M, δ, xs, o, e1, fun M' H' p vs x1 n0 n1 h r => q M' H' _ (x.on x1) ((o.up x1).setO n1 h r (Ex.none_of x.h n0) fun j ys _ hj hs => ?_)⟩
  exact o.fresh n0 j ys hj hs
theorem for_rd {K : PySem.W.Frag} {ts : List Nat} {cs : En → R (List D)} {body : En → R F} : ∀ D σ H, tS K wx (fun δ => (cs δ).bind fun xs => forL (fun x δ => layN ts x δ) body xs δ) D σ H → tFor (tIx K false cs) (gN K ts) (tS K wx body) D σ H := by
  intro D σ H ⟨M0, H0, M, δ, f, x, o, e, q⟩
  obtain ⟨xs, e1, e2⟩ := R.bind_inv e
  refine ⟨H0, M, δ, xs, o, e1, fun M1 H1 J x1 dw => ?_⟩
  obtain ⟨G, Y, w, hG, hY⟩ := dw
  have q := q.up (x.on x1)
  have xs0 : Xt M1 H0 M1 H1 := (x.on x1).self
  refine for_it w (fun i σ2 H2 => ∃ M2 δ2, Xt M1 H0 M2 H2 ∧ OKs K H0 M2 H2 σ2 δ2 ∧ forL (fun x δ => layN ts x δ) body (xs.drop i) δ2 = .ok f) ⟨M1, δ, xs0, o.up x1, e2⟩ (fun i σ2 H2 _ ⟨M2, δ2, x2, o2, e2⟩ => hG M2 H2 ⟨x2.m, fun z => nomatch z⟩ x2.mh) (fun i v σ2 H2 H3 hlt ⟨M2, δ2, x2, o2, e2⟩ y => ?_) (fun σ2 H2 ⟨M2, δ2, x2, o2, e2⟩ => ?_)
  · obtain ⟨M3, d, x3, hd, r3⟩ := hY i v M2 H2 H3 hlt ⟨x2.m, fun z => nomatch z⟩ x2.mh y
    have hdr : xs.drop i = d :: xs.drop (i + 1) := by
      rw [List.drop_eq_getElem_cons hlt]
      congr 1
      rw [List.getElem?_eq_getElem hlt] at hd
      exact Option.some.inj hd
    rw [hdr] at e2
    obtain ⟨δ3, e3, e4⟩ := R.bind_inv e2
    obtain ⟨f1, e5, e6⟩ := R.bind_inv e4
    refine lay_ok e3 (o2.up x3) r3 fun σ3 o3 _ => ⟨M1, H0, M3, δ3, f1, x2.on x3, o3, e5, ?_⟩
    cases f1 with
    | nx δ4 => exact fun M4 H4 σ4 x4 o4 => ⟨M4, δ4, x4, o4, e6⟩
    | ct δ4 => exact fun M4 H4 σ4 x4 o4 => ⟨M4, δ4, x4, o4, e6⟩
    | bk δ4 => cases e6; exact fun M4 H4 σ4 x4 o4 => q M4 H4 σ4 x4 o4
    | rt d k => cases e6; exact q
    | ex c δ4 => cases e6; exact q
  · have hn : xs.drop xs.length = [] := List.drop_length
    rw [hn] at e2
    cases e2
    exact q M2 H2 σ2 x2 o2
theorem while_rd {K : PySem.W.Frag} {cc : En → R D} {body : En → R F} : ∀ D σ H, tS K wx (fun δ => whL cc body WMAX δ) D σ H → tWhile (tK K cc) (tS K wx body) D σ H := by
  intro D σ H ⟨M0, H0, M, δ, f, x, o, e, q⟩
  refine ⟨fun m σ2 H2 => ∃ M2 δ2, Xt M0 H0 M2 H2 ∧ OKs K H0 M2 H2 σ2 δ2 ∧ whL cc body m δ2 = .ok f, ⟨WMAX, M, δ, x, o, e⟩, fun m σ2 H2 ⟨M2, δ2, x2, o2, e2⟩ => ?_⟩
  cases m with
  | zero => cases e2
  | succ m =>
    obtain ⟨b, e3, e4⟩ := R.bind_inv e2
    cases b <;> first | (cases e4; done) | skip
    rename_i b
    refine ⟨H0, M2, δ2, b, o2, e3, fun M3 H3 x3 => ?_⟩
    cases b with
    | false => cases e4; exact iteF (q M3 H3 σ2 (x2.on x3) (o2.up x3))
    | true =>
      obtain ⟨f1, e5, e6⟩ := R.bind_inv e4
      refine iteT ⟨fun σ4 H4 => ∃ M4 δ4, Xt M0 H0 M4 H4 ∧ OKs K H0 M4 H4 σ4 δ4 ∧ whL cc body m δ4 = .ok f, fun σ4 H4 h => ⟨m, Nat.lt_succ_self m, h⟩, M0, H0, M3, δ2, f1, x2.on x3, o2.up x3, e5, ?_⟩
      cases f1 with
      | nx δ4 => exact fun M4 H4 σ4 x4 o4 => ⟨M4, δ4, x4, o4, e6⟩
      | ct δ4 => exact fun M4 H4 σ4 x4 o4 => ⟨M4, δ4, x4, o4, e6⟩
      | bk δ4 => cases e6; exact fun M4 H4 σ4 x4 o4 => q M4 H4 σ4 x4 o4
      | rt d k => cases e6; exact q
      | ex c δ4 => cases e6; exact q
theorem retO_rd (g : GoodS L n N sc X wx) {i : Nat} {y : Str} {p pos : Pos} (h1 : N[i]? = some y) (h2 : visB sc y = true) : PS X (.Return (some (.Name y p)) pos) (tS X.K wx (exl L n (.retO i))) := by
  obtain ⟨v1, v2, v3⟩ := visB_ok h2
  refine (ps_ret (pe_var (X := X) (i := i) (x := y) (pos := p) (by rw [g.hN]; exact h1) (by rw [g.hsc]; exact v1) v2 v3)).imp fun D σ H ⟨M0, H0, M, δ, f, x, o, e, q⟩ => ?_
  have e : (match δ[i]? with | some (.own xs) => R.ok (F.rt (.lst xs) true) | _ => .stuck) = .ok f := e
  cases c : δ[i]? with
  | none => rw [c] at e; cases e
  | some s =>
    rw [c] at e
    cases s <;> first | (cases e; done) | skip
    rename_i xs
    cases e
    obtain ⟨a, vs, k1, k2, k3, k4⟩ := o.getO c
    exact ⟨_, k1, q M H _ x ⟨a, vs, xs, rfl, rfl, o.new i xs a c k1, k2, k3, k4⟩⟩
theorem app_rd (g : GoodS L n N sc X wx) {i : Nat} {y : Str} {p1 p q pos : Pos} {e : E} {v : Expr} (h1 : N[i]? = some y) (h2 : visB sc y = true) (h3 : (p.endLine == q.line) = true) (h4 : mE L.nm N sc e v = true) :
    PS X (.Expr (.Call (.Attribute (.Name y p1) "append" p) [v] [] q) pos) (tS X.K wx (exl L n (.app i e))) := by
  obtain ⟨v1, v2, v3⟩ := visB_ok h2
  have A := pa_cons (sE e g.toGood h4).v pa_nil (star_ns (mE_ns h4) _ _)
  refine (ps_expr (pe_bm PySem.F.plainAttrs_list PySem.F.slot_list_append PySem.F.type_list_append mt_append (pe_var (X := X) (i := i) (x := y) (pos := p1) (by rw [g.hN]; exact h1) (by rw [g.hsc]; exact v1) v2 v3) A rfl
    (by rw [star_ns (mE_ns h4)]; rfl) h3 (star_ns (mE_ns h4) _ _) rfl) (sw_none rfl _ _ _)).imp fun D σ H ⟨M0, H0, M, δ, f, x, o, e1, qq⟩ => ?_
  have e1 : ((evl L n .val e δ).bind fun d => match δ[i]? with | some (.own xs) => req (xs.length < LIM) (R.ok (F.nx (δ.set i (.own (xs ++ [d]))))) | _ => .stuck) = .ok f := e1
  obtain ⟨d, e2, e3⟩ := R.bind_inv e1
  cases c : δ[i]? with
  | none => rw [c] at e3; cases e3
  | some s =>
    rw [c] at e3
    cases s <;> first | (cases e3; done) | skip
    rename_i xs
    obtain ⟨hl, e4⟩ := req_inv e3
    cases e4
    obtain ⟨a, vs, k1, k2, k3, k4⟩ := o.getO c
    refine ⟨_, k1, .inl ⟨rfl, vs, .inl (.inl k3)⟩, H0, M, δ, d, o, e2, fun M' H' w x1 r1 => ⟨a, vs, w, rfl, rfl, x1.h _ _ k3, ?_, ?_⟩⟩
    · rw [← k4.length, ← lim_eq]; exact hl
    · have o1 := o.up x1
      have x2 := x.on x1
      have m' : M' a = none := x1.fr a k2 (by rw [k3]; exact fun z => nomatch z)
      have h0 : H0 a = none := o.new i xs a c k1
      refine qq M' _ σ ⟨x2.m, fun b u hb => ?_, fun b u hb => ?_, x2.fr⟩ (o1.app c k1 (x1.h _ _ k3) ((k4.up x1.m).snoc r1))
      · rw [upd_ne (fun z => by subst z; rw [h0] at hb; cases hb)]; exact x2.h b u hb
      · rw [upd_ne (fun z => by subst z; rw [m'] at hb; cases hb)]; exact x2.mh b u hb
theorem ext_rd (g : GoodS L n N sc X wx) {i : Nat} {y : Str} {p1 p q pos : Pos} {e : E} {v : Expr} (h1 : N[i]? = some y) (h2 : visB sc y = true) (h3 : (p.endLine == q.line) = true) (hf : isF e = true) (h4 : mE L.nm N sc e v = true) :
    PS X (.Expr (.Call (.Attribute (.Name y p1) "extend" p) [v] [] q) pos) (tS X.K wx (exl L n (.ext i e))) := by
  obtain ⟨v1, v2, v3⟩ := visB_ok h2
  have A := pa_cons (sF g.toGood h4 hf) pa_nil (star_ns (mE_ns h4) _ _)
  refine (ps_expr (pe_bm PySem.F.plainAttrs_list PySem.F.slot_list_extend PySem.F.type_list_extend mt_extend (pe_var (X := X) (i := i) (x := y) (pos := p1) (by rw [g.hN]; exact h1) (by rw [g.hsc]; exact v1) v2 v3) A rfl
    (by rw [star_ns (mE_ns h4)]; rfl) h3 (star_ns (mE_ns h4) _ _) rfl) (sw_none rfl _ _ _)).imp fun D σ H ⟨M0, H0, M, δ, f, x, o, e1, qq⟩ => ?_
  have e1 : ((evFl L n e δ).bind fun ys => match δ[i]? with | some (.own xs) => req (xs.length + ys.length ≤ LIM) (R.ok (F.nx (δ.set i (.own (xs ++ ys))))) | _ => .stuck) = .ok f := e1
  obtain ⟨ys, e2, e3⟩ := R.bind_inv e1
  cases c : δ[i]? with
  | none => rw [c] at e3; cases e3
  | some s =>
    rw [c] at e3
    cases s <;> first | (cases e3; done) | skip
    rename_i xs
    obtain ⟨hl, e4⟩ := req_inv e3
    cases e4
    obtain ⟨a, vs, k1, k2, k3, k4⟩ := o.getO c
    refine ⟨_, k1, .inl ⟨rfl, vs, .inl (.inl k3)⟩, H0, M, δ, ys, o, e2, fun M' H' b us x1 n1 n2 hb r1 => ⟨a, b, vs, us, rfl, rfl, x1.h _ _ k3, hb, ?_, ?_⟩⟩
    · rw [← k4.length, ← r1.length, ← lim_eq]; exact hl
    · have o1 := o.up x1
      have x2 := x.on x1
      have m' : M' a = none := x1.fr a k2 (by rw [k3]; exact fun z => nomatch z)
      have h0 : H0 a = none := o.new i xs a c k1
      refine qq M' _ σ ⟨x2.m, fun b u hb => ?_, fun b u hb => ?_, x2.fr⟩ (o1.app c k1 (x1.h _ _ k3) ((k4.up x1.m).append r1))
      · rw [upd_ne (fun z => by subst z; rw [h0] at hb; cases hb)]; exact x2.h b u hb
      · rw [upd_ne (fun z => by subst z; rw [m'] at hb; cases hb)]; exact x2.mh b u hb
theorem clr_rd (g : GoodS L n N sc X wx) {i : Nat} {y : Str} {p1 p q pos : Pos} (h1 : N[i]? = some y) (h2 : visB sc y = true) (h3 : (p.endLine == q.line) = true) :
    PS X (.Expr (.Call (.Attribute (.Name y p1) "clear" p) [] [] q) pos) (tS X.K wx (exl L n (.clr i))) := by
  obtain ⟨v1, v2, v3⟩ := visB_ok h2
  refine (ps_expr (pe_bm0 PySem.F.plainAttrs_list PySem.F.slot_list_clear PySem.F.type_list_clear mt_clear (pe_var (X := X) (i := i) (x := y) (pos := p1) (by rw [g.hN]; exact h1) (by rw [g.hsc]; exact v1) v2 v3) rfl h3) (sw_none rfl _ _ _)).imp fun D σ H ⟨M0, H0, M, δ, f, x, o, e1, qq⟩ => ?_
  have e3 : (match δ[i]? with | some (.own _) => R.ok (F.nx (δ.set i (.own []))) | _ => .stuck) = .ok f := e1
  cases c : δ[i]? with
  | none => rw [c] at e3; cases e3
  | some s =>
    rw [c] at e3
    cases s <;> first | (cases e3; done) | skip
    rename_i xs
    cases e3
    obtain ⟨a, vs, k1, k2, k3, k4⟩ := o.getO c
    refine ⟨_, k1, .inl ⟨rfl, vs, .inl (.inl k3)⟩, a, vs, rfl, rfl, k3, ?_⟩
    have h0 : H0 a = none := o.new i xs a c k1
    refine qq M _ σ ⟨x.m, fun b u hb => ?_, fun b u hb => ?_, x.fr⟩ (o.app c k1 k3 .nil)
    · rw [upd_ne (fun z => by subst z; rw [h0] at hb; cases hb)]; exact x.h b u hb
    · rw [upd_ne (fun z => by subst z; rw [k2] at hb; cases hb)]; exact x.mh b u hb
theorem clr_inv {L : Nm} {N : List Str} {sc : Scope} {i : Nat} {x : Stmt} (h : mS L N sc (.clr i) x = true) : ∃ y p1 p q pos, x = .Expr (.Call (.Attribute (.Name y p1) "clear" p) [] [] q) pos ∧ N[i]? = some y ∧ visB sc y = true ∧ (p.endLine == q.line) = true := by
  unfold mS at h
  split at h
  · obtain ⟨h, h4⟩ := and2 h
    obtain ⟨h, h3⟩ := and2 h
    obtain ⟨h1, h2⟩ := and2 h
    have e := of_decide_eq_true h3
    subst e
    exact ⟨_, _, _, _, _, rfl, of_decide_eq_true h1, h2, h4⟩
  · cases h
theorem ext_inv {L : Nm} {N : List Str} {sc : Scope} {i : Nat} {e : E} {x : Stmt} (h : mS L N sc (.ext i e) x = true) : ∃ y p1 p v q pos, x = .Expr (.Call (.Attribute (.Name y p1) "extend" p) [v] [] q) pos ∧ N[i]? = some y ∧ visB sc y = true ∧ (p.endLine == q.line) = true ∧ isF e = true ∧ mE L N sc e v = true := by
  unfold mS at h
  split at h
  · obtain ⟨h, h5⟩ := and2 h
    obtain ⟨h, h4⟩ := and2 h
    obtain ⟨h, h3⟩ := and2 h
    obtain ⟨h1, h2⟩ := and2 h
    obtain ⟨h6, h7⟩ := and2 h5
    have e := of_decide_eq_true h3
    subst e
    exact ⟨_, _, _, _, _, _, rfl, of_decide_eq_true h1, h2, h4, h6, h7⟩
  · cases h
theorem Reps.set {K : PySem.W.Frag} {M : Hp} {d : D} {v : V} (h : Rep K M d v) : ∀ {ds : List D} {vs : List V} (j : Nat), Reps K M ds vs → Reps K M (ds.set j d) (vs.set j v)
  | _, _, _, .nil => .nil
  | _, _, 0, .cons _ b => .cons h b
  | _, _, j + 1, .cons a b => .cons a (Reps.set h j b)
theorem seti_inv {L : Nm} {N : List Str} {sc : Scope} {i : Nat} {k e : E} {x : Stmt} (h : mS L N sc (.seti i k e) x = true) : ∃ y p1 j p2 v pos, x = .Assign [.Subscript (.Name y p1) j p2] v pos ∧
    N[i]? = some y ∧ visB sc y = true ∧ notLc v = true ∧ notSl j = true ∧ mE L N sc k j = true ∧ mE L N sc e v = true := by
  cases x <;> first | (cases h; done) | skip
  rename_i ts v pos
  cases ts with
  | nil => cases h
  | cons t ts =>
    cases t <;> first | (cases h; done) | skip
    rename_i o j p2
    cases o <;> first | (cases h; done) | skip
    cases ts with
    | cons _ _ => cases h
    | nil =>
      obtain ⟨h, h6⟩ := and2 h
      obtain ⟨h, h5⟩ := and2 h
      obtain ⟨h, h4⟩ := and2 h
      obtain ⟨h, h3⟩ := and2 h
      obtain ⟨h1, h2⟩ := and2 h
      exact ⟨_, _, _, _, _, _, rfl, of_decide_eq_true h1, h2, h3, h4, h5, h6⟩
theorem orl_inv {L : Nm} {N : List Str} {sc : Scope} {i : Nat} {e : E} {x : Stmt} (h : mS L N sc (.orl i e) x = true) : ∃ y p1 p2 b p3 pos, x = .Assign [.Name y p1] (.BoolOp .Or [.Name y p2, b] p3) pos ∧
    N[i]? = some y ∧ locB sc y = true ∧ visB sc y = true ∧ isF e = true ∧ mE L N sc e b = true := by
  cases x <;> first | (cases h; done) | skip
  rename_i ts v pos
  cases ts with
  | nil => cases h
  | cons t ts =>
    cases t <;> first | (cases h; done) | skip
    cases ts with
    | cons _ _ => cases h
    | nil =>
      cases v <;> first | (cases h; done) | skip
      rename_i op es p3
      cases op <;> first | (cases h; done) | skip
      cases es with
      | nil => cases h
      | cons a es =>
        cases a <;> first | (cases h; done) | skip
        cases es with
        | nil => cases h
        | cons b es =>
          cases es with
          | cons _ _ => cases h
          | nil =>
            obtain ⟨h, h6⟩ := and2 h
            obtain ⟨h, h5⟩ := and2 h
            obtain ⟨h, h4⟩ := and2 h
            obtain ⟨h, h3⟩ := and2 h
            obtain ⟨h1, h2⟩ := and2 h
            have e := of_decide_eq_true h2
            subst e
            exact ⟨_, _, _, _, _, _, rfl, of_decide_eq_true h1, h3, h4, h5, h6⟩
theorem seti_rd (g : GoodS L n N sc X wx) {i : Nat} {y : Str} {p1 p2 pos : Pos} {k e : E} {j v : Expr} (h1 : N[i]? = some y) (h2 : visB sc y = true) (h3 : notLc v = true) (h4 : notSl j = true) (h5 : mE L.nm N sc k j = true) (h6 : mE L.nm N sc e v = true) :
    PS X (.Assign [.Subscript (.Name y p1) j p2] v pos) (tS X.K wx (exl L n (.seti i k e))) := by
  obtain ⟨v1, v2, v3⟩ := visB_ok h2
  refine (ps_asg (pos := pos) (sE e g.toGood h6).v (pg_sub (pos := p2) (pe_var (X := X) (i := i) (x := y) (pos := p1) (by rw [g.hN]; exact h1) (by rw [g.hsc]; exact v1) v2 v3) (sE k g.toGood h5).v set_list (by intro _; cases j <;> first | rfl | (cases h4; done))) (show swapsWith v (some (.Subscript (.Name y p1) j p2)) pos.line X.env = pure false from sw_none h3 _ _ _) (by rfl) (by rfl)).imp fun D σ H ⟨M0, H0, M, δ, f, x, o, e1, qq⟩ => ?_
  have e1 : ((evl L n .val e δ).bind fun d => (evl L n .val k δ).bind fun z => setD i δ d z δ[i]?) = .ok f := e1
  obtain ⟨d, e2, e3⟩ := R.bind_inv e1
  obtain ⟨z, e4, e5⟩ := R.bind_inv e3
  cases c : δ[i]? with
  | none => rw [c] at e5; cases e5
  | some s =>
    rw [c] at e5
    cases s <;> first | (cases e5; done) | skip
    rename_i xs
    cases z <;> first | (cases e5; done) | skip
    rename_i z
    have e5 : (match ixN xs.length z with | some k => R.ok (F.nx (δ.set i (.own (xs.set k d)))) | none => .stuck) = .ok f := e5
    cases hk : ixN xs.length z with
    | none => rw [hk] at e5; cases e5
    | some k =>
    rw [hk] at e5
    cases e5
    obtain ⟨a, vs, k1, k2, k3, k4⟩ := o.getO c
    refine ⟨H0, M, δ, d, o, e2, fun M1 H1 w x1 r1 => ⟨.ref a, k1, H0, M1, δ, _, o.up x1, e4, fun M2 H2 u x2 r2 => ?_⟩⟩
    obtain rfl : u = .int z := by cases r2; rfl
    have x3 := x1.trans x2
    have hH : H2 a = some (.lst vs) := x3.h _ _ k3
    have hj : ixN vs.length z = some k := by rw [← k4.length]; exact hk
    refine ⟨a, vs, z, k, rfl, rfl, hH, hj, ?_⟩
    have o1 := o.up x3
    have x4 := x.on x3
    have m' : M2 a = none := x3.fr a k2 (by rw [k3]; exact fun z => nomatch z)
    have h0 : H0 a = none := o.new i xs a c k1
    refine qq M2 _ σ ⟨x4.m, fun b u hb => ?_, fun b u hb => ?_, x4.fr⟩ (o1.app c k1 hH (Reps.set (r1.up x2.m) k (k4.up x3.m)))
    · rw [upd_ne (fun z => by subst z; rw [h0] at hb; cases hb)]; exact x4.h b u hb
    · rw [upd_ne (fun z => by subst z; rw [m'] at hb; cases hb)]; exact x4.mh b u hb
theorem seti_core {K : PySem.W.Frag} {i k : Nat} {z : Int} {xs : List D} {d : D} {v : V} {M0 H0 M H : Hp} {σ : L2.St} {δ : En} {Q : Hp → Prop} (o : OKs K H0 M H σ δ) (c : δ[i]? = some (.own xs)) (hk : ixN xs.length z = some k) (r : Rep K M d v) (x : Xt M0 H0 M H)
    (q : ∀ H', Xt M0 H0 M H' → OKs K H0 M H' σ (δ.set i (.own (xs.set k d))) → Q H') : ∃ a vs, σ[i]? = some (some (.ref a)) ∧ H a = some (.lst vs) ∧ ixN vs.length z = some k ∧ Q (upd H a (.lst (vs.set k v))) := by
  obtain ⟨a, vs, k1, k2, k3, k4⟩ := o.getO c
  have h0 : H0 a = none := o.new i xs a c k1
  refine ⟨a, vs, k1, k3, by rw [← k4.length]; exact hk, q _ ⟨x.m, fun b u hb => ?_, fun b u hb => ?_, x.fr⟩ (o.app c k1 k3 (Reps.set r k k4))⟩
  · rw [upd_ne (fun z => by subst z; rw [h0] at hb; cases hb)]; exact x.h b u hb
  · rw [upd_ne (fun z => by subst z; rw [k2] at hb; cases hb)]; exact x.mh b u hb
theorem setD_inv {i : Nat} {δ : En} {d : D} {z : Int} {f : F} (h : setD i δ d (.int z) δ[i]? = .ok f) : ∃ xs k, δ[i]? = some (.own xs) ∧ ixN xs.length z = some k ∧ f = .nx (δ.set i (.own (xs.set k d))) := by
  cases c : δ[i]? with
  | none => rw [c] at h; cases h
  | some s =>
    rw [c] at h
    cases s <;> first | (cases h; done) | skip
    rename_i xs
    have h : (match ixN xs.length z with | some k => R.ok (F.nx (δ.set i (.own (xs.set k d)))) | none => .stuck) = .ok f := h
    cases hk : ixN xs.length z with
    | none => rw [hk] at h; cases h
    | some k =>
      rw [hk] at h
      cases h
      exact ⟨xs, k, rfl, hk, rfl⟩
theorem unpi_inv {L : Nm} {N : List Str} {sc : Scope} {i j : Nat} {k l : Int} {e : E} {x : Stmt} (h : mS L N sc (.unpi i j k l e) x = true) : ∃ y z p1 p2 p3 p4 ck1 cp1 ck2 cp2 tk tp v pos, x = .Assign [.Tuple [.Subscript (.Name y p1) (.Constant (.int k) ck1 cp1) p2, .Subscript (.Name z p3) (.Constant (.int l) ck2 cp2) p4] tk tp] v pos ∧
    N[i]? = some y ∧ visB sc y = true ∧ N[j]? = some z ∧ visB sc z = true ∧ isTup v = false ∧ notLc v = true ∧ mE L N sc e v = true := by
  unfold mS at h
  split at h
  · obtain ⟨h, h9⟩ := and2 h
    obtain ⟨h, h8⟩ := and2 h
    obtain ⟨h, h7⟩ := and2 h
    obtain ⟨h, h6⟩ := and2 h
    obtain ⟨h, h5⟩ := and2 h
    obtain ⟨h, h4⟩ := and2 h
    obtain ⟨h, h3⟩ := and2 h
    obtain ⟨h1, h2⟩ := and2 h
    have e1 := of_decide_eq_true h5
    have e2 := of_decide_eq_true h6
    subst e1; subst e2
    exact ⟨_, _, _, _, _, _, _, _, _, _, _, _, _, _, rfl, of_decide_eq_true h1, h2, of_decide_eq_true h3, h4, by simpa using h7, h8, h9⟩
  · cases h
theorem unpi_rd (g : GoodS L n N sc X wx) {i j : Nat} {y z : Str} {p1 p2 p3 p4 cp1 cp2 tp pos : Pos} {ck1 ck2 tk : Nat} {k l : Int} {e : E} {v : Expr} (h1 : N[i]? = some y) (h2 : visB sc y = true) (h3 : N[j]? = some z) (h4 : visB sc z = true) (h5 : isTup v = false) (h6 : notLc v = true) (h7 : mE L.nm N sc e v = true) :
    PS X (.Assign [.Tuple [.Subscript (.Name y p1) (.Constant (.int k) ck1 cp1) p2, .Subscript (.Name z p3) (.Constant (.int l) ck2 cp2) p4] tk tp] v pos) (tS X.K wx (exl L n (.unpi i j k l e))) := by
  obtain ⟨v1, v2, v3⟩ := visB_ok h2
  obtain ⟨w1, w2, w3⟩ := visB_ok h4
  have P1 := pg_sub (pos := p2) (pe_var (X := X) (i := i) (x := y) (pos := p1) (by rw [g.hN]; exact h1) (by rw [g.hsc]; exact v1) v2 v3) (pe_int (X := X) (i := k) (j := ck1) (pos := cp1)) set_list (by intro _; rfl)
  have P2 := pg_sub (pos := p4) (pe_var (X := X) (i := j) (x := z) (pos := p3) (by rw [g.hN]; exact h3) (by rw [g.hsc]; exact w1) w2 w3) (pe_int (X := X) (i := l) (j := ck2) (pos := cp2)) set_list (by intro _; rfl)
  have PT := pg_tup (pos := tp) (k := tk) (n := 2) (g.calm g.cold) (pgs_cons P1 (pgs_cons P2 pgs_nil)) rfl rfl
  refine (ps_asg (pos := pos) (sE e g.toGood h7).v PT (show swapsWith v (some (.Tuple [.Subscript (.Name y p1) (.Constant (.int k) ck1 cp1) p2, .Subscript (.Name z p3) (.Constant (.int l) ck2 cp2) p4] tk tp)) pos.line X.env = pure false from sw_none h6 _ _ _) (by cases v <;> first | rfl | cases h5) rfl).imp fun D σ H ⟨M0, H0, M, δ, f, x, o, e1, qq⟩ => ?_
  have e1 : ((evl L n .val e δ).bind fun d => match d with
    | .tup [d1, d2] => (setD i δ d1 (.int k) δ[i]?).bind fun f => match f with
      | .nx δ1 => setD j δ1 d2 (.int l) δ1[j]?
      | _ => R.stuck
    | _ => .stuck) = .ok f := e1
  obtain ⟨d, e2, e3⟩ := R.bind_inv e1
  cases d <;> first | (cases e3; done) | skip
  rename_i ds
  cases ds with
  | nil => cases e3
  | cons d1 ds =>
    cases ds with
    | nil => cases e3
    | cons d2 ds =>
      cases ds with
      | cons _ _ => cases e3
      | nil =>
        obtain ⟨f1, e4, e5⟩ := R.bind_inv e3
        obtain ⟨xs, a1, c1, b1, rfl⟩ := setD_inv e4
        obtain ⟨ys, a2, c2, b2, rfl⟩ := setD_inv e5
        refine ⟨H0, M, δ, _, o, e2, fun M1 H1 w x1 r1 => ?_⟩
        cases r1 with
        | tup sa ra =>
          cases ra with
          | cons r1 ra =>
            cases ra with
            | cons r2 ra =>
              cases ra
              refine ⟨_, _, rfl, ex_t x1.mh sa, rfl, _, _, rfl, ?_⟩
              obtain ⟨p, vs, q1, q2, q3, q4⟩ := seti_core (Q := fun H2 => gCons (gSub (tVar j) (L2.tC (.int l)) rSetL) gNil [_] σ H2 fun σ' H' => D.nx σ' H') (o.up x1) c1 b1 r1 (x.on x1) (fun H2 x2 o2 => by
                obtain ⟨p', us, s1, s2, s3, s4⟩ := seti_core (Q := fun H3 => D.nx σ H3) o2 c2 b2 r2 x2 (fun H3 x3 o3 => qq M1 H3 σ x3 o3)
                exact ⟨_, _, rfl, ⟨.ref p', s1, p', us, l, a2, rfl, rfl, s2, s3, rfl, s4⟩⟩)
              exact ⟨.ref p, q1, p, vs, k, a1, rfl, rfl, q2, q3, q4⟩
theorem set_same {α : Type} : ∀ {l : List α} {i : Nat} {a : α}, l[i]? = some a → l.set i a = l
  | [], _, _, h => by simp at h
  | x :: l, 0, a, h => by simp at h; subst h; rfl
  | x :: l, i + 1, a, h => by
    show x :: l.set i a = x :: l
    rw [set_same (by simpa using h)]
theorem orl_rd (g : GoodS L n N sc X wx) {i : Nat} {y : Str} {p1 p2 p3 pos : Pos} {e : E} {b : Expr} (h1 : N[i]? = some y) (h2 : locB sc y = true) (h3 : visB sc y = true) (h4 : isF e = true) (h5 : mE L.nm N sc e b = true) :
    PS X (.Assign [.Name y p1] (.BoolOp .Or [.Name y p2, b] p3) pos) (tS X.K wx (exl L n (.orl i e))) := by
  obtain ⟨v1, v2, v3⟩ := visB_ok h3
  have hv := pe_var (X := X) (i := i) (x := y) (pos := p2) (by rw [g.hN]; exact h1) (by rw [g.hsc]; exact v1) v2 v3
  have hb := pe_orT (pos := p3) hv (pe_one (op := .Or) (pos := p3) (sF g.toGood h5 h4))
  refine (ps_asg (pos := pos) hb (pg_name (pos := p1) (by rw [g.hN]; exact g.nd) (by rw [g.hN]; exact h1) (by rw [g.hsc]; exact locB_ok h2) (g.fx y)) (by rfl) (by rfl) (by rfl)).imp fun D σ H ⟨M0, H0, M, δ, f, x, o, e1, qq⟩ => ?_
  have e1 : (match δ[i]? with
    | some (.own xs) => if xs.isEmpty = true then (evFl L n e δ).bind fun ys => R.ok (F.nx (δ.set i (.own ys))) else .ok (.nx δ)
    | _ => .stuck) = .ok f := e1
  cases c : δ[i]? with
  | none => rw [c] at e1; cases e1
  | some s =>
    rw [c] at e1
    cases s <;> first | (cases e1; done) | skip
    rename_i xs
    obtain ⟨a, vs, k1, k2, k3, k4⟩ := o.getO c
    refine ⟨.ref a, k1, !vs.isEmpty, .inl ⟨vs, .inl (.inl k3), rfl⟩, ?_⟩
    cases k4 with
    | nil =>
      have e1 : ((evFl L n e δ).bind fun ys => R.ok (F.nx (δ.set i (.own ys)))) = .ok f := e1
      exact own_rd D σ H ⟨M0, H0, M, δ, f, x, o, e1, qq⟩
    | cons k5 k6 =>
      have e1 : R.ok (F.nx δ) = .ok f := e1
      cases e1
      show D.nx (σ.set i (some (.ref a))) H
      rw [set_same k1]
      exact qq M H σ x o
theorem Reps.snoc_inv {K : PySem.W.Frag} {M : Hp} : ∀ {ds : List D} {d : D} {vs : List V}, Reps K M (ds ++ [d]) vs → ∃ us v, vs = us ++ [v] ∧ Reps K M ds us ∧ Rep K M d v
  | [], d, _, h => by
    cases h with
    | cons a b => cases b; exact ⟨[], _, rfl, .nil, a⟩
  | x :: ds, d, _, h => by
    cases h with
    | cons a b =>
      obtain ⟨us, v, rfl, h1, h2⟩ := Reps.snoc_inv (ds := ds) b
      exact ⟨_ :: us, v, rfl, .cons a h1, h2⟩
theorem last1_eq {xs r : List D} {y : D} (h : last1 xs = some (r, y)) : xs = r ++ [y] := by
  unfold last1 at h
  cases q : xs.reverse with
  | nil => rw [q] at h; cases h
  | cons a l =>
    rw [q] at h
    cases h
    have := congrArg List.reverse q
    rw [List.reverse_reverse] at this
    rw [this, List.reverse_cons]
theorem last2_eq {xs r : List D} {x y : D} (h : last2 xs = some (r, x, y)) : xs = r ++ [x] ++ [y] := by
  unfold last2 at h
  cases q : xs.reverse with
  | nil => rw [q] at h; cases h
  | cons a l =>
    cases l with
    | nil => rw [q] at h; cases h
    | cons b l =>
      rw [q] at h
      cases h
      have := congrArg List.reverse q
      rw [List.reverse_reverse] at this
      rw [this, List.reverse_cons, List.reverse_cons]
/-- the end of both: a tuple made anew, and laid at the end of what is left -/
theorem pop_end {K : PySem.W.Frag} {M0 H0 M H : Hp} {D' : Ends} {σ : L2.St} {δ : En} {i : Nat} {xs zs ts : List D} {a p : Addr} {us ws : List V} {o1 : HO} {H4 : Hp} (x : Xt M0 H0 M H) (o : OKs K H0 M H σ δ) (c : δ[i]? = some (.own xs)) (k1 : σ[i]? = some (some (.ref a)))
    (h4 : H4 = upd H a o1) (hp : H4 p = none) (rz : Reps K M zs us) (rt : Reps K M ts ws) (q : endOk K wx M0 H0 D' (.nx (δ.set i (.own (zs ++ [.tup ts]))))) :
    D'.nx σ (upd (upd H4 p (.tup ws)) a (.lst (us ++ [.ref p]))) := by
  obtain ⟨a', vs', k1', k2, k3, k4⟩ := o.getO c
  rw [k1] at k1'
  cases k1'
  subst h4
  have hpa : p ≠ a := fun z => by subst z; rw [upd_same] at hp; cases hp
  rw [upd_ne hpa] at hp
  have x1 := Xt.new (o := .tup ws) o.ex hp
  have o1' := o.up x1
  have x2 := x.on x1
  have e : upd (upd (upd H a o1) p (.tup ws)) a (.lst (us ++ [.ref p])) = upd (upd H p (.tup ws)) a (.lst (us ++ [.ref p])) := by
    funext b
    by_cases hb : b = a
    · subst hb; rw [upd_same, upd_same]
    · rw [upd_ne hb, upd_ne hb]
      by_cases hb2 : b = p
      · subst hb2; rw [upd_same, upd_same]
      · rw [upd_ne hb2, upd_ne hb2, upd_ne hb]
  rw [e]
  have k3' : upd H p (.tup ws) a = some (.lst vs') := x1.h _ _ k3
  have m' : upd M p (.tup ws) a = none := x1.fr a k2 (by rw [k3]; exact fun z => nomatch z)
  have h0 : H0 a = none := o.new i xs a c k1
  refine q (upd M p (.tup ws)) _ σ ⟨x2.m, fun b u hb => ?_, fun b u hb => ?_, x2.fr⟩ (o1'.app c k1 k3' ((rz.up x1.m).snoc (.tup (.inl (.inl upd_same)) (rt.up x1.m))))
  · rw [upd_ne (fun z => by subst z; rw [h0] at hb; cases hb)]; exact x2.h b u hb
  · rw [upd_ne (fun z => by subst z; rw [m'] at hb; cases hb)]; exact x2.mh b u hb
theorem pop1_rd (g : GoodS L n N sc X wx) {i : Nat} {y : Str} {p1 p q p6 p7 q7 tp : Pos} {tk : Nat} {e : E} {v : Expr} {pos : Pos} (h1 : N[i]? = some y) (h2 : visB sc y = true) (h3 : (p.endLine == q.line) = true) (h7 : (p7.endLine == q7.line) = true) (h4 : mE L.nm N sc e v = true) :
    PS X (.Expr (.Call (.Attribute (.Name y p1) "append" p) [.Tuple [v, .Call (.Attribute (.Name y p6) "pop" p7) [] [] q7] tk tp] [] q) pos) (tS X.K wx (exl L n (.pop1 i e))) := by
  obtain ⟨v1, v2, v3⟩ := visB_ok h2
  have pv : ∀ pp : Pos, PE X (.Name y pp) _ := fun pp => pe_var (X := X) (i := i) (x := y) (pos := pp) (by rw [g.hN]; exact h1) (by rw [g.hsc]; exact v1) v2 v3
  have P1 := pe_bm0 (cpos := q7) PySem.F.plainAttrs_list PySem.F.slot_list_pop PySem.F.type_list_pop mt_pop (pv p6) rfl h7
  have T := pe_tup (pos := tp) (x1 := tk) (pa_cons (sE e g.toGood h4).v (pa_cons P1 pa_nil rfl) (star_ns (mE_ns h4) _ _))
  have A := pa_cons T pa_nil rfl
  refine (ps_expr (pe_bm PySem.F.plainAttrs_list PySem.F.slot_list_append PySem.F.type_list_append mt_append (pv p1) A rfl rfl h3 rfl rfl) (sw_none rfl _ _ _)).imp fun D σ H ⟨M0, H0, M, δ, f, x, o, e1, qq⟩ => ?_
  have e1 : ((evl L n .val e δ).bind fun d => match δ[i]? with | some (.own xs) => (match last1 xs with | some (r, y) => req (r.length + 1 < LIM) (R.ok (F.nx (δ.set i (.own (r ++ [Fw.D.tup [d, y]]))))) | none => .stuck) | _ => .stuck) = .ok f := e1
  obtain ⟨d, e2, e3⟩ := R.bind_inv e1
  cases c : δ[i]? with
  | none => rw [c] at e3; cases e3
  | some s =>
    rw [c] at e3
    cases s <;> first | (cases e3; done) | skip
    rename_i xs
    have e3 : (match last1 xs with | some (r, y) => req (r.length + 1 < LIM) (R.ok (F.nx (δ.set i (.own (r ++ [Fw.D.tup [d, y]]))))) | none => .stuck) = .ok f := e3
    cases hl : last1 xs with
    | none => rw [hl] at e3; cases e3
    | some ry =>
    obtain ⟨r, dy⟩ := ry
    rw [hl] at e3
    obtain ⟨hlen, e4⟩ := req_inv e3
    cases e4
    have ex := last1_eq hl
    obtain ⟨a, vs, k1, k2, k3, k4⟩ := o.getO c
    refine ⟨_, k1, .inl ⟨rfl, vs, .inl (.inl k3)⟩, H0, M, δ, d, o, e2, fun M1 H1 w x1 r1 => ⟨_, k1, .inl ⟨rfl, vs, .inl (.inl (x1.h _ _ k3))⟩, ?_⟩⟩
    have r4 := k4.up x1.m
    rw [ex] at r4
    obtain ⟨us, vy, rfl, r5, r6⟩ := r4.snoc_inv
    refine ⟨a, us ++ [vy], vy, rfl, rfl, x1.h _ _ k3, by simp, ?_⟩
    refine ⟨by rw [List.length_cons, List.length_cons, List.length_nil, sizeLine_eq]; decide, fun pp hp => ?_⟩
    have hpa : a ≠ pp := fun z => by subst z; rw [upd_same] at hp; cases hp
    refine ⟨a, us, .ref pp, rfl, rfl, ?_, ?_, ?_⟩
    · rw [upd_ne hpa, upd_same, List.dropLast_concat]
    · have := r5.length
      rw [← this, ← lim_eq]
      omega
    · exact pop_end (x.on x1) (o.up x1) c k1 rfl hp r5 (.cons r1 (.cons r6 .nil)) qq
theorem pop2_rd (g : GoodS L n N sc X wx) {i : Nat} {y : Str} {p1 p q p4 p5 q5 p6 p7 q7 tp : Pos} {tk : Nat} {e : E} {v b : Expr} {pos : Pos} (h1 : N[i]? = some y) (h2 : visB sc y = true) (h3 : (p.endLine == q.line) = true) (h5 : (p5.endLine == q5.line) = true) (h7 : (p7.endLine == q7.line) = true)
    (hb : mE L.nm N sc (.op .sub (.blt .len [.var i]) (.int 2)) b = true) (h4 : mE L.nm N sc e v = true) :
    PS X (.Expr (.Call (.Attribute (.Name y p1) "append" p) [.Tuple [v, .Call (.Attribute (.Name y p4) "pop" p5) [b] [] q5, .Call (.Attribute (.Name y p6) "pop" p7) [] [] q7] tk tp] [] q) pos) (tS X.K wx (exl L n (.pop2 i e))) := by
  obtain ⟨v1, v2, v3⟩ := visB_ok h2
  have pv : ∀ pp : Pos, PE X (.Name y pp) _ := fun pp => pe_var (X := X) (i := i) (x := y) (pos := pp) (by rw [g.hN]; exact h1) (by rw [g.hsc]; exact v1) v2 v3
  have P1 := pe_bm0 (cpos := q7) PySem.F.plainAttrs_list PySem.F.slot_list_pop PySem.F.type_list_pop mt_pop (pv p6) rfl h7
  have B := pa_cons (sE _ g.toGood hb).v pa_nil (star_ns (mE_ns hb) _ _)
  have P2 := pe_bm (cpos := q5) PySem.F.plainAttrs_list PySem.F.slot_list_pop PySem.F.type_list_pop mt_popAt (pv p4) B rfl (by rw [star_ns (mE_ns hb)]; rfl) h5 (star_ns (mE_ns hb) _ _) rfl
  have T := pe_tup (pos := tp) (x1 := tk) (pa_cons (sE e g.toGood h4).v (pa_cons P2 (pa_cons P1 pa_nil rfl) rfl) (star_ns (mE_ns h4) _ _))
  have A := pa_cons T pa_nil rfl
  refine (ps_expr (pe_bm PySem.F.plainAttrs_list PySem.F.slot_list_append PySem.F.type_list_append mt_append (pv p1) A rfl rfl h3 rfl rfl) (sw_none rfl _ _ _)).imp fun D σ H ⟨M0, H0, M, δ, f, x, o, e1, qq⟩ => ?_
  have e1 : ((evl L n .val e δ).bind fun d => match δ[i]? with | some (.own xs) => (match last2 xs with | some (r, x, y) => req (r.length + 2 < LIM) (R.ok (F.nx (δ.set i (.own (r ++ [Fw.D.tup [d, x, y]]))))) | none => .stuck) | _ => .stuck) = .ok f := e1
  obtain ⟨d, e2, e3⟩ := R.bind_inv e1
  cases c : δ[i]? with
  | none => rw [c] at e3; cases e3
  | some s =>
    rw [c] at e3
    cases s <;> first | (cases e3; done) | skip
    rename_i xs
    have e3 : (match last2 xs with | some (r, x, y) => req (r.length + 2 < LIM) (R.ok (F.nx (δ.set i (.own (r ++ [Fw.D.tup [d, x, y]]))))) | none => .stuck) = .ok f := e3
    cases hl : last2 xs with
    | none => rw [hl] at e3; cases e3
    | some ry =>
    obtain ⟨r, dx, dy⟩ := ry
    rw [hl] at e3
    obtain ⟨hlen, e4⟩ := req_inv e3
    cases e4
    have ex := last2_eq hl
    obtain ⟨a, vs, k1, k2, k3, k4⟩ := o.getO c
    have hlx : (xs.length : Int) = (r.length : Int) + 2 := by rw [ex]; simp <;> omega
    have ei : evl L n .val (.op .sub (.blt .len [.var i]) (.int 2)) δ = .ok (.int (xs.length - 2)) := by
      show ((((getV .bor δ[i]?).bind (post .bor)).bind fun x => (R.ok []).bind fun xs => R.ok (x :: xs)).bind fun xs => (bltD .len xs).bind (post .bor)).bind _ = _
      rw [c]; rfl
    refine ⟨_, k1, .inl ⟨rfl, vs, .inl (.inl k3)⟩, H0, M, δ, d, o, e2, fun M1 H1 w x1 r1 => ⟨_, k1, .inl ⟨rfl, vs, .inl (.inl (x1.h _ _ k3))⟩, H0, M1, δ, _, o.up x1, ei, fun M2 H2 u x2 r2 => ?_⟩⟩
    cases r2
    have r4 := (k4.up x1.m).up x2.m
    rw [ex] at r4
    obtain ⟨us1, vy, rfl, r5, r6⟩ := r4.snoc_inv
    obtain ⟨us, vx, rfl, r7, r8⟩ := r5.snoc_inv
    have hu := r7.length
    have hk : seqIndex? ((xs.length : Int) - 2) (us ++ [vx] ++ [vy]).length = some us.length := by
      have e9 : (xs.length : Int) - 2 = us.length := by omega
      rw [e9]
      unfold seqIndex?
      simp
      omega
    have he : (us ++ [vx] ++ [vy]).eraseIdx us.length = us ++ [vy] := by
      rw [List.append_assoc, List.eraseIdx_append_of_length_le (Nat.le_refl _), Nat.sub_self]
      rfl
    have hlim : r.length + 2 < 16777216 := hlen
    refine ⟨a, us ++ [vx] ++ [vy], (xs.length : Int) - 2, us.length, vx, rfl, rfl, x2.h _ _ (x1.h _ _ k3), by omega, by omega, hk, by simp, ?_⟩
    rw [he]
    refine ⟨_, k1, .inl ⟨rfl, us ++ [vy], .inl (.inl upd_same)⟩, a, us ++ [vy], vy, rfl, rfl, upd_same, by simp, ?_⟩
    refine ⟨by rw [List.length_cons, List.length_cons, List.length_cons, List.length_nil, sizeLine_eq]; decide, fun pp hp => ?_⟩
    have hpa : a ≠ pp := fun z => by subst z; rw [upd_same] at hp; cases hp
    have e8 : upd (upd H2 a (.lst (us ++ [vy]))) a (.lst (us ++ [vy]).dropLast) = upd H2 a (.lst us) := by
      funext b
      by_cases hb : b = a
      · subst hb; rw [upd_same, upd_same, List.dropLast_concat]
      · rw [upd_ne hb, upd_ne hb, upd_ne hb]
    rw [e8] at hp ⊢
    refine ⟨a, us, .ref pp, rfl, rfl, ?_, ?_, ?_⟩
    · rw [upd_ne hpa, upd_same]
    · rw [← hu, ← lim_eq]
      omega
    · exact pop_end ((x.on x1).on x2) ((o.up x1).up x2) c k1 rfl hp r7 (.cons (r1.up x2.m) (.cons r8 (.cons r6 .nil))) qq
theorem ite_rd {K : PySem.W.Frag} {cc : En → R D} {a b : En → R F} : ∀ D σ H, tS K wx (fun δ => (cc δ).bind fun k => match k with | .bl true => a δ | .bl false => b δ | _ => .stuck) D σ H → tIfS (tK K cc) (tS K wx a) (tS K wx b) D σ H := by
  intro D σ H ⟨M0, H0, M, δ, f, x, o, e, q⟩
  obtain ⟨k, e1, e2⟩ := R.bind_inv e
  cases k <;> first | (cases e2; done) | skip
  rename_i k
  refine ⟨H0, M, δ, k, o, e1, fun M1 H1 x1 => ?_⟩
  cases k with
  | true => exact iteT ⟨M0, H0, M1, δ, f, x.on x1, o.up x1, e2, q⟩
  | false => exact iteF ⟨M0, H0, M1, δ, f, x.on x1, o.up x1, e2, q⟩
theorem unp_rd {K : PySem.W.Frag} {is : List Nat} {co : En → R D} : ∀ D σ H, tS K wx (fun δ => (co δ).bind fun d => match d with | .tup xs => (layNs is xs δ).bind fun δ' => .ok (.nx δ') | _ => .stuck) D σ H → tAsg (tC K co) (gTup K is.length (gNs is)) D σ H := by
  intro D σ H ⟨M0, H0, M, δ, f, x, o, e, q⟩
  obtain ⟨d, e1, e2⟩ := R.bind_inv e
  cases d <;> first | (cases e2; done) | skip
  obtain ⟨δ', e3, e4⟩ := R.bind_inv e2
  cases e4
  refine ⟨H0, M, δ, _, o, e1, fun M' H' v x1 r => ?_⟩
  cases r with
  | tup sa ra => exact ⟨_, _, rfl, ex_t x1.mh sa, by rw [← ra.length, layNs_len e3], layNs_ok e3 (o.up x1) ra fun σ' o' => q M' H' σ' (x.on x1) o'⟩
theorem stuck_rd {K : PySem.W.Frag} {t : TS} {co : En → R F} (h : ∀ δ f, co δ ≠ .ok f) : ∀ D σ H, tS K wx co D σ H → t D σ H := fun D σ H ⟨_, _, _, δ, f, _, _, e, _⟩ => absurd e (h δ f)
theorem frz_ok (g : GoodS L n N sc X wx) {i : Nat} {ss : List S} {xs : List Stmt} (P : PSs X xs (tS X.K wx (exsl L n ss))) : PSs X xs (tS X.K wx (exsl L n (.freeze i :: ss))) :=
  P.imp fun D σ H ⟨M0, H0, M, δ, f, x, o, e, q⟩ => by
    have e : ((match δ[i]? with | some (.own xs) => R.ok (F.nx (δ.set i (.dat (.lst xs)))) | some (.dat _) => R.ok (F.nx δ) | _ => R.stuck).bind fun f => match f with | .nx δ' => exsl L n ss δ' | .rt d k => .ok (.rt d k) | .bk δ' => .ok (.bk δ') | .ct δ' => .ok (.ct δ') | .ex c δ' => .ok (.ex c δ')) = .ok f := e
    cases c : δ[i]? with
    | none => rw [c] at e; cases e
    | some s =>
      rw [c] at e
      cases s with
      | no => cases e
      | dat d => exact ⟨M0, H0, M, δ, f, x, o, e, q⟩
      | own xs =>
        obtain ⟨p, h0, hm, vs, h1, h2, o'⟩ := o.freeze c
        exact ⟨M0, H0, _, _, f, x.tell h0 hm h1, o', e, q⟩
theorem pss_of {t : TS} {st : Stmt} {xs : List Stmt} {s : S} {ss : List S} (h1 : PS X st (tS X.K wx (exl L n s))) (h2 : PSs X xs (tS X.K wx (exsl L n ss))) : PSs X (st :: xs) (tS X.K wx (exsl L n (s :: ss))) :=
  (pss_cons h1 h2).imp seq_ok
def isTks : S → Bool
  | .tks _ _ _ _ _ => true | _ => false
mutual
theorem sS : ∀ (s : S) {sc : Scope} {X : Cx} {wx : WF} {x : Stmt}, GoodS L n N sc X wx → mS L.nm N sc s x = true → PS X x (tS X.K wx (exl L n s))
  | .set i e, sc, X, wx, x, g, h => by
    cases x <;> first | (cases h; done) | skip
    rename_i ts v p
    cases ts with
    | nil => cases h
    | cons t ts =>
      cases t <;> first | (cases h; done) | skip
      cases ts with
      | cons _ _ => cases h
      | nil =>
        obtain ⟨h1, h2⟩ := and2 h
        exact (ps_setE g h1 h2 (sE e g.toGood h2).v fun ws ts src c e' ee => by subst ee; exact lc_V).imp set_rd
  | .own i e, sc, X, wx, x, g, h => by
    cases x <;> first | (cases h; done) | skip
    rename_i ts v p
    cases ts with
    | nil => cases h
    | cons t ts =>
      cases t <;> first | (cases h; done) | skip
      cases ts with
      | cons _ _ => cases h
      | nil =>
        obtain ⟨h, h3⟩ := and2 h
        obtain ⟨h1, h2⟩ := and2 h
        exact (ps_setE g h1 h3 (sF g.toGood h3 h2) fun ws ts src c e' ee => by subst ee; exact lc_F).imp own_rd
  | .freeze i, sc, X, wx, x, g, h => by rw [mS] at h; cases h
  | .unp is e, sc, X, wx, x, g, h => by
    cases x <;> first | (cases h; done) | skip
    rename_i ts v p
    cases ts with
    | nil => cases h
    | cons t ts =>
      cases t <;> first | (cases h; done) | skip
      rename_i es k tp
      cases ts with
      | cons _ _ => cases h
      | nil =>
        obtain ⟨h, h4⟩ := and2 h
        obtain ⟨h, h3⟩ := and2 h
        obtain ⟨h1, h2⟩ := and2 h
        obtain ⟨a, b, c⟩ := nms_pg g h3
        refine (ps_asg (pos := p) (sE e g.toGood h4).v (pg_tup (pos := tp) (k := k) (g.calm g.cold) a b c) (show swapsWith v (some (.Tuple es k tp)) p.line X.env = pure false from sw_none h2 _ _ _) ?_ rfl).imp unp_rd
        cases v <;> first | rfl | cases h1
  | .expr e, sc, X, wx, x, g, h => by
    cases x <;> first | (cases h; done) | skip
    obtain ⟨h1, h2⟩ := and2 h
    refine (ps_expr (sE e g.toGood h2).v (sw_none h1 _ _ _)).imp fun D σ H ⟨M0, H0, M, δ, f, x, o, e1, q⟩ => ?_
    obtain ⟨d, e2, e3⟩ := R.bind_inv e1
    cases e3
    exact ⟨H0, M, δ, d, o, e2, fun M' H' v x1 r => q M' H' σ (x.on x1) (o.up x1)⟩
  | .app i e, sc, X, wx, x, g, h => by
    cases x <;> first | (cases h; done) | skip
    rename_i v pos
    cases v <;> first | (cases h; done) | skip
    rename_i fn as ks q
    cases fn <;> first | (cases h; done) | skip
    rename_i o nm p
    cases o <;> first | (cases h; done) | skip
    cases as with
    | nil => cases h
    | cons a as =>
      cases as with
      | cons _ _ => cases h
      | nil =>
        cases ks with
        | cons _ _ => cases h
        | nil =>
          obtain ⟨h, h5⟩ := and2 h
          obtain ⟨h, h4⟩ := and2 h
          obtain ⟨h, h3⟩ := and2 h
          obtain ⟨h1, h2⟩ := and2 h
          have e := of_decide_eq_true h3
          subst e
          exact app_rd g (of_decide_eq_true h1) h2 h4 h5
  | .ext i e, sc, X, wx, x, g, h => by
    obtain ⟨y, p1, p, v, q, pos, rfl, h1, h2, h3, h4, h5⟩ := ext_inv h
    exact ext_rd g h1 h2 h3 h4 h5
  | .unpi i j k l e, sc, X, wx, x, g, h => by
    obtain ⟨y, z, p1, p2, p3, p4, ck1, cp1, ck2, cp2, tk, tp, v, pos, rfl, h1, h2, h3, h4, h5, h6, h7⟩ := unpi_inv h
    exact unpi_rd g h1 h2 h3 h4 h5 h6 h7
  | .clr i, sc, X, wx, x, g, h => by
    obtain ⟨y, p1, p, q, pos, rfl, h1, h2, h3⟩ := clr_inv h
    exact clr_rd g h1 h2 h3
  | .seti i k e, sc, X, wx, x, g, h => by
    obtain ⟨y, p1, j, p2, v, pos, rfl, h1, h2, h3, h4, h5, h6⟩ := seti_inv h
    exact seti_rd g h1 h2 h3 h4 h5 h6
  | .orl i e, sc, X, wx, x, g, h => by
    obtain ⟨y, p1, p2, b, p3, pos, rfl, h1, h2, h3, h4, h5⟩ := orl_inv h
    exact orl_rd g h1 h2 h3 h4 h5
  | .pop1 i e, sc, X, wx, x, g, h => by
    obtain ⟨y, p1, p, v, p6, p7, q7, tk, tp, q, pos, rfl, h1, h2, h3, h4, h5⟩ := pop1_inv h
    exact pop1_rd g h1 h2 h3 h4 h5
  | .pop2 i e, sc, X, wx, x, g, h => by
    obtain ⟨y, p1, p, v, p4, p5, b, q5, p6, p7, q7, tk, tp, q, pos, rfl, h1, h2, h3, h4, h5, h6, h7⟩ := pop2_inv h
    exact pop2_rd g h1 h2 h3 h4 h5 h6 h7
  | .ret e, sc, X, wx, x, g, h => by
    cases x <;> first | (cases h; done) | skip
    rename_i v pos
    cases v with
    | none => cases h
    | some v =>
      refine (ps_ret (sE e g.toGood h).v).imp fun D σ H ⟨M0, H0, M, δ, f, x, o, e1, q⟩ => ?_
      obtain ⟨d, e2, e3⟩ := R.bind_inv e1
      cases e3
      exact ⟨H0, M, δ, d, o, e2, fun M' H' v x1 r => q M' H' v (x.on x1) r⟩
  | .retF e, sc, X, wx, x, g, h => by
    cases x <;> first | (cases h; done) | skip
    rename_i v pos
    cases v with
    | none => cases h
    | some v =>
      obtain ⟨h1, h2⟩ := and2 h
      refine (ps_ret (sF g.toGood h2 h1)).imp fun D σ H ⟨M0, H0, M, δ, f, x, o, e1, q⟩ => ?_
      obtain ⟨xs, e2, e3⟩ := R.bind_inv e1
      cases e3
      exact ⟨H0, M, δ, xs, o, e2, fun M' H' p vs x1 n0 n1 h r => q M' H' _ (x.on x1) ⟨p, vs, xs, rfl, rfl, Ex.none_of x.h n0, n1, h, r⟩⟩
  | .retO i, sc, X, wx, x, g, h => by
    cases x <;> first | (cases h; done) | skip
    rename_i v pos
    cases v with
    | none => cases h
    | some v =>
      cases v <;> first | (cases h; done) | skip
      obtain ⟨h1, h2⟩ := and2 h
      exact retO_rd g (of_decide_eq_true h1) h2
  | .retN, sc, X, wx, x, g, h => by
    cases x <;> first | (cases h; done) | skip
    rename_i v pos
    cases v with
    | some v => cases h
    | none =>
      refine ps_retN.imp fun D σ H ⟨M0, H0, M, δ, f, x, o, e1, q⟩ => ?_
      cases e1
      exact q M H _ x .non
  | .ite c a b, sc, X, wx, x, g, h => by
    cases x <;> first | (cases h; done) | skip
    obtain ⟨h, h3⟩ := and2 h
    obtain ⟨h1, h2⟩ := and2 h
    exact (ps_if (sE c g.toGood h1).t (sSs a g h2) (sSs b g h3)).imp ite_rd
  | .fr ts src b, sc, X, wx, x, g, h => by
    cases x <;> first | (cases h; done) | skip
    rename_i tg it body els pos
    cases els with
    | cons _ _ => cases h
    | nil =>
      obtain ⟨h, h3⟩ := and2 h
      obtain ⟨h1, h2⟩ := and2 h
      exact (ps_for g.po (g.calm g.cold) (src_pi g.toGood false h2) (tgf_pg g h1) (sSs b g h3) (set_ok (src_noset h2))).imp for_rd
  | .tryb b, sc, X, wx, x, g, h => by
    cases x <;> first | (cases h; done) | skip
    rename_i body hs els fin pos
    cases hs with
    | nil => cases h
    | cons h0 hs =>
      cases els with
      | cons _ _ => cases h
      | nil =>
        cases fin with
        | cons _ _ => cases h
        | nil =>
          refine (ps_try_thru0 (sSs b g.nox h)).imp fun D σ H ⟨M0, H0, M, δ, f, x, o, e1, q⟩ => ?_
          obtain ⟨f1, e2, e3⟩ := R.bind_inv e1
          cases f1 <;> first | (cases e3; done) | (cases e3; exact ⟨M0, H0, M, δ, _, x, o, e2, q⟩)
  | .wh c b, sc, X, wx, x, g, h => by
    cases x <;> first | (cases h; done) | skip
    rename_i t body els pos
    cases els with
    | cons _ _ => cases h
    | nil =>
      obtain ⟨h1, h2⟩ := and2 h
      exact (ps_while g.po (sE c g.toGood h1).t (sSs b g h2)).imp while_rd
  | .x k e, sc, X, wx, x, g, h => x_rd g h
  | .raise c, sc, X, wx, x, g, h => raise_rd g h
  | .trys b m hs, sc, X, wx, x, g, h => by
    cases x <;> first | (cases h; done) | skip
    rename_i body hds els fin pos
    cases hds with
    | nil => cases h
    | cons h0 hds =>
      cases els with
      | cons _ _ => cases h
      | nil =>
        cases fin with
        | cons _ _ => cases h
        | nil =>
          obtain ⟨h, h3⟩ := and2 h
          obtain ⟨h1, h2⟩ := and2 h
          exact trys_rd g (fun g' => sSs b g' h1) (of_decide_eq_true h2) h3
  | .tryas b m k i su, sc, X, wx, x, g, h => by
    cases x <;> first | (cases h; done) | skip
    rename_i body hds els fin pos
    cases hds with
    | nil => cases h
    | cons h0 hds =>
      cases h0
      rename_i t nm bb p2
      cases t with
      | none => cases h
      | some t =>
      cases nm with
      | none => cases h
      | some nm =>
      cases bb with
      | nil => cases h
      | cons b₀ suite =>
      cases hds with
      | cons _ _ => cases h
      | nil =>
      cases els with
      | cons _ _ => cases h
      | nil =>
        cases fin with
        | cons _ _ => cases h
        | nil =>
          obtain ⟨h, h6⟩ := and2 h
          obtain ⟨h, h5⟩ := and2 h
          obtain ⟨h, h4⟩ := and2 h
          obtain ⟨h, h3⟩ := and2 h
          obtain ⟨h1, h2⟩ := and2 h
          exact tryas_rd g (fun g' => sSs b g' h1) (of_decide_eq_true h2) h3 (of_decide_eq_true h4) (of_decide_eq_true h5) h6
  | .brk, sc, X, wx, x, g, h => by
    cases x <;> first | (cases h; done) | skip
    refine ps_break.imp fun D σ H ⟨M0, H0, M, δ, f, x, o, e1, q⟩ => ?_
    cases e1
    exact q M H σ x o
  | .cont, sc, X, wx, x, g, h => by
    cases x <;> first | (cases h; done) | skip
    refine ps_continue.imp fun D σ H ⟨M0, H0, M, δ, f, x, o, e1, q⟩ => ?_
    cases e1
    exact q M H σ x o
  | .tks _ _ _ _ _, sc, X, wx, x, g, h => by rw [mS] at h; cases h
  | .never, sc, X, wx, x, g, h => ps_never.imp (stuck_rd fun δ f e => by cases e)
theorem sTS : ∀ (s : S) {sc : Scope} {X : Cx} {wx : WF} {x : Stmt}, GoodS L n N sc X wx → mTS L.nm N sc s x = true → L2.PST X x (tS X.K wx (exl L n s))
  | .ite c a b, sc, X, wx, x, g, h => by
    cases x <;> first | (cases h; done) | skip
    obtain ⟨h, h3⟩ := and2 h
    obtain ⟨h1, h2⟩ := and2 h
    exact fun pins s σ H D k0 I q => pst_ifT (sTT g.toGood h1) (sSs a g h2) (sSs b g h3) pins s σ H D k0 I (ite_rd D σ H q)
  | .ret e, sc, X, wx, x, g, h => by
    cases x <;> first | (cases h; done) | skip
    rename_i v pos
    cases v with
    | none => cases h
    | some v =>
      have h : (mE L.nm N sc e v || mTV L.nm N sc e v) = true := h
      have P : L2.PET X v (tC X.K (evl L n .val e)) := by
        rw [Bool.or_eq_true] at h
        rcases h with h | h
        · exact CwR.PET.of (sE e g.toGood h).v
        · exact (sTV g.toGood h).1
      intro pins s σ H D k0 I ⟨M0, H0, M, δ, f, x, o, e1, q⟩
      obtain ⟨d, e2, e3⟩ := R.bind_inv e1
      cases e3
      exact CwR.pst_ret P pins s σ H D k0 I ⟨H0, M, δ, d, o, e2, fun M' H' v x1 r => q M' H' v (x.on x1) r⟩
  | .set _ _, sc, X, wx, x, g, h => by cases h
  | .own _ _, sc, X, wx, x, g, h => by cases h
  | .freeze _, sc, X, wx, x, g, h => by cases h
  | .unp _ _, sc, X, wx, x, g, h => by cases h
  | .expr _, sc, X, wx, x, g, h => by cases h
  | .app _ _, sc, X, wx, x, g, h => by cases h
  | .ext _ _, sc, X, wx, x, g, h => by cases h
  | .clr _, sc, X, wx, x, g, h => by cases h
  | .unpi _ _ _ _ _, sc, X, wx, x, g, h => by cases h
  | .seti _ _ _, sc, X, wx, x, g, h => by cases h
  | .orl _ _, sc, X, wx, x, g, h => by cases h
  | .pop1 _ _, sc, X, wx, x, g, h => by cases h
  | .pop2 _ _, sc, X, wx, x, g, h => by cases h
  | .retF _, sc, X, wx, x, g, h => by cases h
  | .retO _, sc, X, wx, x, g, h => by cases h
  | .retN, sc, X, wx, x, g, h => by cases h
  | .fr _ _ _, sc, X, wx, x, g, h => by cases h
  | .wh _ _, sc, X, wx, x, g, h => by cases h
  | .tryb _, sc, X, wx, x, g, h => by cases h
  | .tks _ _ _ _ _, sc, X, wx, x, g, h => by cases h
  | .x _ _, sc, X, wx, x, g, h => by cases h
  | .raise _, sc, X, wx, x, g, h => by cases h
  | .trys _ _ _, sc, X, wx, x, g, h => by cases h
  | .tryas _ _ _ _ _, sc, X, wx, x, g, h => by cases h
  | .brk, sc, X, wx, x, g, h => by cases h
  | .cont, sc, X, wx, x, g, h => by cases h
  | .never, sc, X, wx, x, g, h => by cases h
theorem sTs : ∀ (ss : List S) {sc : Scope} {X : Cx} {wx : WF} {xs : List Stmt}, GoodS L n N sc X wx → mTs L.nm N sc ss xs = true → L2.PSsT X xs (tS X.K wx (exsl L n ss))
  | [], sc, X, wx, xs, g, h => by
    cases xs with
    | cons _ _ => cases h
    | nil =>
      refine L2.PSsT.of (pss_nil.imp fun D σ H ⟨M0, H0, M, δ, f, x, o, e1, q⟩ => ?_)
      cases e1
      exact q M H σ x o
  | s :: ss, sc, X, wx, xs, g, h => by
    cases xs with
    | nil => cases h
    | cons y ys =>
      obtain ⟨h1, h2⟩ := and2 (show (mTS L.nm N sc s y && mTs L.nm N sc ss ys) = true from h)
      exact fun pins st σ H D k0 I q => L2.psst_cons (sTS s g h1) (sTs ss g h2) pins st σ H D k0 I (seq_ok D σ H q)
theorem sSs : ∀ (ss : List S) {sc : Scope} {X : Cx} {wx : WF} {xs : List Stmt}, GoodS L n N sc X wx → mSs L.nm N sc ss xs = true → PSs X xs (tS X.K wx (exsl L n ss))
  | [], sc, X, wx, xs, g, h => by
    cases xs with
    | cons _ _ => cases h
    | nil =>
      refine pss_nil.imp fun D σ H ⟨M0, H0, M, δ, f, x, o, e1, q⟩ => ?_
      cases e1
      exact q M H σ x o
  | s :: ss, sc, X, wx, xs, g, h => by
    by_cases hn : s = .never
    · subst hn
      exact pss_never.imp (stuck_rd fun δ f e => by cases e)
    · by_cases hf : ∃ i, s = .freeze i
      · obtain ⟨i, rfl⟩ := hf
        exact frz_ok g (sSs ss g h)
      · cases ht : isTks s with
        | true =>
          match s, ht, h with
          | .tks i a lo hi rest, _, h =>
            obtain ⟨h1, h2⟩ := and2 h
            cases ss with
            | cons _ _ => cases h1
            | nil =>
              cases xs with
              | nil => cases h2
              | cons y ys =>
                obtain ⟨h3, h4⟩ := and2 h2
                exact tks_rd g h3 (sTs rest g h4)
        | false =>
        have hk : ¬ ∃ i a lo hi rest, s = .tks i a lo hi rest := fun ⟨_, _, _, _, _, z⟩ => by rw [z] at ht; cases ht
        cases xs with
        | nil => cases s <;> first | exact absurd rfl hn | exact absurd ⟨_, rfl⟩ hf | exact absurd ⟨_, _, _, _, _, rfl⟩ hk | cases h
        | cons y ys =>
          have h : (mS L.nm N sc s y && mSs L.nm N sc ss ys) = true := by cases s <;> first | exact absurd rfl hn | exact absurd ⟨_, rfl⟩ hf | exact absurd ⟨_, _, _, _, _, rfl⟩ hk | exact h
          obtain ⟨h1, h2⟩ := and2 h
          exact pss_of (t := tNever) (sS s g h1) (sSs ss g h2)
end
end
end Fw

/-! defs; the law's end -/
namespace Fw
open PySem PySem.Spec PyProof.Rows L2
open Evl (Ex ex_rd ex_l ex_t)

structure Df where
  nm : Str
  gn : Str
  ps : List Str
  N : List Str
  st : Stmt
  fn : Fn
def scB (N ps : List Str) (sc : Scope) : Bool :=
  decide (sc.kind = .function) && !sc.isCoroutine && !sc.isGenerator && decide N.Nodup && decide (N.take ps.length = ps)
  && ps.all (fun x => decide (sc.names.lookup x = some .local) || decide (sc.names.lookup x = some .cell)) && sc.names.all (fun y => !decide (y.2 = .free))
def chkH (L : Nm) (d : Df) : Bool := d.fn.su.isEmpty || (mSU L d.N (defScope d.st) (some 0) d.fn.su (defBody d.st) && decide (d.ps.length = 1) && decide (1 ≤ d.N.length))
def chk (L : Nm) (d : Df) : Bool := chkH L d && (mSs L d.N (defScope d.st) d.fn.body (defBody d.st) && decide (d.fn.np = d.ps.length) && decide (d.fn.nn = d.N.length) && scB d.N d.ps (defScope d.st))
theorem scB_ok {N ps : List Str} {sc : Scope} (h : scB N ps sc = true) : FnScope N ps sc := by
  unfold scB at h
  obtain ⟨h, h7⟩ := and2 h
  obtain ⟨h, h6⟩ := and2 h
  obtain ⟨h, h5⟩ := and2 h
  obtain ⟨h, h4⟩ := and2 h
  obtain ⟨h, h3⟩ := and2 h
  obtain ⟨h1, h2⟩ := and2 h
  refine ⟨of_decide_eq_true h1, by simpa using h2, by simpa using h3, of_decide_eq_true h4, of_decide_eq_true h5, fun x hx => ?_, fun y hy z => ?_⟩
  · have := List.all_eq_true.mp h6 x hx
    rw [Bool.or_eq_true] at this
    exact this.imp of_decide_eq_true of_decide_eq_true
  · have := List.all_eq_true.mp h7 y hy
    rw [decide_eq_true z] at this
    cases this
def HasDef (K : PySem.W.Frag) (mg : Str → Option Value) (d : Df) : Prop := ∃ fa fd, Fun K d.nm d.nm d.st fa fd ∧ mg d.gn = some (.ref fa) ∧ ∀ us : List Value, us.length = d.ps.length → bindArgs fd ⟨us, []⟩ = pure (d.ps.zip us)
section
variable {L : Lw} {P : Program} {w : World} {K : PySem.W.Frag} {mg : Str → Option Value} {base : Heap}
theorem start_ok {M H : Hp} {N : List Str} {ds : List D} {vs : List V} {fn : Fn} (e : Ex M H) (r : Reps K M ds vs) (hl : fn.nn = N.length) : OKs K H M H (L2.start N vs) (frame fn ds) := by
  have hlen := r.length
  have hs : (L2.start N vs).length = (frame fn ds).length := by
    unfold L2.start frame
    simp only [List.length_append, List.length_map, List.length_replicate]
    rw [hl, hlen]
  have own : ∀ (i : Nat) xs, (frame fn ds)[i]? ≠ some (.own xs) := fun i xs z => by
    unfold frame at z
    by_cases hi : i < ds.length
    · rw [List.getElem?_append_left (by simpa using hi), List.getElem?_map] at z
      cases q : ds[i]? with
      | none => rw [q] at z; cases z
      | some d => rw [q] at z; cases z
    · rw [List.getElem?_append_right (by simpa using hi)] at z
      have := List.mem_of_getElem? z
      rw [List.mem_replicate] at this
      cases this.2
  refine ⟨hs, fun i s d e1 e2 => ?_, fun i j xs ys p _ h _ _ => absurd h (own i xs), fun i xs p h _ => absurd h (own i xs), e, Evl.Ex.refl H⟩
  unfold L2.start at e1
  unfold frame at e2
  by_cases hi : i < ds.length
  · rw [List.getElem?_append_left (by simpa using hi), List.getElem?_map] at e2
    rw [List.getElem?_append_left (by simpa [← hlen] using hi), List.getElem?_map] at e1
    cases q : ds[i]? with
    | none => rw [q] at e2; cases e2
    | some d' =>
      rw [q] at e2
      cases e2
      obtain ⟨v, h1, h2⟩ := r.get q
      rw [h1] at e1
      cases e1
      exact ⟨v, rfl, h2⟩
  · rw [List.getElem?_append_right (by simpa using hi)] at e2
    have := List.mem_of_getElem? e2
    rw [List.mem_replicate] at this
    cases this.2
    trivial
theorem un_of {n : Nat} {A : Around} (hr : Room n A) : A.units + 65 < cLine := by have := hr.un; omega
theorem hotE_rep {M : Hp} {su : List SU} {ds : List D} {vs : List V} (r : Reps K M ds vs) : hotE su ds = none := by
  cases su with
  | nil => rfl
  | cons s ss =>
    cases r with
    | nil => rfl
    | cons a b =>
      cases b with
      | nil => cases a <;> rfl
      | cons _ _ => cases a <;> rfl
theorem run_eq {n f : Nat} {d : Df} {M : Hp} {vs : List V} {ds : List D} (hf : L.Γ[f]? = some d.fn) (r : Reps K M ds vs) : run L.Γ L.G (n + 1) f ds = if ds.length = d.fn.np then (noX (exsl L n d.fn.body (frame d.fn ds))).bind fin else .stuck := by
  show (match L.Γ[f]? with
    | some fn => match hotE fn.su ds with
      | some c => (noX (exU (run L.Γ L.G n) L.G c fn.su (List.replicate fn.nn .no))).bind fin
      | none => if ds.length = fn.np then (noX (exs (run L.Γ L.G n) L.G fn.body (frame fn ds))).bind fin else .stuck
    | none => .stuck) = _
  rw [hf]
  show (match hotE d.fn.su ds with
      | some c => (noX (exU (run L.Γ L.G n) L.G c d.fn.su (List.replicate d.fn.nn .no))).bind fin
      | none => if ds.length = d.fn.np then (noX (exs (run L.Γ L.G n) L.G d.fn.body (frame d.fn ds))).bind fin else .stuck) = _
  rw [hotE_rep r]
theorem run_hot {n f : Nat} {d : Df} {c : Nat} (hf : L.Γ[f]? = some d.fn) (hs : d.fn.su.isEmpty = false) : run L.Γ L.G (n + 1) f [.ins c []] = (noX (exUl L n c d.fn.su (List.replicate d.fn.nn .no))).bind fin := by
  show (match L.Γ[f]? with
    | some fn => match hotE fn.su [.ins c []] with
      | some c => (noX (exU (run L.Γ L.G n) L.G c fn.su (List.replicate fn.nn .no))).bind fin
      | none => if [D.ins c []].length = fn.np then (noX (exs (run L.Γ L.G n) L.G fn.body (frame fn [.ins c []]))).bind fin else .stuck
    | none => .stuck) = _
  rw [hf]
  cases hsu : d.fn.su with
  | nil => rw [hsu] at hs; cases hs
  | cons x xs =>
    show (match hotE d.fn.su [.ins c []] with
      | some c => (noX (exU (run L.Γ L.G n) L.G c d.fn.su (List.replicate d.fn.nn .no))).bind fin
      | none => _) = _
    rw [hsu]
    rfl
theorem no_ok {M H : Hp} {σ : L2.St} {k : Nat} (e : Ex M H) (hl : σ.length = k) : OKs K H M H σ (List.replicate k .no) := by
  have own : ∀ (i : Nat) (s : Sl), (List.replicate k Sl.no)[i]? = some s → s = .no := fun i s z => by
    have := List.mem_of_getElem? z
    rw [List.mem_replicate] at this
    exact this.2
  refine ⟨by rw [List.length_replicate]; exact hl, fun i s d e1 e2 => ?_, fun i j xs ys p _ h _ _ => ?_, fun i xs p h _ => ?_, e, Evl.Ex.refl H⟩
  · rw [own i d e2]; trivial
  · cases own i _ h
  · cases own i _ h
/-- a def that is called with the error -/
theorem fn_stepH {n f : Nat} {d : Df} {fa : Addr} {fd : FuncData} (ih : Facts L n P w K mg base) (hf : L.Γ[f]? = some d.fn) (cc : chk L.nm d = true) (hs : d.fn.su.isEmpty = false) (F : Fun K d.nm d.nm d.st fa fd) (hb : ∀ us : List Value, us.length = d.ps.length → bindArgs fd ⟨us, []⟩ = pure (d.ps.zip us)) : HotRun P w K mg base L (n + 1) f fa := by
  unfold chk at cc
  obtain ⟨ch, cc⟩ := and2 cc
  obtain ⟨cc, c4⟩ := and2 cc
  obtain ⟨cc, c3⟩ := and2 cc
  unfold chkH at ch
  rw [hs, Bool.false_or] at ch
  obtain ⟨ch, h3⟩ := and2 ch
  obtain ⟨h1, h2⟩ := and2 ch
  have h2 := of_decide_eq_true h2
  have h3 := of_decide_eq_true h3
  have c3 := of_decide_eq_true c3
  have S := scB_ok c4
  intro A outer s H a oe c Q E hr hot hpin e0 k2 km hz hfl hq
  obtain ⟨M, r, hex, hrun, q⟩ := hq
  rw [run_hot hf hs] at hrun
  obtain ⟨f1, z1, z2⟩ := R.bind_inv hrun
  have z1 := noX_inv z1
  have bnd := BindsTo.of_eq (s := s) (hb [.ref a] (by rw [h2]; rfl))
  obtain ⟨oc, od, kV, doc, pm, an, cdv, ct, osl, rfl, lk, hcd⟩ := F.ex
  have inK : K.In s.heap := e0.mod.kin.keeps fun b o z => (e0.bs b o z).1
  have lim : s.heap.NoLimit := e0.mod.nolimit.keeps fun b o z => (e0.bs b o z).1
  have hv : Vals [V.ref a] [Value.ref a] := .cons rfl .nil
  refine codeAny_call_function hr.depth (inK _ _ lk) rfl S.co S.gen rfl (PySem.W.codeRec_of inK hcd) (bnd _ _ _ _ ?_)
  refine wpAny_newFunctionEnv_cells S.kind (fun z hz => ?_) fun env he s1 x => ?_
  · obtain ⟨nm, val⟩ := z
    rcases S.par nm (List.of_mem_zip hz).1 with k | k
    · exact .inl k
    · exact .inr ⟨k, PySem.W.cellsFrom_some _ _ _ (.inl k)⟩
  subst he
  refine ⟨lim.keeps x.toInCall.keep, codeAny_func ?_⟩
  have I : Inv (L2H.cxH CX0 P w K mg base d.N d.nm (defScope d.st) fa cdv A outer s H E (a, oe)) [] (L2.start d.N [.ref a]) H s1 := L2H.inv_startH S hpin e0 (by rw [h2]; rfl) hv x
  have g : Sui L n d.N (defScope d.st) (L2H.cxH CX0 P w K mg base d.N d.nm (defScope d.st) fa cdv A outer s H E (a, oe)) a c :=
    ⟨⟨⟨ih.calls, ih.globs, ih.blts, ih.enm, fun c a b => ⟨(ih.excs c a b).own, (ih.excs c a b).sub⟩, ih.hots⟩, hr.deeper _, (fun z => by cases z), (fun z => by cases z), (fun z => by cases z), rfl, S.nd, rfl⟩, ⟨oe, List.mem_cons_self, hot, hz, hfl⟩, k2, km⟩
  have hst : (L2.start d.N [.ref a]).length = d.fn.nn := by
    unfold L2.start
    rw [List.length_append, List.length_map, List.length_replicate, c3]
    show 1 + (d.N.length - 1) = d.N.length
    omega
  refine wpAny_mono ((sSU (wx := wx0) g d.fn.su h1).run [] s1 _ H { nx := fun _ H' => Q .non H', rt := Q } I ⟨rfl, M, H, M, _, f1, Xt.refl hex, no_ok hex hst, z1, ?_⟩) (fun fl s' hsp => ?_) fun z s' hx => hx
  · cases f1 with
    | nx δ => cases z2; exact fun M' H' σ x _ => q M' H' _ x .non
    | rt dd k =>
      rcases exU_f z1 with zz | ⟨d2, zz⟩
      · cases zz
      · cases zz
        cases z2
        exact fun M' H' v x rr => q M' H' v x rr
    | bk δ => cases z2
    | ct δ => cases z2
    | ex cx δ => cases z2
  · cases fl with
    | ret u =>
      obtain ⟨v, σ', H', J, rv, q2⟩ := hsp
      exact ⟨v, H', J.os, J.bare, J.base, J.hok, rv, q2⟩
    | next =>
      obtain ⟨σ', H', J, q2⟩ := hsp
      exact ⟨V.non, H', J.os, J.bare, J.base, J.hok, rfl, q2⟩
    | brk =>
      obtain ⟨_, _, _, q2⟩ := hsp
      exact False.elim q2
    | cont =>
      obtain ⟨_, _, _, q2⟩ := hsp
      exact False.elim q2
theorem fn_step {n f : Nat} {d : Df} {fa : Addr} {fd : FuncData} (ih : Facts L n P w K mg base) (hcold : L.nm.hot = false) (hf : L.Γ[f]? = some d.fn) (c : chk L.nm d = true) (F : Fun K d.nm d.nm d.st fa fd) : FnOk P w K mg base CX0 (3 * (n + 1)) fa fd d.ps (spF K L (n + 1) f) := by
  show FnOk P w K mg base CX0 (3 * n + 2 + 1) fa fd d.ps (spF K L (n + 1) f)
  unfold chk at c
  obtain ⟨_, c⟩ := and2 c
  obtain ⟨c, c4⟩ := and2 c
  obtain ⟨c, c3⟩ := and2 c
  obtain ⟨c1, c2⟩ := and2 c
  have c2 := of_decide_eq_true c2
  have c3 := of_decide_eq_true c3
  have S := scB_ok c4
  refine F.ok S (fun vs H Q E h => ?_) fun cdv A outer s H vs Q E hr h => ?_
  · obtain ⟨M, ds, r, _, rr, z, _⟩ := h
    rw [run_eq hf rr] at z
    by_cases hl : ds.length = d.fn.np
    · rw [← rr.length, hl, c2]
    · rw [if_neg hl] at z; cases z
  · obtain ⟨M, ds, r, e, rr, z, q⟩ := h
    rw [run_eq hf rr] at z
    by_cases hl : ds.length = d.fn.np
    · rw [if_pos hl] at z
      obtain ⟨f1, z1, z2⟩ := R.bind_inv z
      have z1 := noX_inv z1
      have g : GoodS L n d.N (defScope d.st) (cxOf CX0 P w K mg base d.N d.nm (defScope d.st) fa cdv A outer s H E).nox wx0 :=
        ⟨⟨ih, (L2H.roomH_of hr).mono (by omega), fun _ => hr.mono (by omega), fun _ => (hr.in1 : Room (3 * n + 1) _).in1, fun _ => rfl, rfl, S.nd, rfl⟩, hcold, rfl, rfl, ⟨_, takesN0, fun _ _ _ z => z⟩, S.kind, fun _ => rfl, PassesOwn.never⟩
      refine ⟨_, sSs d.fn.body g c1, M, H, M, _, f1, Xt.refl e, start_ok e rr c3, z1, ?_⟩
      cases f1 with
      | nx δ => cases z2; exact fun M' H' σ x _ => q M' H' _ x .non
      | rt d k => cases z2; exact q
      | bk δ => cases z2
      | ct δ => cases z2
      | ex c δ => cases z2
    · rw [if_neg hl] at z; cases z
theorem fn_stepX {n f : Nat} {d : Df} {fa : Addr} {fd : FuncData} (ih : Facts L n P w K mg base) (hcold : L.nm.hot = false) (hf : L.Γ[f]? = some d.fn) (c : chk L.nm d = true) (F : Fun K d.nm d.nm d.st fa fd) : FnOk P w K mg base (L2N.CX P w) (3 * (n + 1)) fa fd d.ps (spX K L (cvOf mg L.nm) (n + 1) f) := by
  show FnOk P w K mg base (L2N.CX P w) (3 * n + 2 + 1) fa fd d.ps (spX K L (cvOf mg L.nm) (n + 1) f)
  unfold chk at c
  obtain ⟨_, c⟩ := and2 c
  obtain ⟨c, c4⟩ := and2 c
  obtain ⟨c, c3⟩ := and2 c
  obtain ⟨c1, c2⟩ := and2 c
  have c2 := of_decide_eq_true c2
  have c3 := of_decide_eq_true c3
  have S := scB_ok c4
  obtain ⟨oc, od, kV, doc, pm, an, cdv, ct, osl, rfl, lk, hcd⟩ := F.ex
  have out : ∀ (ds : List D) (M : Hp) (vs : List V), Reps K M ds vs → run L.Γ L.G (n + 1) f ds ≠ .stuck → ds.length = d.fn.np ∧ ∃ f1, exsl L n d.fn.body (frame d.fn ds) = .ok f1 ∧ run L.Γ L.G (n + 1) f ds = fin f1 := fun ds M vs rr z => by
    rw [run_eq hf rr] at z ⊢
    by_cases hl : ds.length = d.fn.np
    · rw [if_pos hl] at z ⊢
      refine ⟨hl, ?_⟩
      cases h : exsl L n d.fn.body (frame d.fn ds) with
      | ok f1 => exact ⟨f1, rfl, rfl⟩
      | exc c => rw [h] at z; exact absurd rfl z
      | stuck => rw [h] at z; exact absurd rfl z
    · rw [if_neg hl] at z; exact absurd rfl z
  refine fn_of lk hcd S (fun vs H Q E h => ?_) fun A outer s H vs Q E hr h => ?_
  · obtain ⟨M, ds, _, rr, z⟩ := h
    have ns : run L.Γ L.G (n + 1) f ds ≠ .stuck := by
      rcases z with ⟨r, z, _⟩ | ⟨c, z, _⟩ <;> rw [z] <;> exact fun z => nomatch z
    rw [← rr.length, (out ds _ _ rr ns).1, c2]
  · obtain ⟨M, ds, e, rr, z⟩ := h
    have ns : run L.Γ L.G (n + 1) f ds ≠ .stuck := by
      rcases z with ⟨r, z, _⟩ | ⟨c, z, _⟩ <;> rw [z] <;> exact fun z => nomatch z
    obtain ⟨hl, f1, z1, z2⟩ := out ds _ _ rr ns
    have g : GoodS L n d.N (defScope d.st) (cxOf (L2N.CX P w) P w K mg base d.N d.nm (defScope d.st) fa cdv A outer s H E) (fun c _ H => E (cvOf mg L.nm c) none H) :=
      ⟨⟨ih, (L2H.roomH_of hr).mono (by omega), fun _ => hr.mono (by omega), fun _ => (hr.in1 : Room (3 * n + 1) _).in1, fun _ => rfl, rfl, S.nd, rfl⟩, hcold, rfl, rfl, ⟨_, L2N.takes_of rfl rfl rfl rfl, fun _ _ _ z => z⟩, S.kind, fun _ => rfl, passes_of rfl⟩
    refine ⟨_, sSs d.fn.body g c1, M, H, M, _, f1, Xt.refl e, start_ok e rr c3, z1, ?_⟩
    rw [z2] at z
    rcases z with ⟨r, z, q⟩ | ⟨c, z, q⟩
    · cases f1 with
      | nx δ => cases z; exact fun M' H' σ x _ => q M' H' _ x .non
      | rt d k => cases z; exact q
      | bk δ => cases z
      | ct δ => cases z
      | ex c δ => cases z
    · cases f1 with
      | nx δ => cases z
      | rt d k => cases z
      | bk δ => cases z
      | ct δ => cases z
      | ex c δ => cases z; exact fun M' H' σ x _ => q M' H' x
theorem facts {defs : List Df} (hΓ : L.Γ = defs.map (·.fn)) (hFN : L.nm.FN = defs.map (·.gn)) (hc : ∀ d ∈ defs, chk L.nm d = true) (hK : ∀ d ∈ defs, HasDef K mg d)
    (hG : ∀ (g : Nat) x d, L.nm.GN[g]? = some x → L.G[g]? = some d → ∃ v u, mg x = some u ∧ RelV v u ∧ ∀ M, Rep K M d v) (hB : ∀ x ∈ L.nm.BN, mg x = none) (hE : ∀ (c : Nat) x, L.nm.EN[c]? = some x → (mg x = some (cvOf mg L.nm c) ∨ (mg x = none ∧ bootBuiltins x = some (cvOf mg L.nm c) ∧ x ≠ "__name__")) ∧ (x == ("__debug__" : Str)) = false ∧ ∃ v, RelV v (cvOf mg L.nm c) ∧ ∀ u, RelV v u → u = cvOf mg L.nm c)
    (hR : ∀ c, 2 ≤ c → c < L.nm.RN → ROk K mg L.nm c) (hcold : L.nm.hot = false) (hH : ∀ f ∈ L.nm.HF, ∃ d, defs[f]? = some d ∧ d.fn.su.isEmpty = false) : ∀ n, Facts L n P w K mg base := by
  intro n
  induction n with
  | zero =>
    refine ⟨fun f x hx => ?_, hG, hB, hE, hR, fun f x hfH hx => ?_⟩
    rw [hFN, List.getElem?_map] at hx
    cases q : defs[f]? with
    | none => rw [q] at hx; cases hx
    | some d =>
      rw [q] at hx
      cases hx
      obtain ⟨fa, fd, F, hm, hb⟩ := hK d (List.mem_of_getElem? q)
      refine ⟨fa, fd, d.ps, hm, F.kp, .all hb, fun vs H Q E h => ?_, fun A outer s H args us vs Q E _ _ _ _ h => ?_⟩
      · obtain ⟨M, ds, _, _, z⟩ := h
        rcases z with ⟨_, z, _⟩ | ⟨_, z, _⟩ <;> cases z
      · obtain ⟨M, ds, _, _, z⟩ := h
        rcases z with ⟨_, z, _⟩ | ⟨_, z, _⟩ <;> cases z
    obtain ⟨d, q, hs⟩ := hH f hfH
    rw [hFN, List.getElem?_map, q] at hx
    cases hx
    obtain ⟨fa, fd, F, hm, hb⟩ := hK d (List.mem_of_getElem? q)
    exact ⟨fa, hm, F.kp, fun A outer s H a oe c Q E _ _ _ _ _ _ _ _ h => by
      obtain ⟨M, r, _, z, _⟩ := h
      cases z⟩
  | succ n ih =>
    refine ⟨fun f x hx => ?_, hG, hB, hE, hR, fun f x hfH hx => ?_⟩
    rw [hFN, List.getElem?_map] at hx
    cases q : defs[f]? with
    | none => rw [q] at hx; cases hx
    | some d =>
      rw [q] at hx
      cases hx
      obtain ⟨fa, fd, F, hm, hb⟩ := hK d (List.mem_of_getElem? q)
      exact ⟨fa, fd, d.ps, hm, F.kp, .all hb, fn_stepX ih hcold (by rw [hΓ, List.getElem?_map, q]; rfl) (hc d (List.mem_of_getElem? q)) F⟩
    obtain ⟨d, q, hs⟩ := hH f hfH
    rw [hFN, List.getElem?_map, q] at hx
    cases hx
    obtain ⟨fa, fd, F, hm, hb⟩ := hK d (List.mem_of_getElem? q)
    exact ⟨fa, hm, F.kp, fn_stepH ih (by rw [hΓ, List.getElem?_map, q]; rfl) (hc d (List.mem_of_getElem? q)) hs F hb⟩
/-- a def of the text, by what the top has written -/
theorem has_mk {h : Heap} {d : Df} {f : Addr} {oc : Value} {od an : Option Addr} {osl : Array (Option Value)} {kV doc pm cdv ct : Value} (X : K.In h) (G : h.Ns mainGlobals mg) (a : PySem.W.nsIn K mainGlobals d.gn = some (some (.ref f)))
    (l : K.lookup f = some ⟨oc, od, .func (PySem.W.fnOf d.nm d.nm (defArgs d.st) (defBody d.st) (defScope d.st) .none kV doc pm an cdv ct), osl⟩) (c : PySem.W.codeIn K cdv d.nm = true) (k : PySem.W.keepIn K (.ref f) = true)
    (hb : ∀ (kV doc pm : Value) (an : Option Addr) (cdv ct : Value) (us : List Value), us.length = d.ps.length → bindArgs (PySem.W.fnOf d.nm d.nm (defArgs d.st) (defBody d.st) (defScope d.st) .none kV doc pm an cdv ct) ⟨us, []⟩ = pure (d.ps.zip us)) : HasDef K mg d := by
  have F := fun_mk (x := d.nm) (qual := d.nm) (st := d.st) l c k
  exact ⟨f, _, F, PySem.W.mg_of X G a, hb _ _ _ _ _ _⟩
/-- a whole number as a constant -/
theorem glob_int {h : Heap} {x : Str} {i : Int} (X : K.In h) (G : h.Ns mainGlobals mg) {t : Nat} (a : PySem.W.nsIn K mainGlobals x = some (some (.int i t))) : ∃ v u, mg x = some u ∧ RelV v u ∧ ∀ M, Rep K M (.int i) v :=
  ⟨.int i, _, PySem.W.mg_of X G a, ⟨t, rfl⟩, fun M => .int i⟩
theorem glob_str {h : Heap} {x : Str} {z : List Nat} (ok : okB z = true) (X : K.In h) (G : h.Ns mainGlobals mg) {t : Nat} (a : PySem.W.nsIn K mainGlobals x = some (some (.str ⟨z.toArray⟩ t))) : ∃ v u, mg x = some u ∧ RelV v u ∧ ∀ M, Rep K M (.str z) v :=
  ⟨.str ⟨z.toArray⟩, _, PySem.W.mg_of X G a, ⟨t, rfl⟩, fun M => .str z fun c hc => of_decide_eq_true (List.all_eq_true.mp ok c hc)⟩
/-- a tuple of texts as a constant -/
def strVals : List (List Nat) → List Nat → List Value
  | z :: zs, t :: ts => .str ⟨z.toArray⟩ t :: strVals zs ts
  | _, _ => []
theorem strs_vals {M : Hp} : ∀ {zs : List (List Nat)} {ts : List Nat}, zs.length = ts.length → zs.all okB = true → ∃ vs, Reps K M (zs.map .str) vs ∧ Vals vs (strVals zs ts) ∧ vs.length = zs.length ∧ vs = zs.map fun z => V.str ⟨z.toArray⟩
  | [], [], _, _ => ⟨[], .nil, .nil, rfl, rfl⟩
  | [], _ :: _, h, _ => by cases h
  | _ :: _, [], h, _ => by cases h
  | z :: zs, t :: ts, h, ok => by
    rw [List.all_cons, Bool.and_eq_true] at ok
    obtain ⟨vs, h1, h2, h3, h4⟩ := strs_vals (M := M) (zs := zs) (ts := ts) (by simpa using h) ok.2
    exact ⟨.str ⟨z.toArray⟩ :: vs, .cons (.str z fun c hc => of_decide_eq_true (List.all_eq_true.mp ok.1 c hc)) h1, .cons ⟨t, rfl⟩ h2, by simp [h3], by rw [h4]; rfl⟩
theorem glob_strs {h : Heap} {x : Str} {zs : List (List Nat)} {ts : List Nat} (hl : zs.length = ts.length) (ok : zs.all okB = true) (hz : zs.length ≤ 1000) (X : K.In h) (G : h.Ns mainGlobals mg) {p : Addr} {dd : Option Addr} {n : Nat} {sl : Array (Option Value)}
    (a : PySem.W.nsIn K mainGlobals x = some (some (.ref p))) (l : K.lookup p = some ⟨.type "tuple", dd, .seq (strVals zs ts).toArray n, sl⟩) : ∃ v u, mg x = some u ∧ RelV v u ∧ ∀ M, Rep K M (.tup (zs.map .str)) v := by
  refine ⟨.ref p, _, PySem.W.mg_of X G a, rfl, fun M => ?_⟩
  obtain ⟨vs, h1, h2, h3, _⟩ := strs_vals (K := K) (M := M) hl ok
  refine .tup (.inr ⟨_, _, n, l, rfl, rfl, ?_, by simpa using h2⟩) h1
  rw [List.size_toArray, ← h2.length, h3]
  have : (1000 : Nat) ≤ sizeLine := by decide
  omega
/-! ### the exceptions' classes -/
theorem cv_own {L : Nm} {h : Nat} {x : Str} {v : Value} (hx : L.EN[h]? = some x) (hm : mg x = some v) : cvOf mg L h = v := by
  unfold cvOf
  rw [hx]
  show (mg x).getD _ = v
  rw [hm]; rfl
theorem cv_blt {L : Nm} {h : Nat} {x : Str} {v : Value} (hx : L.EN[h]? = some x) (hm : mg x = none) (hb : bootBuiltins x = some v) : cvOf mg L h = v := by
  unfold cvOf
  rw [hx]
  show (mg x).getD ((bootBuiltins x).getD .none) = v
  rw [hm, hb]; rfl
def EnOk (mg : Str → Option Value) (L : Nm) (c : Nat) (x : Str) : Prop := (mg x = some (cvOf mg L c) ∨ (mg x = none ∧ bootBuiltins x = some (cvOf mg L c) ∧ x ≠ "__name__")) ∧ (x == ("__debug__" : Str)) = false ∧ ∃ v, RelV v (cvOf mg L c) ∧ ∀ u, RelV v u → u = cvOf mg L c
theorem en_own {L : Nm} {c : Nat} {x : Str} {C : Addr} (hx : L.EN[c]? = some x) (hm : mg x = some (.ref C)) (hd : (x == ("__debug__" : Str)) = false) : EnOk mg L c x := by
  have e := cv_own hx hm
  unfold EnOk
  rw [e]
  exact ⟨.inl hm, hd, .ref C, rfl, fun u r => r⟩
theorem en_blt {L : Nm} {c : Nat} {x : Str} {T : String} (hx : L.EN[c]? = some x) (hm : mg x = none) (hb : bootBuiltins x = some (.type T)) (hn : x ≠ "__name__") (hd : (x == ("__debug__" : Str)) = false) : EnOk mg L c x := by
  have e := cv_blt hx hm hb
  unfold EnOk
  rw [e]
  exact ⟨.inr ⟨hm, hb, hn⟩, hd, .ty T, rfl, fun u r => r⟩
def SubOk (K : PySem.W.Frag) (t c : Value) (b : Bool) : Prop := PySem.W.exmOne K t c = some b ∧ PySem.W.kitOne K t c = some b
theorem sub_own {C Ch : Addr} {b : Bool} (hs : PySem.W.subIn K (.ref C) (.ref C) = some true) (h1 : PySem.W.subIn K (.ref Ch) (.type "BaseException") = some true) (h2 : PySem.W.isClsIn K Ch = true) (h3 : PySem.W.typeIn K (.ref Ch) = some (.type "type")) (h4 : PySem.W.subIn K (.ref C) (.ref Ch) = some b) : SubOk K (.ref C) (.ref Ch) b := by
  have e1 : (PySem.W.subIn K (.ref Ch) (.type "BaseException") == some true) = true := by rw [h1] <;> rfl
  have e2 : ((PySem.W.clsIn K Ch).isSome && PySem.W.typeIn K (.ref Ch) == some (.type "type")) = true := by
    have h2' : (PySem.W.clsIn K Ch).isSome = true := h2
    rw [h2', h3] <;> rfl
  have e3 : PySem.W.kitCls K (.ref C) (.ref Ch) = some b := by
    show (if ((PySem.W.clsIn K Ch).isSome && PySem.W.typeIn K (.ref Ch) == some (.type "type")) = true then PySem.W.subIn K (.ref C) (.ref Ch) else none) = some b
    rw [if_pos e2]
    exact h4
  refine ⟨?_, ?_⟩
  · show (if (PySem.W.subIn K (.ref Ch) (.type "BaseException") == some true) = true then PySem.W.kitCls K (.ref C) (.ref Ch) else none) = some b
    rw [if_pos e1]
    exact e3
  · show (if (Value.ref C == Value.ref Ch) = true then some true else PySem.W.kitCls K (.ref C) (.ref Ch)) = some b
    by_cases hc : (Value.ref C == Value.ref Ch) = true
    · rw [if_pos hc]
      have e := beq_iff_eq.mp hc
      rw [← e, hs] at h4
      exact h4
    · rw [if_neg hc]; exact e3
theorem sub_ve {C : Addr} (h4 : PySem.W.subIn K (.ref C) (.type "ValueError") = some true) : SubOk K (.ref C) (.type "ValueError") true := by
  have e3 : PySem.W.kitCls K (.ref C) (.type "ValueError") = some true := by
    show (if PySem.W.kitMeta "ValueError" = true then PySem.W.subIn K (.ref C) (.type "ValueError") else none) = some true
    rw [if_pos (by decide +kernel)]
    exact h4
  refine ⟨?_, ?_⟩
  · show (if (PySem.W.subIn K (.type "ValueError") (.type "BaseException") == some true) = true then PySem.W.kitCls K (.ref C) (.type "ValueError") else none) = some true
    have e4 : (PySem.W.subIn K (.type "ValueError") (.type "BaseException") == some true) = true := (show ((PySem.fastBuiltinMro "ValueError").map (·.contains (Value.type "BaseException")) == some true) = true by decide +kernel)
    rw [if_pos e4]
    exact e3
  · show (if (Value.ref C == Value.type "ValueError") = true then some true else PySem.W.kitCls K (.ref C) (.type "ValueError")) = some true
    rw [if_neg (by intro h; have := beq_iff_eq.mp h; cases this)]
    exact e3
theorem rok_mk {L : Nm} {c : Nat} {x : Str} {C : Addr} (hx : L.EN[c]? = some x) (hm : mg x = some (.ref C)) (k1 : PySem.W.excIn K C veB "ValueError.__new__" = true) (k2 : PySem.W.keepIn K (.ref C) = true) (k3 : PySem.W.subIn K (.ref C) (.type "BaseException") = some true) (k4 : PySem.W.typeIn K (.ref C) = some (.type "type"))
    (hg : PySem.W.findIn K (.ref C) "__getattribute__" = some (some (.builtin "BaseException.__getattribute__"))) (hk : PySem.W.findIn K (.ref C) "__getattr__" = some none) (hd : PySem.W.hasDictIn K C = true) (ha : PySem.W.findIn K (.ref C) "__class__" = some (some (.builtin "object.__class__")))
    (hn : PySem.W.specialIn K (.builtin "object.__class__") "__get__" = some (some (.builtin "getset_descriptor.__get__"))) (ht : PySem.W.takesIn K (.builtin "object.__class__") = some true) (ho : PySem.W.mroIn K C (.type "object") = some true)
    (sub : ∀ h, h < L.EN.length → SubOk K (.ref C) (cvOf mg L h) (subc c h)) : ROk K mg L c := by
  have e := cv_own hx hm
  refine ⟨⟨C, fun y hy => ?_, e, k1, k2, k3, k4, ⟨hg, hk, k3, hd, ha, hn, ht, ho⟩⟩, fun h hh => ?_⟩
  · rw [hx] at hy; cases hy; exact hm
  · rw [e]; exact sub h hh
/-- the law's own def -/
theorem law_F {defs : List Df} {n fl : Nat} {d : Df} {x : Str} {fa : Addr} (hcold : L.nm.hot = false) (hF : ∀ base : Heap, Facts L n P w K mg base) (hΓ : L.Γ = defs.map (·.fn)) (hc : ∀ d ∈ defs, chk L.nm d = true) (hK : ∀ d ∈ defs, HasDef K mg d) (hd : defs[fl]? = some d) (hp : d.ps = [x]) (hm : mg d.gn = some (.ref fa)) :
    ∃ fd : FuncData, (∀ (s : Shared) (u : Value), BindsTo s fd ⟨[u], []⟩ [(x, u)]) ∧ ∀ base : Heap, K.In base → base.Ns mainGlobals mg → FnOk P w K mg base CX0 (3 * (n + 1)) fa fd [x] (spF K L (n + 1) fl) := by
  obtain ⟨fa', fd, F, hm', hb⟩ := hK d (List.mem_of_getElem? hd)
  rw [hm] at hm'
  cases hm'
  refine ⟨fd, fun s u => .of_eq ?_, fun base _ _ => ?_⟩
  · have := hb [u] (by rw [hp]; rfl)
    rw [hp] at this
    exact this
  · have := fn_step (hF base) hcold (by rw [hΓ, List.getElem?_map, hd]; rfl) (hc d (List.mem_of_getElem? hd)) F
    rw [hp] at this
    exact this
/-- the law's promise at a script -/
theorem law_S {n fl : Nat} {H : Hp} {a : Addr} {ns : List Int} {b : Bool} (h : run L.Γ L.G n fl [.lst (ns.map .int)] = .ok (.bl true, b)) (hS : SqL K H a (ns.map V.int)) : spF K L n fl [.ref a] H (fun v _ => v = .bl true) fun _ _ _ => False := by
  refine ⟨H, _, _, Evl.Ex.refl H, .cons (.lst hS (Reps.ints ns)) .nil, h, fun M' H' v x r => ?_⟩
  cases b with
  | false => cases r; rfl
  | true => obtain ⟨_, _, _, z, _⟩ := r; cases z
end
end Fw

/-! the small language by rules: what simp knows of it -/
namespace Fw
def onB {α : Type} (d : D) (a b : R α) : R α := match d with
  | .bl true => a
  | .bl false => b
  | _ => .stuck
@[simp] theorem onB_bl {α : Type} (b : Bool) (x y : R α) : onB (.bl b) x y = if b = true then x else y := by cases b <;> rfl
def asB : D → R D
  | .bl b => .ok (.bl b)
  | _ => .stuck
@[simp] theorem asB_bl (b : Bool) : asB (.bl b) = .ok (.bl b) := (rfl)
def notB' : D → R D
  | .bl b => .ok (.bl (!b))
  | _ => .stuck
@[simp] theorem notB'_bl (b : Bool) : notB' (.bl b) = .ok (.bl (!b)) := (rfl)
def thenF (k : En → R F) : F → R F
  | .nx δ => k δ
  | .rt d b => .ok (.rt d b)
  | .bk δ => .ok (.bk δ)
  | .ct δ => .ok (.ct δ)
  | .ex c δ => .ok (.ex c δ)
@[simp] theorem thenF_ex (k : En → R F) (c : Nat) (δ : En) : thenF k (.ex c δ) = .ok (.ex c δ) := (rfl)
@[simp] theorem thenF_nx (k : En → R F) (δ : En) : thenF k (.nx δ) = k δ := (rfl)
@[simp] theorem thenF_rt (k : En → R F) (d : D) (b : Bool) : thenF k (.rt d b) = .ok (.rt d b) := (rfl)
@[simp] theorem thenF_bk (k : En → R F) (δ : En) : thenF k (.bk δ) = .ok (.bk δ) := (rfl)
@[simp] theorem thenF_ct (k : En → R F) (δ : En) : thenF k (.ct δ) = .ok (.ct δ) := (rfl)
def loopF (k : En → R F) : F → R F
  | .nx δ => k δ
  | .ct δ => k δ
  | .bk δ => .ok (.nx δ)
  | .rt d b => .ok (.rt d b)
  | .ex c δ => .ok (.ex c δ)
@[simp] theorem loopF_ex (k : En → R F) (c : Nat) (δ : En) : loopF k (.ex c δ) = .ok (.ex c δ) := (rfl)
@[simp] theorem loopF_nx (k : En → R F) (δ : En) : loopF k (.nx δ) = k δ := (rfl)
@[simp] theorem loopF_rt (k : En → R F) (d : D) (b : Bool) : loopF k (.rt d b) = .ok (.rt d b) := (rfl)
@[simp] theorem loopF_bk (k : En → R F) (δ : En) : loopF k (.bk δ) = .ok (.nx δ) := (rfl)
@[simp] theorem loopF_ct (k : En → R F) (δ : En) : loopF k (.ct δ) = k δ := (rfl)
@[simp] theorem bind_ite {α β : Type} (p : Prop) [Decidable p] (x y : R α) (f : α → R β) : (if p then x else y).bind f = if p then x.bind f else y.bind f := by split <;> rfl
theorem bind_congr {α β : Type} {r : R α} {f g : α → R β} (h : ∀ a, f a = g a) : r.bind f = r.bind g := by rw [show f = g from funext h]
@[simp] theorem bind_exc {α β : Type} (c : Nat) (f : α → R β) : (R.exc c).bind f = .exc c := (rfl)
@[simp] theorem bind_stuck {α β : Type} (f : α → R β) : (R.stuck).bind f = .stuck := (rfl)
@[simp] theorem bind_bind {α β γ : Type} (r : R α) (f : α → R β) (g : β → R γ) : (r.bind f).bind g = r.bind fun a => (f a).bind g := by cases r <;> rfl
@[simp] theorem noX_bind {α β : Type} (r : R α) (f : α → R β) : noX (r.bind f) = (noX r).bind fun a => noX (f a) := by cases r <;> rfl
@[simp] theorem noX_ite {α : Type} (p : Prop) [Decidable p] (x y : R α) : noX (if p then x else y) = if p then noX x else noX y := by split <;> rfl
@[simp] theorem noX_req {α : Type} (p : Prop) [Decidable p] (x : R α) : noX (req p x) = req p (noX x) := by unfold req; split <;> rfl
@[simp] theorem noX_noX {α : Type} (r : R α) : noX (noX r) = noX r := by cases r <;> rfl
@[simp] theorem noX_stuck {α : Type} : noX (R.stuck : R α) = .stuck := (rfl)
@[simp] theorem noX_ex {α : Type} (c : Nat) : noX (R.exc c : R α) = .stuck := (rfl)
@[simp] theorem bind_req {α β : Type} (p : Prop) [Decidable p] (x : R α) (f : α → R β) : (req p x).bind f = req p (x.bind f) := by unfold req; split <;> rfl
theorem req_if {α : Type} (p : Prop) [Decidable p] (x : R α) : req p x = if p then x else .stuck := (rfl)
@[simp] theorem req_true {α : Type} (x : R α) : req True x = x := (rfl)
section
variable (C : Nat → List D → R (D × Bool)) (G : List D) (m : Md) (δ : En)
@[simp] theorem post_val (d : D) : post .val d = .ok d := (rfl)
@[simp] theorem post_bor (d : D) : post .bor d = .ok d := (rfl)
@[simp] theorem post_val' : post .val = R.ok := (rfl)
@[simp] theorem post_bor' : post .bor = R.ok := (rfl)
@[simp] theorem post_test (d : D) : post .test d = (tru d).bind fun b => .ok (.bl b) := (rfl)
@[simp] theorem bind_ok' {α : Type} (r : R α) : r.bind R.ok = r := by cases r <;> rfl
@[simp] theorem bind_ok'' {α : Type} (r : R α) : (r.bind fun x => R.ok x) = r := by cases r <;> rfl
@[simp] theorem getV_dat (d : D) : getV m (some (.dat d)) = .ok d := by cases m <;> rfl
@[simp] theorem getV_bor (xs : List D) : getV .bor (some (.own xs)) = .ok (.lst xs) := (rfl)
@[simp] theorem getV_test (xs : List D) : getV .test (some (.own xs)) = .ok (.lst xs) := (rfl)
@[simp] theorem getV_val (xs : List D) : getV .val (some (.own xs)) = .stuck := (rfl)
@[simp] theorem getV_no : getV m (some .no) = .stuck := by cases m <;> rfl
@[simp] theorem ev_var (i : Nat) : ev C G m (.var i) δ = (getV m δ[i]?).bind (post m) := (rfl)
@[simp] theorem ev_int (i : Int) : ev C G m (.int i) δ = post m (.int i) := (rfl)
@[simp] theorem ev_str (s : List Nat) : ev C G m (.str s) δ = post m (.str s) := (rfl)
@[simp] theorem ev_bl (b : Bool) : ev C G m (.bl b) δ = .ok (.bl b) := (rfl)
@[simp] theorem ev_non : ev C G m .non δ = post m .non := (rfl)
def gl (m : Md) : Option D → R D
  | some d => post m d
  | none => .stuck
@[simp] theorem gl_some (d : D) : gl m (some d) = post m d := (rfl)
@[simp] theorem ev_glob (g : Nat) : ev C G m (.glob g) δ = gl m G[g]? := (rfl)
@[simp] theorem ev_op (o : Op2) (a b : E) : ev C G m (.op o a b) δ = (ev C G .bor a δ).bind fun x => (ev C G .bor b δ).bind fun y => (op2 o x y).bind (post m) := (rfl)
def ngD : D → R D
  | .int i => .ok (.int (-i))
  | _ => .stuck
@[simp] theorem ngD_int (i : Int) : ngD (.int i) = .ok (.int (-i)) := (rfl)
@[simp] theorem ev_neg (a : E) : ev C G m (.neg a) δ = (ev C G .val a δ).bind fun x => (ngD x).bind (post m) := by
  exact bind_congr fun z => by cases z <;> rfl
@[simp] theorem ev_cmp (c : Cp) (a b : E) : ev C G m (.cmp c a b) δ = (ev C G .bor a δ).bind fun x => (ev C G .bor b δ).bind fun y => (cmpD c x y).bind fun k => .ok (.bl k) := (rfl)
@[simp] theorem ev_chain (c c' : Cp) (a b d : E) : ev C G m (.chain c c' a b d) δ = (ev C G .bor a δ).bind fun x => (ev C G .bor b δ).bind fun y => (cmpD c x y).bind fun k =>
      if k = true then (ev C G .bor d δ).bind fun z => (cmpD c' y z).bind fun k' => .ok (.bl k') else .ok (.bl false) := (rfl)
def isNo : D → Bool
  | .non => true
  | _ => false
@[simp] theorem ev_isN (a : E) : ev C G m (.isN a) δ = (ev C G .bor a δ).bind fun x => .ok (.bl (isNo x)) := by
  exact bind_congr fun z => by cases z <;> rfl
@[simp] theorem ev_notN (a : E) : ev C G m (.notN a) δ = (ev C G .bor a δ).bind fun x => .ok (.bl (!isNo x)) := by
  exact bind_congr fun z => by cases z <;> rfl
@[simp] theorem isNo_non : isNo .non = true := (rfl)
@[simp] theorem isNo_int (i : Int) : isNo (.int i) = false := (rfl)
@[simp] theorem isNo_bl (i : Bool) : isNo (.bl i) = false := (rfl)
@[simp] theorem isNo_str (i : List Nat) : isNo (.str i) = false := (rfl)
@[simp] theorem isNo_lst (i : List D) : isNo (.lst i) = false := (rfl)
@[simp] theorem isNo_tup (i : List D) : isNo (.tup i) = false := (rfl)
@[simp] theorem isNo_dct (i : List DK) (j : List D) : isNo (.dct i j) = false := (rfl)
def isBD (b : Bool) : D → Bool
  | .bl c => c == b
  | _ => false
@[simp] theorem isBD_bl (b c : Bool) : isBD b (.bl c) = (c == b) := (rfl)
@[simp] theorem isBD_non (b : Bool) : isBD b .non = false := (rfl)
@[simp] theorem isBD_int (b : Bool) (i : Int) : isBD b (.int i) = false := (rfl)
@[simp] theorem isBD_str (b : Bool) (i : List Nat) : isBD b (.str i) = false := (rfl)
@[simp] theorem isBD_lst (b : Bool) (i : List D) : isBD b (.lst i) = false := (rfl)
@[simp] theorem isBD_tup (b : Bool) (i : List D) : isBD b (.tup i) = false := (rfl)
@[simp] theorem isBD_dct (b : Bool) (i : List DK) (j : List D) : isBD b (.dct i j) = false := (rfl)
@[simp] theorem ev_isB (b : Bool) (a : E) : ev C G m (.isB b a) δ = (ev C G .bor a δ).bind fun x => .ok (.bl (isBD b x)) := by
  exact bind_congr fun z => by cases z <;> rfl
@[simp] theorem ev_notB (b : Bool) (a : E) : ev C G m (.notB b a) δ = (ev C G .bor a δ).bind fun x => .ok (.bl (!isBD b x)) := by
  exact bind_congr fun z => by cases z <;> rfl
@[simp] theorem ev_and (as : List E) : ev C G m (.and as) δ = evA C G m as δ := (rfl)
@[simp] theorem ev_or (as : List E) : ev C G m (.or as) δ = evO C G m as δ := (rfl)
@[simp] theorem evA_one (a : E) : evA C G m [a] δ = (ev C G m a δ).bind asB := by
  exact bind_congr fun z => by cases z <;> rfl
@[simp] theorem evA_cons (a b : E) (as : List E) : evA C G m (a :: b :: as) δ = (ev C G m a δ).bind fun x => onB x (evA C G m (b :: as) δ) (.ok (.bl false)) := (rfl)
@[simp] theorem evO_one (a : E) : evO C G m [a] δ = (ev C G m a δ).bind asB := by
  exact bind_congr fun z => by cases z <;> rfl
@[simp] theorem evO_cons (a b : E) (as : List E) : evO C G m (a :: b :: as) δ = (ev C G m a δ).bind fun x => onB x (.ok (.bl true)) (evO C G m (b :: as) δ) := (rfl)
@[simp] theorem ev_not_test (a : E) : ev C G .test (.not a) δ = (ev C G .test a δ).bind notB' := by
  exact bind_congr fun z => by cases z <;> rfl
@[simp] theorem ev_not_val (a : E) : ev C G .val (.not a) δ = (ev C G .bor a δ).bind fun x => (tru x).bind fun b => .ok (.bl (!b)) := (rfl)
@[simp] theorem ev_not_bor (a : E) : ev C G .bor (.not a) δ = (ev C G .bor a δ).bind fun x => (tru x).bind fun b => .ok (.bl (!b)) := (rfl)
@[simp] theorem ev_ite_val (c a b : E) : ev C G .val (.ite c a b) δ = (ev C G .test c δ).bind fun k => onB k (ev C G .val a δ) (ev C G .val b δ) := (rfl)
@[simp] theorem ev_ite_bor (c a b : E) : ev C G .bor (.ite c a b) δ = (ev C G .test c δ).bind fun k => onB k (ev C G .bor a δ) (ev C G .bor b δ) := (rfl)
@[simp] theorem ev_tup (as : List E) : ev C G m (.tup as) δ = (evs C G as δ).bind fun xs => req (xs.length ≤ LIM) (post m (.tup xs)) := (rfl)
@[simp] theorem ev_lst (as : List E) : ev C G m (.lst as) δ = (evs C G as δ).bind fun xs => req (xs.length ≤ LIM) (post m (.lst xs)) := (rfl)
@[simp] theorem ev_dnew_val : ev C G .val .dnew δ = .ok (.dct [] []) := (rfl)
@[simp] theorem ev_dnew_bor : ev C G .bor .dnew δ = .ok (.dct [] []) := (rfl)
@[simp] theorem ev_call (f : Nat) (as : List E) : ev C G m (.call f as) δ = (evs C G as δ).bind fun xs => (C f xs).bind fun r => post m r.1 := (rfl)
@[simp] theorem ev_blt (f : Blt) (as : List E) : ev C G m (.blt f as) δ = (evb C G as δ).bind fun xs => (bltD f xs).bind (post m) := (rfl)
@[simp] theorem ev_mth (f : Mth) (o : E) (as : List E) : ev C G m (.mth f o as) δ = (ev C G .bor o δ).bind fun x => (evb C G as δ).bind fun xs => (mthD f x xs).bind (post m) := (rfl)
@[simp] theorem ev_ix (a i : E) : ev C G m (.ix a i) δ = (ev C G .bor a δ).bind fun x => (ev C G .val i δ).bind fun y => (ixD x y).bind (post m) := (rfl)
def evQ : E → R (Option Int)
  | .nop => .ok none
  | e => (ev C G .val e δ).bind partD
@[simp] theorem evQ_nop : evQ C G δ .nop = .ok none := (rfl)
@[simp] theorem evQ_int (i : Int) : evQ C G δ (.int i) = .ok (some i) := (rfl)
@[simp] theorem evQ_var (i : Nat) : evQ C G δ (.var i) = (ev C G .val (.var i) δ).bind partD := (rfl)
@[simp] theorem evQ_op (o : Op2) (a b : E) : evQ C G δ (.op o a b) = (ev C G .val (.op o a b) δ).bind partD := (rfl)
@[simp] theorem evQ_neg (a : E) : evQ C G δ (.neg a) = (ev C G .val (.neg a) δ).bind partD := (rfl)
@[simp] theorem evQ_blt (f : Blt) (a : List E) : evQ C G δ (.blt f a) = (ev C G .val (.blt f a) δ).bind partD := (rfl)
@[simp] theorem evQ_call (f : Nat) (a : List E) : evQ C G δ (.call f a) = (ev C G .val (.call f a) δ).bind partD := (rfl)
@[simp] theorem evQ_ix (a b : E) : evQ C G δ (.ix a b) = (ev C G .val (.ix a b) δ).bind partD := (rfl)
@[simp] theorem evQ_glob (a : Nat) : evQ C G δ (.glob a) = (ev C G .val (.glob a) δ).bind partD := (rfl)
@[simp] theorem partD_int (i : Int) : partD (.int i) = .ok (some i) := (rfl)
@[simp] theorem ev_sl (a lo hi : E) : ev C G m (.sl a lo hi) δ = (ev C G .bor a δ).bind fun x => (evQ C G δ lo).bind fun l => (evQ C G δ hi).bind fun h => (slD x l h).bind (post m) := by
  cases lo <;> cases hi <;> rfl
@[simp] theorem evI_rng (as : List E) : evI C G m (.rng as) δ = (evs C G as δ).bind rngD := (rfl)
@[simp] theorem evI_zip (a b : E) : evI C G m (.zip a b) δ = (ev C G m a δ).bind fun x => (ev C G m b δ).bind fun y => zipR x y := (rfl)
@[simp] theorem evI_enum (a : E) : evI C G m (.enum a) δ = (ev C G m a δ).bind enumR := (rfl)
@[simp] theorem evI_var (i : Nat) : evI C G m (.var i) δ = (ev C G m (.var i) δ).bind itemsD := (rfl)
@[simp] theorem evI_ix (a i : E) : evI C G m (.ix a i) δ = (ev C G m (.ix a i) δ).bind itemsD := (rfl)
@[simp] theorem evI_sl (a i b : E) : evI C G m (.sl a i b) δ = (ev C G m (.sl a i b) δ).bind itemsD := (rfl)
@[simp] theorem evI_lst (a : List E) : evI C G m (.lst a) δ = (ev C G m (.lst a) δ).bind itemsD := (rfl)
@[simp] theorem evI_tup (a : List E) : evI C G m (.tup a) δ = (ev C G m (.tup a) δ).bind itemsD := (rfl)
@[simp] theorem evI_call (f : Nat) (a : List E) : evI C G m (.call f a) δ = (ev C G m (.call f a) δ).bind itemsD := (rfl)
@[simp] theorem evI_str (s : List Nat) : evI C G m (.str s) δ = (ev C G m (.str s) δ).bind itemsD := (rfl)
@[simp] theorem evI_op (o : Op2) (a b : E) : evI C G m (.op o a b) δ = (ev C G m (.op o a b) δ).bind itemsD := (rfl)
@[simp] theorem evI_glob (a : Nat) : evI C G m (.glob a) δ = (ev C G m (.glob a) δ).bind itemsD := (rfl)
@[simp] theorem evI_lc (ws ts : List Nat) (src c e : E) : evI C G m (.lc ws ts src c e) δ = (ev C G m (.lc ws ts src c e) δ).bind itemsD := (rfl)
@[simp] theorem itemsD_lst (xs : List D) : itemsD (.lst xs) = .ok xs := (rfl)
@[simp] theorem itemsD_tup (xs : List D) : itemsD (.tup xs) = .ok xs := (rfl)
@[simp] theorem itemsD_str (s : List Nat) : itemsD (.str s) = .ok (s.map fun c => .str [c]) := (rfl)
def evCn : E → En → R D
  | .nop, _ => .ok (.bl true)
  | c, δ => ev C G .test c δ
def lcF (ts : List Nat) (c e : E) (xs : List D) (δ : En) : R (List D) := lcL (fun x => layN ts x δ) (evC C G c) (ev C G .val e) xs
@[simp] theorem ev_lc (ws ts : List Nat) (src c e : E) : ev C G m (.lc ws ts src c e) δ = (evI C G .bor src δ).bind fun xs => (lcF C G ts c e xs (wipeE δ ws)).bind fun ys => req (ys.length < LIM) (post m (.lst ys)) := by
  cases src <;> cases c <;> rfl
def repD (m : Md) (xs : List D) : D → R D
  | .int k => req (xs.length ≤ LIM ∧ -2147483648 < k ∧ k < 2147483648 ∧ xs.length * k.toNat ≤ LIM) (post m (.lst (List.replicate k.toNat xs).flatten))
  | _ => .stuck
@[simp] theorem repD_int (xs : List D) (k : Int) : repD m xs (.int k) = req (xs.length ≤ LIM ∧ -2147483648 < k ∧ k < 2147483648 ∧ xs.length * k.toNat ≤ LIM) (post m (.lst (List.replicate k.toNat xs).flatten)) := (rfl)
@[simp] theorem ev_rep (as : List E) (b : E) : ev C G m (.rep as b) δ = (evs C G as δ).bind fun xs => (ev C G .bor b δ).bind fun y => repD m xs y := by
  exact bind_congr fun xs => bind_congr fun y => by cases y <;> rfl
def qrepD (m : Md) (c y z : List Nat) : D → R D
  | .str s => req (s.length + (s.length + 1) * z.length ≤ 16777216 ∧ c.length + (PySem.StrLaws.replL y z s).length ≤ LIM ∧ okB (PySem.StrLaws.replL y z s) = true) (post m (.str (c ++ PySem.StrLaws.replL y z s)))
  | _ => .stuck
@[simp] theorem qrepD_str (c y z s : List Nat) : qrepD m c y z (.str s) = req (s.length + (s.length + 1) * z.length ≤ 16777216 ∧ c.length + (PySem.StrLaws.replL y z s).length ≤ LIM ∧ okB (PySem.StrLaws.replL y z s) = true) (post m (.str (c ++ PySem.StrLaws.replL y z s))) := (rfl)
@[simp] theorem ev_qrep (c : List Nat) (o : E) (y z : List Nat) : ev C G m (.qrep c o y z) δ = (ev C G .bor o δ).bind (qrepD m c y z) := by
  exact bind_congr fun x => by cases x <;> rfl
def srepD (m : Md) (y z : List Nat) : D → R D
  | .str s => req (s.length + (s.length + 1) * z.length ≤ 16777216 ∧ okB (PySem.StrLaws.replL y z s) = true) (post m (.str (PySem.StrLaws.replL y z s)))
  | _ => .stuck
@[simp] theorem srepD_str (y z s : List Nat) : srepD m y z (.str s) = req (s.length + (s.length + 1) * z.length ≤ 16777216 ∧ okB (PySem.StrLaws.replL y z s) = true) (post m (.str (PySem.StrLaws.replL y z s))) := (rfl)
@[simp] theorem ev_srep (o : E) (lo : Int) (hi : E) (y z : List Nat) : ev C G m (.srep o lo hi y z) δ = (ev C G .bor o δ).bind fun x => (evQ C G δ hi).bind fun h => (slD x (some lo) h).bind (srepD m y z) := by
  have e : ev C G m (.srep o lo hi y z) δ = (ev C G .bor o δ).bind fun x => (evQ C G δ hi).bind fun h => (slD x (some lo) h).bind fun w => match w with
    | .str s => req (s.length + (s.length + 1) * z.length ≤ 16777216 ∧ okB (PySem.StrLaws.replL y z s) = true) (post m (.str (PySem.StrLaws.replL y z s)))
    | _ => .stuck := by cases hi <;> rfl
  rw [e]
  exact bind_congr fun x => bind_congr fun h => bind_congr fun w => by cases w <;> rfl
def revD (m : Md) : D → R D
  | .str s => req (s.length ≤ LIM) (post m (.str s.reverse))
  | _ => .stuck
@[simp] theorem revD_str (s : List Nat) : revD m (.str s) = req (s.length ≤ LIM) (post m (.str s.reverse)) := (rfl)
@[simp] theorem ev_rev (a : E) : ev C G m (.rev a) δ = (ev C G .bor a δ).bind (revD m) := by
  show ((ev C G .bor a δ).bind fun x => match x with
    | .str s => req (s.length ≤ LIM) (post m (.str s.reverse))
    | _ => .stuck) = _
  exact bind_congr fun x => by cases x <;> rfl
def srtR (C : Nat → List D → R (D × Bool)) (m : Md) (f : Nat) : D → R D
  | .lst xs => (mapC (C f) xs).bind fun ks => (srtD xs ks).bind (post m)
  | _ => .stuck
@[simp] theorem srtR_lst (f : Nat) (xs : List D) : srtR C m f (.lst xs) = (mapC (C f) xs).bind fun ks => (srtD xs ks).bind (post m) := (rfl)
@[simp] theorem ev_srt (f : Nat) (a : E) : ev C G m (.srt f a) δ = (ev C G .bor a δ).bind (srtR C m f) := by
  show ((ev C G .bor a δ).bind fun x => match x with
    | .lst xs => (mapC (C f) xs).bind fun ks => (srtD xs ks).bind (post m)
    | _ => .stuck) = _
  exact bind_congr fun x => by cases x <;> rfl
@[simp] theorem ev_bcall (f : Nat) (as : List E) : ev C G m (.bcall f as) δ = (evb C G as δ).bind fun xs => (C f xs).bind fun r => req (noL r.1 = true) (post m r.1) := (rfl)
@[simp] theorem noL_bl (b : Bool) : noL (.bl b) = true := (rfl)
@[simp] theorem noL_int (b : Int) : noL (.int b) = true := (rfl)
@[simp] theorem noL_str (b : List Nat) : noL (.str b) = true := (rfl)
@[simp] theorem noL_non : noL .non = true := (rfl)
theorem noL_tup (xs : List D) : noL (.tup xs) = noLs xs := (rfl)
theorem noLs_cons (x : D) (xs : List D) : noLs (x :: xs) = (noL x && noLs xs) := (rfl)
theorem noLs_nil : noLs [] = true := (rfl)
@[simp] theorem ev_pick (kvs : List (List Nat × Int)) (k : E) : ev C G m (.pick kvs k) δ = (ev C G .bor k δ).bind fun x => (pickD kvs x).bind (post m) := (rfl)
theorem pickD_str {kvs : List (List Nat × Int)} {s : List Nat} {i : Int} (h : pickF kvs s = some i) : pickD kvs (.str s) = .ok (.int i) := by
  show (match pickF kvs s with | some i => R.ok (D.int i) | none => .stuck) = _
  rw [h]
@[simp] theorem evs_nil : evs C G [] δ = .ok [] := (rfl)
theorem ev_repl {m : Md} (o : E) (y z : List Nat) {s : List Nat} (ho : ev C G .bor o δ = .ok (.str s)) : ev C G m (.repl o y z) δ = req (s.length + (s.length + 1) * z.length ≤ 16777216 ∧ okB (PySem.StrLaws.replL y z s) = true) (post m (.str (PySem.StrLaws.replL y z s))) := by
  show (ev C G .bor o δ).bind _ = _
  rw [ho]; rfl
@[simp] theorem evs_cons (a : E) (as : List E) : evs C G (a :: as) δ = (ev C G .val a δ).bind fun x => (evs C G as δ).bind fun xs => .ok (x :: xs) := (rfl)
@[simp] theorem evb_nil : evb C G [] δ = .ok [] := (rfl)
@[simp] theorem evb_cons (a : E) (as : List E) : evb C G (a :: as) δ = (ev C G .bor a δ).bind fun x => (evb C G as δ).bind fun xs => .ok (x :: xs) := (rfl)
@[simp] theorem wipeE_nil : wipeE δ [] = δ := (rfl)
@[simp] theorem wipeE_cons (v : Nat) (vs : List Nat) : wipeE δ (v :: vs) = (wipeE δ vs).set v .no := (rfl)
/-! statements -/
@[simp] theorem exs_nil : exs C G [] δ = .ok (.nx δ) := (rfl)
@[simp] theorem exs_cons (s : S) (ss : List S) : exs C G (s :: ss) δ = (ex C G s δ).bind (thenF (exs C G ss)) := by
  exact bind_congr fun z => by cases z <;> rfl
@[simp] theorem ex_set (i : Nat) (e : E) : ex C G (.set i e) δ = (ev C G .val e δ).bind fun d => .ok (.nx (δ.set i (.dat d))) := (rfl)
@[simp] theorem ex_own (i : Nat) (e : E) : ex C G (.own i e) δ = (evF C G e δ).bind fun xs => .ok (.nx (δ.set i (.own xs))) := (rfl)
def frzD (i : Nat) (δ : En) : Option Sl → R F
  | some (.own xs) => .ok (.nx (δ.set i (.dat (.lst xs))))
  | some (.dat _) => .ok (.nx δ)
  | _ => .stuck
@[simp] theorem frzD_dat (i : Nat) (d : D) : frzD i δ (some (.dat d)) = .ok (.nx δ) := (rfl)
@[simp] theorem frzD_own (i : Nat) (xs : List D) : frzD i δ (some (.own xs)) = .ok (.nx (δ.set i (.dat (.lst xs)))) := (rfl)
@[simp] theorem ex_freeze (i : Nat) : ex C G (.freeze i) δ = frzD i δ δ[i]? := (rfl)
def unpD (is : List Nat) (δ : En) : D → R F
  | .tup xs => (layNs is xs δ).bind fun δ' => .ok (.nx δ')
  | _ => .stuck
@[simp] theorem unpD_tup (is : List Nat) (xs : List D) : unpD is δ (.tup xs) = (layNs is xs δ).bind fun δ' => .ok (.nx δ') := (rfl)
@[simp] theorem ex_unp (is : List Nat) (e : E) : ex C G (.unp is e) δ = (ev C G .val e δ).bind (unpD is δ) := by
  exact bind_congr fun z => by cases z <;> rfl
@[simp] theorem ex_expr (e : E) : ex C G (.expr e) δ = (ev C G .val e δ).bind fun _ => .ok (.nx δ) := (rfl)
def appD (i : Nat) (δ : En) (d : D) : Option Sl → R F
  | some (.own xs) => req (xs.length < LIM) (.ok (.nx (δ.set i (.own (xs ++ [d])))))
  | _ => .stuck
@[simp] theorem appD_own (i : Nat) (d : D) (xs : List D) : appD i δ d (some (.own xs)) = req (xs.length < LIM) (.ok (.nx (δ.set i (.own (xs ++ [d]))))) := (rfl)
@[simp] theorem ex_app (i : Nat) (e : E) : ex C G (.app i e) δ = (ev C G .val e δ).bind fun d => appD i δ d δ[i]? := (rfl)
def extD (i : Nat) (δ : En) (ys : List D) : Option Sl → R F
  | some (.own xs) => req (xs.length + ys.length ≤ LIM) (R.ok (F.nx (δ.set i (.own (xs ++ ys)))))
  | _ => .stuck
@[simp] theorem extD_own (i : Nat) (ys xs : List D) : extD i δ ys (some (.own xs)) = req (xs.length + ys.length ≤ LIM) (.ok (.nx (δ.set i (.own (xs ++ ys))))) := (rfl)
@[simp] theorem ex_ext (i : Nat) (e : E) : ex C G (.ext i e) δ = (evF C G e δ).bind fun ys => extD i δ ys δ[i]? := by
  show ((evF C G e δ).bind fun ys => match δ[i]? with
    | some (.own xs) => req (xs.length + ys.length ≤ LIM) (R.ok (F.nx (δ.set i (.own (xs ++ ys)))))
    | _ => .stuck) = _
  refine bind_congr fun ys => ?_
  cases δ[i]? with
  | none => rfl
  | some s => cases s <;> rfl
def unp2D (i j : Nat) (k l : Int) (δ : En) : D → R F
  | .tup [d1, d2] => (setD i δ d1 (.int k) δ[i]?).bind fun f => match f with
      | .nx δ1 => setD j δ1 d2 (.int l) δ1[j]?
      | _ => .stuck
  | _ => .stuck
theorem unp2D_ok {i j : Nat} {k l : Int} {d1 d2 : D} {δ1 δ2 : En} (h1 : setD i δ d1 (.int k) δ[i]? = .ok (.nx δ1)) (h2 : setD j δ1 d2 (.int l) δ1[j]? = .ok (.nx δ2)) : unp2D i j k l δ (.tup [d1, d2]) = .ok (.nx δ2) := by
  show ((setD i δ d1 (.int k) δ[i]?).bind _) = _
  rw [h1]
  exact h2
@[simp] theorem ex_unpi (i j : Nat) (k l : Int) (e : E) : ex C G (.unpi i j k l e) δ = (ev C G .val e δ).bind (unp2D i j k l δ) := by
  show ((ev C G .val e δ).bind fun d => match d with
    | .tup [d1, d2] => (setD i δ d1 (.int k) δ[i]?).bind fun f => match f with
      | .nx δ1 => setD j δ1 d2 (.int l) δ1[j]?
      | _ => .stuck
    | _ => .stuck) = _
  refine bind_congr fun d => ?_
  unfold unp2D
  split <;> rfl
theorem mth_lcount (xs : List D) (k : Int) : mthD .lcount (.lst xs) [.int k] = (intsD xs).bind fun ns => .ok (.int (ns.count k : Nat)) := (rfl)
def clrD (i : Nat) (δ : En) : Option Sl → R F
  | some (.own _) => .ok (.nx (δ.set i (.own [])))
  | _ => .stuck
@[simp] theorem clrD_own (i : Nat) (xs : List D) : clrD i δ (some (.own xs)) = .ok (.nx (δ.set i (.own []))) := (rfl)
@[simp] theorem ex_clr (i : Nat) : ex C G (.clr i) δ = clrD i δ δ[i]? := by
  show (match δ[i]? with | some (.own _) => R.ok (F.nx (δ.set i (.own []))) | _ => .stuck) = _
  cases δ[i]? with
  | none => rfl
  | some s => cases s <;> rfl
@[simp] theorem ex_ret (e : E) : ex C G (.ret e) δ = (ev C G .val e δ).bind fun d => .ok (.rt d false) := (rfl)
@[simp] theorem ex_seti (i : Nat) (k e : E) : ex C G (.seti i k e) δ = (ev C G .val e δ).bind fun d => (ev C G .val k δ).bind fun j => setD i δ d j δ[i]? := (rfl)
theorem setD_at {i k : Nat} {d : D} {z : Int} {xs : List D} (h : L2.ixN xs.length z = some k) : setD i δ d (.int z) (some (.own xs)) = .ok (.nx (δ.set i (.own (xs.set k d)))) := by
  show (match L2.ixN xs.length z with | some k => R.ok (F.nx (δ.set i (.own (xs.set k d)))) | none => .stuck) = _
  rw [h]
theorem setD_last {i : Nat} {d y : D} {xs : List D} : setD i δ d (.int (-1)) (some (.own (xs ++ [y]))) = .ok (.nx (δ.set i (.own (xs ++ [d])))) := by
  have h : L2.ixN (xs ++ [y]).length (-1) = some xs.length := by
    unfold L2.ixN
    rw [if_neg (by decide), if_pos (by simp <;> omega)]
    congr 1
    simp <;> omega
  rw [setD_at (δ := δ) h, List.set_append_right _ _ (Nat.le_refl _), Nat.sub_self]
  rfl
@[simp] theorem ex_tks (i : Nat) (a : E) (lo : Int) (hi : E) (rest : List S) : ex C G (.tks i a lo hi rest) δ = (ev C G .val (.sl a (.int lo) hi) δ).bind fun d => exs C G rest (δ.set i (.dat d)) := (rfl)
def orlD (C : Nat → List D → R (D × Bool)) (G : List D) (i : Nat) (e : E) (δ : En) : Option Sl → R F
  | some (.own xs) => if xs.isEmpty = true then (evF C G e δ).bind fun ys => .ok (.nx (δ.set i (.own ys))) else .ok (.nx δ)
  | _ => .stuck
@[simp] theorem ex_orl (i : Nat) (e : E) : ex C G (.orl i e) δ = orlD C G i e δ δ[i]? := by
  show (match δ[i]? with | some (.own xs) => _ | _ => _) = _
  cases δ[i]? with
  | none => rfl
  | some s => cases s <;> rfl
@[simp] theorem orlD_own (i : Nat) (e : E) (xs : List D) : orlD C G i e δ (some (.own xs)) = if xs.isEmpty = true then (evF C G e δ).bind fun ys => .ok (.nx (δ.set i (.own ys))) else .ok (.nx δ) := (rfl)
def noExF : F → R F
  | .ex _ _ => .stuck
  | f => .ok f
@[simp] theorem noExF_nx (δ : En) : noExF (.nx δ) = .ok (.nx δ) := (rfl)
@[simp] theorem noExF_rt (d : D) (k : Bool) : noExF (.rt d k) = .ok (.rt d k) := (rfl)
@[simp] theorem noExF_bk (δ : En) : noExF (.bk δ) = .ok (.bk δ) := (rfl)
@[simp] theorem noExF_ct (δ : En) : noExF (.ct δ) = .ok (.ct δ) := (rfl)
@[simp] theorem ex_tryb (b : List S) : ex C G (.tryb b) δ = (exs C G b δ).bind noExF := by
  show (exs C G b δ).bind _ = _
  exact bind_congr fun f => by cases f <;> rfl
@[simp] theorem ex_x (k : TK) (e : EX) : ex C G (.x k e) δ = tkX δ k (evX C G e δ) := (rfl)
@[simp] theorem tkX_ok (k : TK) (r : D × Bool) : tkX δ k (.ok r) = tkD r δ k := (rfl)
theorem tkX_exc (k : TK) (c : Nat) : tkX δ k (.exc c) = if appOk δ k = true then .ok (.ex c δ) else .stuck := (rfl)
@[simp] theorem tkX_set (i c : Nat) : tkX δ (.set i) (.exc c) = .ok (.ex c δ) := (rfl)
@[simp] theorem tkX_own (i c : Nat) : tkX δ (.own i) (.exc c) = .ok (.ex c δ) := (rfl)
@[simp] theorem tkX_ret (c : Nat) : tkX δ .ret (.exc c) = .ok (.ex c δ) := (rfl)
@[simp] theorem tkX_retf (c : Nat) : tkX δ .retf (.exc c) = .ok (.ex c δ) := (rfl)
@[simp] theorem tkX_expr (c : Nat) : tkX δ .expr (.exc c) = .ok (.ex c δ) := (rfl)
theorem tkX_app {i c : Nat} {xs : List D} (h : δ[i]? = some (.own xs)) : tkX δ (.app i) (.exc c) = .ok (.ex c δ) := by
  rw [tkX_exc]
  exact if_pos (show (match δ[i]? with | some (.own _) => true | _ => false) = true by rw [h])
@[simp] theorem tkD_set (i : Nat) (r : D × Bool) : tkD r δ (.set i) = .ok (.nx (δ.set i (.dat r.1))) := (rfl)
@[simp] theorem tkD_own (i : Nat) (ys : List D) : tkD (.lst ys, true) δ (.own i) = .ok (.nx (δ.set i (.own ys))) := (rfl)
@[simp] theorem tkD_expr (r : D × Bool) : tkD r δ .expr = .ok (.nx δ) := (rfl)
@[simp] theorem tkD_ret (r : D × Bool) : tkD r δ .ret = .ok (.rt r.1 false) := (rfl)
@[simp] theorem tkD_retf (ys : List D) : tkD (.lst ys, true) δ .retf = .ok (.rt (.lst ys) true) := (rfl)
theorem tkD_app {i : Nat} {xs : List D} (h : δ[i]? = some (.own xs)) (r : D × Bool) : tkD r δ (.app i) = req (xs.length < LIM) (.ok (.nx (δ.set i (.own (xs ++ [r.1]))))) := by
  show (match δ[i]? with | some (.own xs) => _ | _ => _) = _
  rw [h]
@[simp] theorem ex_raise (c : Nat) : ex C G (.raise c) δ = .ok (.ex c δ) := (rfl)
@[simp] theorem evX_e (a : E) : evX C G (.e a) δ = (noX (ev C G .val a δ)).bind fun d => .ok (d, false) := (rfl)
@[simp] theorem evX_call (f : Nat) (as : List E) : evX C G (.call f as) δ = (noX (evs C G as δ)).bind fun xs => C f xs := (rfl)
@[simp] theorem evX_tup (as : List EX) : evX C G (.tup as) δ = (evXs C G as δ).bind fun ds => req (ds.length ≤ LIM) (.ok (.tup ds, false)) := (rfl)
@[simp] theorem evXs_nil : evXs C G [] δ = .ok [] := (rfl)
@[simp] theorem evXs_cons (a : EX) (as : List EX) : evXs C G (a :: as) δ = (evX C G a δ).bind fun d => (evXs C G as δ).bind fun ds => .ok (d.1 :: ds) := (rfl)
/-- what is done with an outcome of a body that is tried -/
def tryF (C : Nat → List D → R (D × Bool)) (G : List D) (m : Nat) (hs : List (Nat × List SU)) : F → R F
  | .ex c δ => req (2 ≤ c ∧ c < m) (suiteD C G c δ hs)
  | f => .ok f
@[simp] theorem tryF_nx (m : Nat) (hs : List (Nat × List SU)) (δ : En) : tryF C G m hs (.nx δ) = .ok (.nx δ) := (rfl)
@[simp] theorem tryF_rt (m : Nat) (hs : List (Nat × List SU)) (d : D) (k : Bool) : tryF C G m hs (.rt d k) = .ok (.rt d k) := (rfl)
@[simp] theorem tryF_ex (m : Nat) (hs : List (Nat × List SU)) (c : Nat) (δ : En) : tryF C G m hs (.ex c δ) = req (2 ≤ c ∧ c < m) (suiteD C G c δ hs) := (rfl)
@[simp] theorem ex_trys (b : List S) (m : Nat) (hs : List (Nat × List SU)) : ex C G (.trys b m hs) δ = (exs C G b δ).bind (tryF C G m hs) := by
  show (exs C G b δ).bind _ = _
  exact bind_congr fun f => by cases f <;> rfl
def nmF (i : Nat) : F → R F
  | .nx δ => .ok (.nx (δ.set i .no))
  | .rt d k => .ok (.rt d k)
  | _ => .stuck
@[simp] theorem nmF_nx (i : Nat) (δ : En) : nmF i (.nx δ) = .ok (.nx (δ.set i .no)) := (rfl)
@[simp] theorem nmF_rt (i : Nat) (d : D) (k : Bool) : nmF i (.rt d k) = .ok (.rt d k) := (rfl)
def tryN (C : Nat → List D → R (D × Bool)) (G : List D) (m h i : Nat) (su : List SU) : F → R F
  | .ex c δ => req ((2 ≤ c ∧ c < m) ∧ i < δ.length) (if subc c h = true then (exU C G c su (δ.set i .no)).bind (nmF i) else .ok (.ex c δ))
  | f => .ok f
@[simp] theorem tryN_nx (m h i : Nat) (su : List SU) (δ : En) : tryN C G m h i su (.nx δ) = .ok (.nx δ) := (rfl)
@[simp] theorem tryN_rt (m h i : Nat) (su : List SU) (d : D) (k : Bool) : tryN C G m h i su (.rt d k) = .ok (.rt d k) := (rfl)
@[simp] theorem tryN_ex (m h i : Nat) (su : List SU) (c : Nat) (δ : En) : tryN C G m h i su (.ex c δ) = req ((2 ≤ c ∧ c < m) ∧ i < δ.length) (if subc c h = true then (exU C G c su (δ.set i .no)).bind (nmF i) else .ok (.ex c δ)) := (rfl)
@[simp] theorem ex_tryas (b : List S) (m h i : Nat) (su : List SU) : ex C G (.tryas b m h i su) δ = (exs C G b δ).bind (tryN C G m h i su) := by
  show (exs C G b δ).bind _ = _
  refine bind_congr fun f => ?_
  cases f <;> rfl
@[simp] theorem suiteD_nil (c : Nat) : suiteD C G c δ [] = .ok (.ex c δ) := (rfl)
@[simp] theorem suiteD_cons (c h : Nat) (su : List SU) (hs : List (Nat × List SU)) : suiteD C G c δ ((h, su) :: hs) = if subc c h = true then exU C G c su δ else suiteD C G c δ hs := (rfl)
@[simp] theorem exU_nil (c : Nat) : exU C G c [] δ = .ok (.nx δ) := (rfl)
@[simp] theorem exU_ret (c : Nat) (u : U) (ss : List SU) : exU C G c (.ret u :: ss) δ = (evU C G .val c u δ).bind fun d => .ok (.rt d false) := (rfl)
@[simp] theorem exU_ifr (c : Nat) (u r : U) (ss : List SU) : exU C G c (.ifr u r :: ss) δ = (evU C G .test c u δ).bind fun d => onB d ((evU C G .val c r δ).bind fun d => .ok (.rt d false)) (exU C G c ss δ) := by
  refine bind_congr fun d => ?_
  cases d <;> first | rfl | (rename_i b; cases b <;> rfl)
@[simp] theorem evU_e (m : Md) (c : Nat) (a : E) : evU C G m c (.e a) δ = ev C G m a δ := (rfl)
@[simp] theorem evU_isx (m : Md) (c h : Nat) : evU C G m c (.isx h) δ = .ok (.bl (subc c h)) := (rfl)
@[simp] theorem evU_isT (m : Md) (c : Nat) (hs : List Nat) : evU C G m c (.isT hs) δ = .ok (.bl (hs.any (subc c))) := (rfl)
@[simp] theorem evU_callE (m : Md) (c f : Nat) : evU C G m c (.callE f) δ = (C f [.ins c []]).bind fun r => post m r.1 := (rfl)
@[simp] theorem evU_ls (m : Md) (c : Nat) (us : List U) : evU C G m c (.ls us) δ = (evUs C G c us δ).bind fun xs => req (xs.length ≤ LIM) (post m (.lst xs)) := (rfl)
@[simp] theorem evUs_nil (c : Nat) : evUs C G c [] δ = .ok [] := (rfl)
@[simp] theorem evUs_cons (c : Nat) (u : U) (us : List U) : evUs C G c (u :: us) δ = (evU C G .val c u δ).bind fun x => (evUs C G c us δ).bind fun xs => .ok (x :: xs) := (rfl)
@[simp] theorem evU_no (m : Md) (c : Nat) (a : U) : evU C G m c (.no a) δ = (evU C G m c a δ).bind notB' := by
  refine bind_congr fun d => ?_
  cases d <;> rfl
@[simp] theorem evU_an (m : Md) (c : Nat) (a b : U) : evU C G m c (.an a b) δ = (evU C G m c a δ).bind fun d => onB d ((evU C G m c b δ).bind asB) (.ok (.bl false)) := by
  refine bind_congr fun d => ?_
  cases d <;> rfl
@[simp] theorem evU_orr (m : Md) (c : Nat) (a b : U) : evU C G m c (.orr a b) δ = (evU C G m c a δ).bind fun d => onB d (.ok (.bl true)) ((evU C G m c b δ).bind asB) := by
  refine bind_congr fun d => ?_
  cases d <;> rfl
@[simp] theorem ex_retF (e : E) : ex C G (.retF e) δ = (evF C G e δ).bind fun xs => .ok (.rt (.lst xs) true) := (rfl)
def retOD : Option Sl → R F
  | some (.own xs) => .ok (.rt (.lst xs) true)
  | _ => .stuck
@[simp] theorem retOD_own (xs : List D) : retOD (some (.own xs)) = .ok (.rt (.lst xs) true) := (rfl)
@[simp] theorem ex_retO (i : Nat) : ex C G (.retO i) δ = retOD δ[i]? := (rfl)
@[simp] theorem ex_retN : ex C G .retN δ = .ok (.rt .non false) := (rfl)
@[simp] theorem ex_ite (c : E) (a b : List S) : ex C G (.ite c a b) δ = (ev C G .test c δ).bind fun k => onB k (exs C G a δ) (exs C G b δ) := (rfl)
/-- a for, a while, a comprehension: left as they stand -/
def frL (ts : List Nat) (b : List S) (xs : List D) (δ : En) : R F := forL (fun x δ => layN ts x δ) (fun δ => exs C G b δ) xs δ
def whF (c : E) (b : List S) (n : Nat) (δ : En) : R F := whL (fun δ => ev C G .test c δ) (fun δ => exs C G b δ) n δ
@[simp] theorem ex_fr (ts : List Nat) (src : E) (b : List S) : ex C G (.fr ts src b) δ = (evI C G .val src δ).bind fun xs => frL C G ts b xs δ := (rfl)
@[simp] theorem ex_wh (c : E) (b : List S) : ex C G (.wh c b) δ = whF C G c b WMAX δ := (rfl)
@[simp] theorem ex_brk : ex C G .brk δ = .ok (.bk δ) := (rfl)
@[simp] theorem ex_cont : ex C G .cont δ = .ok (.ct δ) := (rfl)
@[simp] theorem ex_never : ex C G .never δ = .stuck := (rfl)
def frD : D × Bool → R (List D)
  | (.lst ys, true) => .ok ys
  | _ => .stuck
@[simp] theorem frD_ok (ys : List D) : frD (.lst ys, true) = .ok ys := (rfl)
@[simp] theorem evF_call (f : Nat) (as : List E) : evF C G (.call f as) δ = (evs C G as δ).bind fun xs => (C f xs).bind frD := by
  exact bind_congr fun xs => bind_congr fun r => by obtain ⟨d, b⟩ := r; cases d <;> first | rfl | (cases b <;> rfl)
@[simp] theorem evF_lst (as : List E) : evF C G (.lst as) δ = (evs C G as δ).bind fun xs => req (xs.length ≤ LIM) (.ok xs) := (rfl)
def lsD : D → R (List D)
  | .lst ys => .ok ys
  | _ => .stuck
@[simp] theorem lsD_lst (ys : List D) : lsD (.lst ys) = .ok ys := (rfl)
@[simp] theorem evF_lc (ws ts : List Nat) (src c e : E) : evF C G (.lc ws ts src c e) δ = (ev C G .val (.lc ws ts src c e) δ).bind lsD := by
  exact bind_congr fun z => by cases z <;> rfl
def lstD : D → R (List D)
  | .lst ys => .ok ys
  | _ => .stuck
@[simp] theorem lstD_lst (ys : List D) : lstD (.lst ys) = .ok ys := (rfl)
@[simp] theorem evF_listOf (as : List E) : evF C G (.blt .listOf as) δ = (evb C G as δ).bind fun xs => (bltD .listOf xs).bind lstD := by
  show ((evb C G as δ).bind fun xs => (bltD .listOf xs).bind fun d => match d with
    | .lst ys => .ok ys
    | _ => .stuck) = _
  exact bind_congr fun xs => bind_congr fun d => by cases d <;> rfl
@[simp] theorem evF_add (a b : E) : evF C G (.op .add a b) δ = (ev C G .val (.op .add a b) δ).bind lstD := by
  show (ev C G .val (.op .add a b) δ).bind _ = _
  exact bind_congr fun d => by cases d <;> rfl
@[simp] theorem layN_one (t : Nat) (d : D) : layN [t] d δ = .ok (δ.set t (.dat d)) := by cases d <;> rfl
@[simp] theorem layN_two (t u : Nat) (x y : D) : layN [t, u] (.tup [x, y]) δ = .ok ((δ.set t (.dat x)).set u (.dat y)) := (rfl)
@[simp] theorem layNs_nil : layNs [] [] δ = .ok δ := (rfl)
@[simp] theorem layNs_cons (t : Nat) (ts : List Nat) (x : D) (xs : List D) : layNs (t :: ts) (x :: xs) δ = layNs ts xs (δ.set t (.dat x)) := (rfl)
end
@[simp] theorem forL_nil (lay : D → En → R En) (body : En → R F) (δ : En) : forL lay body [] δ = .ok (.nx δ) := (rfl)
theorem forL_cons (lay : D → En → R En) (body : En → R F) (x : D) (xs : List D) (δ : En) : forL lay body (x :: xs) δ = (lay x δ).bind fun δ1 => (body δ1).bind (loopF (forL lay body xs)) := by
  exact bind_congr fun δ1 => bind_congr fun f => by cases f <;> rfl
theorem whL_succ (c : En → R D) (body : En → R F) (n : Nat) (δ : En) : whL c body (n + 1) δ = (c δ).bind fun b => onB b ((body δ).bind (loopF (whL c body n))) (.ok (.nx δ)) := by
  refine bind_congr fun b => ?_
  cases b <;> first | rfl | (rename_i b; cases b <;> first | rfl | exact bind_congr fun f => by cases f <;> rfl)
@[simp] theorem lcL_nil (lay : D → R En) (c e : En → R D) : lcL lay c e [] = .ok [] := (rfl)
theorem lcL_cons (lay : D → R En) (c e : En → R D) (x : D) (xs : List D) : lcL lay c e (x :: xs) = (lay x).bind fun δ => (c δ).bind fun b => onB b ((e δ).bind fun y => (lcL lay c e xs).bind fun ys => .ok (y :: ys)) (lcL lay c e xs) := by
  exact bind_congr fun δ => bind_congr fun b => by
    cases b <;> first | rfl | (rename_i b; cases b <;> rfl)
/-- a comprehension without a test, each part known -/
theorem lcL_map {lay : D → R En} {e : En → R D} {f : D → D} : ∀ {xs : List D}, (∀ x ∈ xs, ∃ δ, lay x = .ok δ ∧ e δ = .ok (f x)) → lcL lay (fun _ => .ok (.bl true)) e xs = .ok (xs.map f)
  | [], _ => rfl
  | x :: xs, h => by
    obtain ⟨δ, h1, h2⟩ := h x (List.mem_cons_self ..)
    rw [lcL_cons, h1]
    simp [h2, lcL_map fun y hy => h y (List.mem_cons_of_mem _ hy)]
@[simp] theorem evC_nop (C : Nat → List D → R (D × Bool)) (G : List D) : evC C G .nop = fun _ => .ok (.bl true) := (rfl)
@[simp] theorem fin_nx (δ : En) : fin (.nx δ) = .ok (.non, false) := (rfl)
@[simp] theorem fin_ex (c : Nat) (δ : En) : fin (.ex c δ) = .exc c := (rfl)
@[simp] theorem fin_rt (d : D) (k : Bool) : fin (.rt d k) = .ok (d, k) := (rfl)
/-- a call, entered -/
def enter (Γ : List Fn) (G : List D) (n : Nat) (fn : Fn) (xs : List D) : R (D × Bool) := match hotE fn.su xs with
  | some c => (noX (exU (run Γ G n) G c fn.su (List.replicate fn.nn .no))).bind fin
  | none => if xs.length = fn.np then (noX (exs (run Γ G n) G fn.body (frame fn xs))).bind fin else .stuck
theorem run_in {Γ : List Fn} {G : List D} {n f : Nat} {fn : Fn} {xs : List D} (h : Γ[f]? = some fn) : run Γ G (n + 1) f xs = enter Γ G n fn xs := by
  show (match Γ[f]? with | some fn => enter Γ G n fn xs | none => .stuck) = _
  rw [h]
theorem enter_ok {Γ : List Fn} {G : List D} {n np nn : Nat} {body : List S} {xs : List D} (h : xs.length = np) : enter Γ G n ⟨np, nn, body, []⟩ xs = (noX (exs (run Γ G n) G body (xs.map .dat ++ List.replicate (nn - np) .no))).bind fin := by
  subst h
  exact if_pos rfl
/-! operations -/
@[simp] theorem op_addI (i j : Int) : op2 .add (.int i) (.int j) = .ok (.int (i + j)) := (rfl)
@[simp] theorem op_subI (i j : Int) : op2 .sub (.int i) (.int j) = .ok (.int (i - j)) := (rfl)
@[simp] theorem op_mulI (i j : Int) : op2 .mul (.int i) (.int j) = req (smallI i ∨ smallI j) (.ok (.int (i * j))) := (rfl)
@[simp] theorem op_mulSI (x : List Nat) (k : Int) : op2 .mul (.str x) (.int k) = req (-2147483648 < k ∧ k < 2147483648 ∧ x.length ≤ LIM ∧ x.length * k.toNat ≤ LIM) (.ok (.str (List.replicate k.toNat x).flatten)) := (rfl)
@[simp] theorem op_divI (i j : Int) : op2 .fdiv (.int i) (.int j) = req (0 < j ∧ j < 1073741824) (.ok (.int (i / j))) := (rfl)
@[simp] theorem op_modI (i j : Int) : op2 .mod (.int i) (.int j) = req (0 < j) (.ok (.int (i % j))) := (rfl)
@[simp] theorem op_powI (i j : Int) : op2 .pow (.int i) (.int j) = req (0 ≤ j ∧ j ≤ 1000000 ∧ i.natAbs < 2 ^ 64) (.ok (.int (i ^ j.toNat))) := (rfl)
@[simp] theorem op_addS (x y : List Nat) : op2 .add (.str x) (.str y) = req (x.length + y.length ≤ LIM) (.ok (.str (x ++ y))) := (rfl)
@[simp] theorem op_addL (x y : List D) : op2 .add (.lst x) (.lst y) = req (x.length + y.length ≤ LIM) (.ok (.lst (x ++ y))) := (rfl)
@[simp] theorem op_addT (x y : List D) : op2 .add (.tup x) (.tup y) = req (x.length + y.length ≤ LIM) (.ok (.tup (x ++ y))) := (rfl)
@[simp] theorem cmp_ltI (i j : Int) : cmpD .lt (.int i) (.int j) = .ok (decide (i < j)) := (rfl)
@[simp] theorem cmp_leI (i j : Int) : cmpD .le (.int i) (.int j) = .ok (decide (i ≤ j)) := (rfl)
@[simp] theorem cmp_gtI (i j : Int) : cmpD .gt (.int i) (.int j) = .ok (decide (j < i)) := (rfl)
@[simp] theorem cmp_geI (i j : Int) : cmpD .ge (.int i) (.int j) = .ok (decide (j ≤ i)) := (rfl)
@[simp] theorem cmp_ltS (i j : List Nat) : cmpD .lt (.str i) (.str j) = .ok (ltS i j) := (rfl)
@[simp] theorem cmp_leS (i j : List Nat) : cmpD .le (.str i) (.str j) = .ok (!ltS j i) := (rfl)
@[simp] theorem cmp_gtS (i j : List Nat) : cmpD .gt (.str i) (.str j) = .ok (ltS j i) := (rfl)
@[simp] theorem cmp_geS (i j : List Nat) : cmpD .ge (.str i) (.str j) = .ok (!ltS i j) := (rfl)
@[simp] theorem cmp_ltT (i j : List D) : cmpD .lt (.tup i) (.tup j) = req (pairsOk i j = true) (.ok (lexT i j)) := (rfl)
@[simp] theorem cmp_gtT (i j : List D) : cmpD .gt (.tup i) (.tup j) = req (pairsOk i j = true) (.ok (lexG i j)) := (rfl)
@[simp] theorem cmp_eq (a b : D) : cmpD .eq a b = req (dle 60 a = true ∧ dle 60 b = true) (.ok (eqD a b)) := (rfl)
@[simp] theorem cmp_ne (a b : D) : cmpD .ne a b = req (dle 60 a = true ∧ dle 60 b = true) (.ok (!eqD a b)) := (rfl)
@[simp] theorem dle_int (n : Nat) (i : Int) : dle n (.int i) = true := by cases n <;> rfl
@[simp] theorem dle_bl (n : Nat) (i : Bool) : dle n (.bl i) = true := by cases n <;> rfl
@[simp] theorem dle_str (n : Nat) (i : List Nat) : dle n (.str i) = true := by cases n <;> rfl
@[simp] theorem dle_non (n : Nat) : dle n .non = true := by cases n <;> rfl
theorem dle_tup (n : Nat) (xs : List D) : dle (n + 1) (.tup xs) = xs.all (dle n) := (rfl)
theorem dle_lst (n : Nat) (xs : List D) : dle (n + 1) (.lst xs) = xs.all (dle n) := (rfl)
@[simp] theorem eqD_int (i j : Int) : eqD (.int i) (.int j) = (i == j) := (rfl)
@[simp] theorem eqD_str (i j : List Nat) : eqD (.str i) (.str j) = (i == j) := (rfl)
@[simp] theorem eqD_bl (i j : Bool) : eqD (.bl i) (.bl j) = (i == j) := (rfl)
@[simp] theorem eqD_non : eqD .non .non = true := (rfl)
@[simp] theorem eqD_tup (xs ys : List D) : eqD (.tup xs) (.tup ys) = eqDs xs ys := (rfl)
@[simp] theorem eqD_lst (xs ys : List D) : eqD (.lst xs) (.lst ys) = eqDs xs ys := (rfl)
@[simp] theorem eqDs_nil : eqDs [] [] = true := (rfl)
@[simp] theorem eqDs_cons (x y : D) (xs ys : List D) : eqDs (x :: xs) (y :: ys) = (eqD x y && eqDs xs ys) := (rfl)
@[simp] theorem eqDs_nc (y : D) (ys : List D) : eqDs [] (y :: ys) = false := (rfl)
@[simp] theorem eqDs_cn (y : D) (ys : List D) : eqDs (y :: ys) [] = false := (rfl)
@[simp] theorem tru_bl (b : Bool) : tru (.bl b) = .ok b := (rfl)
@[simp] theorem tru_non : tru .non = .ok false := (rfl)
@[simp] theorem tru_int (i : Int) : tru (.int i) = .ok (i != 0) := (rfl)
@[simp] theorem tru_str (s : List Nat) : tru (.str s) = req (s.length ≤ LIM) (.ok (!s.isEmpty)) := (rfl)
@[simp] theorem tru_lst (s : List D) : tru (.lst s) = .ok (!s.isEmpty) := (rfl)
@[simp] theorem tru_tup (s : List D) : tru (.tup s) = .ok (!s.isEmpty) := (rfl)
@[simp] theorem len_str (s : List Nat) : bltD .len [.str s] = req (s.length ≤ LIM) (.ok (.int s.length)) := (rfl)
@[simp] theorem len_lst (s : List D) : bltD .len [.lst s] = .ok (.int s.length) := (rfl)
@[simp] theorem len_tup (s : List D) : bltD .len [.tup s] = .ok (.int s.length) := (rfl)
@[simp] theorem isi_d (t : Ty) (d : D) : bltD (.isi t) [d] = (isTy t d).bind fun b => .ok (.bl b) := (rfl)
@[simp] theorem blt_int_bl (b : Bool) : bltD .intOf [.bl b] = .ok (.int (if b then 1 else 0)) := (rfl)
@[simp] theorem blt_int_int (b : Int) : bltD .intOf [.int b] = .ok (.int b) := (rfl)
@[simp] theorem blt_list_lst (xs : List D) : bltD .listOf [.lst xs] = .ok (.lst xs) := (rfl)
@[simp] theorem blt_list_tup (xs : List D) : bltD .listOf [.tup xs] = .ok (.lst xs) := (rfl)
@[simp] theorem blt_tup_lst (xs : List D) : bltD .tupleOf [.lst xs] = .ok (.tup xs) := (rfl)
@[simp] theorem blt_tup_tup (xs : List D) : bltD .tupleOf [.tup xs] = .ok (.tup xs) := (rfl)
@[simp] theorem blt_abs (i : Int) : bltD .absOf [.int i] = .ok (.int (if i < 0 then -i else i)) := (rfl)
@[simp] theorem blt_max (i j : Int) : bltD .max2 [.int i, .int j] = .ok (.int (if j > i then j else i)) := (rfl)
@[simp] theorem blt_min (i j : Int) : bltD .min2 [.int i, .int j] = .ok (.int (if j < i then j else i)) := (rfl)
@[simp] theorem ix_lst (xs : List D) (i : Int) : ixD (.lst xs) (.int i) = atD xs i := (rfl)
@[simp] theorem ix_tup (xs : List D) (i : Int) : ixD (.tup xs) (.int i) = atD xs i := (rfl)
@[simp] theorem ix_str (s : List Nat) (i : Int) : ixD (.str s) (.int i) = req (s.length ≤ LIM) ((atD s i).bind fun c => .ok (.str [c])) := (rfl)
@[simp] theorem sl_lst (xs : List D) (lo hi : Option Int) : slD (.lst xs) lo hi = .ok (.lst (cutL xs lo hi)) := (rfl)
@[simp] theorem sl_tup (xs : List D) (lo hi : Option Int) : slD (.tup xs) lo hi = .ok (.tup (cutL xs lo hi)) := (rfl)
@[simp] theorem sl_str (s : List Nat) (lo hi : Option Int) : slD (.str s) lo hi = req (s.length ≤ LIM) (.ok (.str (cutL s lo hi))) := (rfl)
theorem join_l (s : List Nat) (xs : List D) : mthD .join (.str s) [.lst xs] = (strsD xs).bind fun q => req ((q.map (·.length)).sum + q.length * s.length ≤ LIM) (.ok (.str (TL.joinL s q))) := (rfl)
@[simp] theorem strsD_nil : strsD [] = .ok [] := (rfl)
@[simp] theorem strsD_cons (s : List Nat) (r : List D) : strsD (.str s :: r) = (strsD r).bind fun q => .ok (s :: q) := (rfl)
theorem strsD_map {α : Type} (f : α → List Nat) : ∀ xs : List α, strsD (xs.map fun x => .str (f x)) = .ok (xs.map f)
  | [] => rfl
  | x :: xs => by simp [strsD_map f xs]
theorem rng3 (i j c : Int) : rngD [.int i, .int j, .int c] = req (c ≠ 0 ∧ c.natAbs < 1073741824 ∧ PySem.Builtin.Range.small i j c = true) (.ok ((List.range (PySem.Builtin.Range.rangeSize i j c).toNat).map fun (k : Nat) => .int (i + k * c))) := (rfl)
theorem mth_split (a b : List Nat) : mthD .split (.str a) [.str b] = req (b ≠ [] ∧ a.length + 2 ≤ LIM) (.ok (.lst ((splitT a b).map .str))) := (rfl)
theorem mth_part (a b : List Nat) : mthD .part (.str a) [.str b] = req (b ≠ [] ∧ a.length ≤ LIM) (.ok (.tup [.str (part3 a b).1.cps.toList, .str (part3 a b).2.1.cps.toList, .str (part3 a b).2.2.cps.toList])) := (rfl)
@[simp] theorem rng1 (j : Int) : rngD [.int j] = req (-4611686018427387904 ≤ j ∧ j < 4611686018427387904) (.ok ((List.range j.toNat).map fun (k : Nat) => .int k)) := (rfl)
@[simp] theorem rng2 (i j : Int) : rngD [.int i, .int j] = req ((-4611686018427387904 ≤ i ∧ i < 4611686018427387904) ∧ (-4611686018427387904 ≤ j ∧ j < 4611686018427387904)) (.ok ((List.range (j - i).toNat).map fun (k : Nat) => .int (i + k))) := (rfl)
@[simp] theorem zipR_lst (xs ys : List D) : zipR (.lst xs) (.lst ys) = .ok (zipD xs ys) := (rfl)
@[simp] theorem zipR_str (xs ys : List Nat) : zipR (.str xs) (.str ys) = .ok (zipD (xs.map fun c => .str [c]) (ys.map fun c => .str [c])) := (rfl)
@[simp] theorem zipR_tup (xs ys : List D) : zipR (.tup xs) (.tup ys) = .ok (zipD xs ys) := (rfl)
@[simp] theorem enumR_tup (xs : List D) : enumR (.tup xs) = .ok (enumD 0 xs) := (rfl)
@[simp] theorem enumR_lst (xs : List D) : enumR (.lst xs) = .ok (enumD 0 xs) := (rfl)
/-! places -/
theorem atD_nat {α : Type} {xs : List α} {i : Nat} {a : α} (h : xs[i]? = some a) : atD xs (i : Int) = .ok a := by
  unfold atD
  rw [L2.atI_nat h]
theorem atD_of {α : Type} {xs : List α} {i : Int} {a : α} (h0 : 0 ≤ i) (h : xs[i.toNat]? = some a) : atD xs i = .ok a := by
  have := atD_nat h
  rwa [Int.toNat_of_nonneg h0] at this
@[simp] theorem isTy_int_int (i : Int) : isTy .int (.int i) = .ok true := (rfl)
@[simp] theorem isTy_int_bl (i : Bool) : isTy .int (.bl i) = .ok true := (rfl)
@[simp] theorem isTy_int_non : isTy .int .non = .ok false := (rfl)
@[simp] theorem isTy_int_str (i : List Nat) : isTy .int (.str i) = .ok false := (rfl)
@[simp] theorem isTy_int_lst (i : List D) : isTy .int (.lst i) = .ok false := (rfl)
@[simp] theorem isTy_int_tup (i : List D) : isTy .int (.tup i) = .ok false := (rfl)
@[simp] theorem isTy_int_dct (i : List DK) (j : List D) : isTy .int (.dct i j) = .ok false := (rfl)
@[simp] theorem isTy_bool_int (i : Int) : isTy .bool (.int i) = .ok false := (rfl)
@[simp] theorem isTy_bool_bl (i : Bool) : isTy .bool (.bl i) = .ok true := (rfl)
@[simp] theorem isTy_bool_non : isTy .bool .non = .ok false := (rfl)
@[simp] theorem isTy_bool_str (i : List Nat) : isTy .bool (.str i) = .ok false := (rfl)
@[simp] theorem isTy_bool_lst (i : List D) : isTy .bool (.lst i) = .ok false := (rfl)
@[simp] theorem isTy_bool_tup (i : List D) : isTy .bool (.tup i) = .ok false := (rfl)
@[simp] theorem isTy_str_int (i : Int) : isTy .str (.int i) = .ok false := (rfl)
@[simp] theorem isTy_str_bl (i : Bool) : isTy .str (.bl i) = .ok false := (rfl)
@[simp] theorem isTy_str_non : isTy .str .non = .ok false := (rfl)
@[simp] theorem isTy_str_str (i : List Nat) : isTy .str (.str i) = .ok true := (rfl)
@[simp] theorem isTy_str_lst (i : List D) : isTy .str (.lst i) = .ok false := (rfl)
@[simp] theorem isTy_str_tup (i : List D) : isTy .str (.tup i) = .ok false := (rfl)
@[simp] theorem isTy_str_dct (i : List DK) (j : List D) : isTy .str (.dct i j) = .ok false := (rfl)
@[simp] theorem isTy_tup_int (i : Int) : isTy .tuple (.int i) = .ok false := (rfl)
@[simp] theorem isTy_tup_bl (i : Bool) : isTy .tuple (.bl i) = .ok false := (rfl)
@[simp] theorem isTy_tup_non : isTy .tuple .non = .ok false := (rfl)
@[simp] theorem isTy_tup_str (i : List Nat) : isTy .tuple (.str i) = .ok false := (rfl)
@[simp] theorem isTy_tup_lst (i : List D) : isTy .tuple (.lst i) = .ok false := (rfl)
@[simp] theorem isTy_tup_tup (i : List D) : isTy .tuple (.tup i) = .ok true := (rfl)
@[simp] theorem isTy_lst_int (i : Int) : isTy .list (.int i) = .ok false := (rfl)
@[simp] theorem isTy_lst_bl (i : Bool) : isTy .list (.bl i) = .ok false := (rfl)
@[simp] theorem isTy_lst_non : isTy .list .non = .ok false := (rfl)
@[simp] theorem isTy_lst_str (i : List Nat) : isTy .list (.str i) = .ok false := (rfl)
@[simp] theorem isTy_lst_lst (i : List D) : isTy .list (.lst i) = .ok true := (rfl)
@[simp] theorem isTy_lst_tup (i : List D) : isTy .list (.tup i) = .ok false := (rfl)
/-- a for that looks: it goes on where p, and returns r at the first that is not -/
theorem forL_look {β : Type} {lay : D → En → R En} {body : En → R F} {p : β → Bool} {g : β → D} {d : D} {k : Bool} (I : En → Prop) : ∀ {xs : List β} {δ : En}, I δ →
    (∀ x ∈ xs, ∀ δ, I δ → ∃ δ1, lay (g x) δ = .ok δ1 ∧ (p x = true → ∃ δ2, I δ2 ∧ (body δ1 = .ok (.nx δ2) ∨ body δ1 = .ok (.ct δ2))) ∧ (p x = false → body δ1 = .ok (.rt d k))) →
    (xs.all p = true → ∃ δ', I δ' ∧ forL lay body (xs.map g) δ = .ok (.nx δ')) ∧ (xs.all p = false → forL lay body (xs.map g) δ = .ok (.rt d k))
  | [], δ, h, _ => ⟨fun _ => ⟨δ, h, rfl⟩, fun z => by cases z⟩
  | x :: xs, δ, h, hs => by
    obtain ⟨δ1, h1, h2, h3⟩ := hs x (List.mem_cons_self ..) δ h
    rw [List.map_cons, forL_cons, h1, R.bind_ok, List.all_cons]
    cases hp : p x with
    | false => exact ⟨fun z => by simp at z, fun _ => by rw [h3 hp]; rfl⟩
    | true =>
      obtain ⟨δ2, h4, h5⟩ := h2 hp
      have ih := forL_look I (xs := xs) h4 fun y hy => hs y (List.mem_cons_of_mem _ hy)
      rcases h5 with h5 | h5
      · rw [h5]; simpa using ih
      · rw [h5]; simpa using ih
/-- a for that gathers -/
theorem forL_fold {α β : Type} {lay : D → En → R En} {body : En → R F} {g : β → D} {f : α → β → α} (I : α → En → Prop) : ∀ {xs : List β} {a : α} {δ : En}, I a δ →
    (∀ x ∈ xs, ∀ a δ, I a δ → ∃ δ1, lay (g x) δ = .ok δ1 ∧ ∃ δ2, I (f a x) δ2 ∧ (body δ1 = .ok (.nx δ2) ∨ body δ1 = .ok (.ct δ2))) → ∃ δ', I (xs.foldl f a) δ' ∧ forL lay body (xs.map g) δ = .ok (.nx δ')
  | [], a, δ, h, _ => ⟨δ, h, rfl⟩
  | x :: xs, a, δ, h, hs => by
    obtain ⟨δ1, h1, δ2, h4, h5⟩ := hs x (List.mem_cons_self ..) a δ h
    rw [List.map_cons, forL_cons, h1, R.bind_ok]
    have ih := forL_fold I (xs := xs) h4 fun y hy => hs y (List.mem_cons_of_mem _ hy)
    rcases h5 with h5 | h5
    · rw [h5]; simpa using ih
    · rw [h5]; simpa using ih
/-- the same, place by place -/
theorem forL_at {lay : D → En → R En} {body : En → R F} (I : Nat → En → Prop) {xs : List D} {δ : En} (h0 : I 0 δ)
    (hs : ∀ i x δ, xs[i]? = some x → I i δ → ∃ δ1, lay x δ = .ok δ1 ∧ ∃ δ2, I (i + 1) δ2 ∧ (body δ1 = .ok (.nx δ2) ∨ body δ1 = .ok (.ct δ2))) : ∃ δ', I xs.length δ' ∧ forL lay body xs δ = .ok (.nx δ') := by
  have key : ∀ (ys : List D) (i : Nat) (δ : En), xs.drop i = ys → i ≤ xs.length → I i δ → ∃ δ', I xs.length δ' ∧ forL lay body ys δ = .ok (.nx δ') := by
    intro ys
    induction ys with
    | nil =>
      intro i δ e hi h
      have : i = xs.length := by
        have := congrArg List.length e
        rw [List.length_drop] at this
        simp at this
        omega
      subst this
      exact ⟨δ, h, rfl⟩
    | cons y ys ih =>
      intro i δ e hi h
      have hlt : i < xs.length := by
        have := congrArg List.length e
        rw [List.length_drop] at this
        simp at this
        omega
      rw [List.drop_eq_getElem_cons hlt] at e
      injection e with e1 e2
      obtain ⟨δ1, h1, δ2, h4, h5⟩ := hs i y δ (by rw [List.getElem?_eq_getElem hlt, e1]) h
      rw [forL_cons, h1, R.bind_ok]
      have := ih (i + 1) δ2 e2 hlt h4
      rcases h5 with h5 | h5
      · rw [h5]; simpa using this
      · rw [h5]; simpa using this
  exact key xs 0 δ rfl (Nat.zero_le _) h0
theorem small_of {i : Int} (h : -18446744073709551616 < i ∧ i < 18446744073709551616) : smallI i := h
theorem LIM_le {n : Nat} (h : n ≤ 16777216) : n ≤ LIM := h
theorem LIM_lt {n : Nat} (h : n < 16777216) : n < LIM := h
/-! statement by statement -/
section
variable {C : Nat → List D → R (D × Bool)} {G : List D} {s : S} {ss : List S} {δ δ' : En}
theorem seq_nx (h : ex C G s δ = .ok (.nx δ')) : exs C G (s :: ss) δ = exs C G ss δ' := by rw [exs_cons, h]; rfl
theorem seq_rt {d : D} {k : Bool} (h : ex C G s δ = .ok (.rt d k)) : exs C G (s :: ss) δ = .ok (.rt d k) := by rw [exs_cons, h]; rfl
end
theorem cutL_le {α : Type} (xs : List α) (lo hi : Option Int) : (cutL xs lo hi).length ≤ xs.length := by
  unfold cutL
  rw [List.length_take, List.length_drop]
  omega
/-! the same of what stands -/
section
variable {C : Nat → List D → R (D × Bool)} {G : List D}
theorem frL_look {β : Type} {ts : List Nat} {b : List S} (p : β → Bool) (g : β → D) (d : D) (k : Bool) (I : En → Prop) {xs : List β} {δ : En} (h0 : I δ)
    (h : ∀ x ∈ xs, ∀ δ, I δ → ∃ δ1, layN ts (g x) δ = .ok δ1 ∧ (p x = true → ∃ δ2, I δ2 ∧ (exs C G b δ1 = .ok (.nx δ2) ∨ exs C G b δ1 = .ok (.ct δ2))) ∧ (p x = false → exs C G b δ1 = .ok (.rt d k))) :
    (xs.all p = true → ∃ δ', I δ' ∧ frL C G ts b (xs.map g) δ = .ok (.nx δ')) ∧ (xs.all p = false → frL C G ts b (xs.map g) δ = .ok (.rt d k)) := forL_look I h0 h
theorem frL_fold {α β : Type} {ts : List Nat} {b : List S} (g : β → D) (f : α → β → α) (I : α → En → Prop) {xs : List β} {a : α} {δ : En} (h0 : I a δ)
    (h : ∀ x ∈ xs, ∀ a δ, I a δ → ∃ δ1, layN ts (g x) δ = .ok δ1 ∧ ∃ δ2, I (f a x) δ2 ∧ (exs C G b δ1 = .ok (.nx δ2) ∨ exs C G b δ1 = .ok (.ct δ2))) : ∃ δ', I (xs.foldl f a) δ' ∧ frL C G ts b (xs.map g) δ = .ok (.nx δ') := forL_fold I h0 h
theorem frL_at {ts : List Nat} {b : List S} (I : Nat → En → Prop) {xs : List D} {δ : En} (h0 : I 0 δ)
    (hs : ∀ i x δ, xs[i]? = some x → I i δ → ∃ δ1, layN ts x δ = .ok δ1 ∧ ∃ δ2, I (i + 1) δ2 ∧ (exs C G b δ1 = .ok (.nx δ2) ∨ exs C G b δ1 = .ok (.ct δ2))) : ∃ δ', I xs.length δ' ∧ frL C G ts b xs δ = .ok (.nx δ') := forL_at I h0 hs
theorem lcF_map {β : Type} {ts : List Nat} {e : E} (g f : β → D) {xs : List β} {δ : En} (h : ∀ x ∈ xs, ∃ δ1, layN ts (g x) δ = .ok δ1 ∧ ev C G .val e δ1 = .ok (f x)) : lcF C G ts .nop e (xs.map g) δ = .ok (xs.map f) := by
  unfold lcF
  rw [evC_nop]
  induction xs with
  | nil => rfl
  | cons x xs ih =>
    obtain ⟨δ1, h1, h2⟩ := h x (List.mem_cons_self ..)
    rw [List.map_cons, lcL_cons, h1]
    simp [h2, ih fun y hy => h y (List.mem_cons_of_mem _ hy)]
theorem lcF_filter {β : Type} {ts : List Nat} {c e : E} (g f : β → D) (p : β → Bool) (hc : c ≠ .nop) {xs : List β} {δ : En} (h : ∀ x ∈ xs, ∃ δ1, layN ts (g x) δ = .ok δ1 ∧ ev C G .test c δ1 = .ok (.bl (p x)) ∧ (p x = true → ev C G .val e δ1 = .ok (f x))) :
    lcF C G ts c e (xs.map g) δ = .ok ((xs.filter p).map f) := by
  have e1 : evC C G c = ev C G .test c := by funext δ; cases c <;> first | rfl | exact absurd rfl hc
  unfold lcF
  rw [e1]
  induction xs with
  | nil => rfl
  | cons x xs ih =>
    obtain ⟨δ1, h1, h2, h3⟩ := h x (List.mem_cons_self ..)
    have ih := ih fun y hy => h y (List.mem_cons_of_mem _ hy)
    rw [List.map_cons, lcL_cons, h1]
    cases hp : p x with
    | true => simp [h2, hp, h3 hp, ih]
    | false => simp [h2, hp, ih]
end
/-! a text made sign by sign -/
theorem lcF_some {C : Nat → List D → R (D × Bool)} {G : List D} {β : Type} {ts : List Nat} {e : E} (g : β → D) (P : D → Prop) {δ : En} : ∀ {xs : List β}, (∀ x ∈ xs, ∃ δ1 y, layN ts (g x) δ = .ok δ1 ∧ ev C G .val e δ1 = .ok y ∧ P y) →
    ∃ ys, ys.length = xs.length ∧ (∀ y ∈ ys, P y) ∧ lcF C G ts .nop e (xs.map g) δ = .ok ys
  | [], _ => ⟨[], rfl, fun _ h => by simp at h, rfl⟩
  | x :: xs, h => by
    obtain ⟨δ1, y, h1, h2, h3⟩ := h x (List.mem_cons_self ..)
    obtain ⟨ys, h4, h5, h6⟩ := lcF_some g P (xs := xs) fun z hz => h z (List.mem_cons_of_mem _ hz)
    refine ⟨y :: ys, by simp [h4], fun z hz => ?_, ?_⟩
    · rcases List.mem_cons.mp hz with rfl | hz
      · exact h3
      · exact h5 z hz
    · unfold lcF at h6 ⊢
      rw [evC_nop] at h6 ⊢
      rw [List.map_cons, lcL_cons, h1]
      simp [h2, h6]
theorem joinL_one : ∀ s : List Nat, TL.joinL [] (s.map fun c => [c]) = s
  | [] => rfl
  | [c] => rfl
  | c :: d :: s => by
    have ih := joinL_one (d :: s)
    simp [TL.joinL] at ih ⊢
    exact ih
theorem sum_one : ∀ s : List Nat, ((s.map fun c => [c]).map fun x => x.length).sum = s.length
  | [] => rfl
  | c :: s => by
    show [c].length + ((s.map fun c => [c]).map fun x => x.length).sum = s.length + 1
    rw [sum_one s, List.length_singleton, Nat.add_comm]
theorem strs_one {P : Nat → Prop} : ∀ {ys : List D}, (∀ y ∈ ys, ∃ c, P c ∧ y = .str [c]) → ∃ s : List Nat, s.length = ys.length ∧ (∀ c ∈ s, P c) ∧ strsD ys = .ok (s.map fun c => [c])
  | [], _ => ⟨[], rfl, fun _ h => by simp at h, rfl⟩
  | y :: ys, h => by
    obtain ⟨c, h1, rfl⟩ := h y (List.mem_cons_self ..)
    obtain ⟨s, h2, h3, h4⟩ := strs_one (ys := ys) fun z hz => h z (List.mem_cons_of_mem _ hz)
    refine ⟨c :: s, by simp [h2], fun z hz => ?_, by simp [h4]⟩
    rcases List.mem_cons.mp hz with rfl | hz
    · exact h1
    · exact h3 z hz
theorem join_one {P : Nat → Prop} {ys : List D} (h : ∀ y ∈ ys, ∃ c, P c ∧ y = .str [c]) (hl : ys.length ≤ LIM) : ∃ s : List Nat, s.length = ys.length ∧ (∀ c ∈ s, P c) ∧ mthD .join (.str []) [.lst ys] = .ok (.str s) := by
  obtain ⟨s, h1, h2, h3⟩ := strs_one h
  refine ⟨s, h1, h2, ?_⟩
  rw [join_l, h3, R.bind_ok, joinL_one, sum_one, req_pos]
  rw [List.length_nil, Nat.mul_zero, Nat.add_zero, h1]
  exact hl
/-- a sign by its place -/
theorem at_in {α : Type} {xs : List α} {i : Int} {P : α → Prop} (h : ∀ x ∈ xs, P x) (h0 : 0 ≤ i) (h1 : i < xs.length) : ∃ a, P a ∧ atD xs i = .ok a := by
  have h2 : i.toNat < xs.length := by omega
  exact ⟨_, h _ (List.getElem_mem h2), atD_of h0 (List.getElem?_eq_getElem h2)⟩
@[simp] theorem atD_0 {α : Type} (a : α) (xs : List α) : atD (a :: xs) 0 = .ok a := atD_of (i := 0) (by decide) (by rfl)
@[simp] theorem atD_1 {α : Type} (a b : α) (xs : List α) : atD (a :: b :: xs) 1 = .ok b := atD_of (i := 1) (by decide) (by rfl)
@[simp] theorem atD_2 {α : Type} (a b c : α) (xs : List α) : atD (a :: b :: c :: xs) 2 = .ok c := atD_of (i := 2) (by decide) (by rfl)
@[simp] theorem atD_3 {α : Type} (a b c d : α) (xs : List α) : atD (a :: b :: c :: d :: xs) 3 = .ok d := atD_of (i := 3) (by decide) (by rfl)
@[simp] theorem atD_4 {α : Type} (a b c d e : α) (xs : List α) : atD (a :: b :: c :: d :: e :: xs) 4 = .ok e := atD_of (i := 4) (by decide) (by rfl)
@[simp] theorem atD_5 {α : Type} (a b c d e f : α) (xs : List α) : atD (a :: b :: c :: d :: e :: f :: xs) 5 = .ok f := atD_of (i := 5) (by decide) (by rfl)
@[simp] theorem atD_6 {α : Type} (a b c d e f g : α) (xs : List α) : atD (a :: b :: c :: d :: e :: f :: g :: xs) 6 = .ok g := atD_of (i := 6) (by decide) (by rfl)
@[simp] theorem atD_7 {α : Type} (a b c d e f g h : α) (xs : List α) : atD (a :: b :: c :: d :: e :: f :: g :: h :: xs) 7 = .ok h := atD_of (i := 7) (by decide) (by rfl)
/-! cuts -/
theorem cut_take {α : Type} (xs : List α) {b : Int} (h : 0 ≤ b) : cutL xs none (some b) = xs.take b.toNat := by
  unfold cutL
  have e : b = ((b.toNat : Nat) : Int) := (Int.toNat_of_nonneg h).symm
  rw [e, HT.sIx_nat, HT.sIx_none, List.drop_zero, Nat.sub_zero]
  rw [show ((b.toNat : Nat) : Int).toNat = b.toNat by omega]
  by_cases h2 : b.toNat ≤ xs.length
  · rw [Nat.min_eq_left h2]
  · rw [Nat.min_eq_right (by omega), List.take_length, List.take_of_length_le (by omega)]
theorem cut_drop {α : Type} (xs : List α) {a : Int} (h : 0 ≤ a) : cutL xs (some a) none = xs.drop a.toNat := by
  unfold cutL
  have e : a = ((a.toNat : Nat) : Int) := (Int.toNat_of_nonneg h).symm
  rw [e, HT.sIx_nat, HT.sIx_none]
  rw [show ((a.toNat : Nat) : Int).toNat = a.toNat by omega]
  by_cases h2 : a.toNat ≤ xs.length
  · rw [Nat.min_eq_left h2, List.take_of_length_le (by rw [List.length_drop]; omega)]
  · rw [Nat.min_eq_right (by omega), List.drop_length, List.drop_of_length_le (by omega), List.take_nil]
theorem cut_both {α : Type} (xs : List α) {a b : Int} (h : 0 ≤ a) (h' : 0 ≤ b) : cutL xs (some a) (some b) = (xs.take b.toNat).drop a.toNat := by
  unfold cutL
  have e : a = ((a.toNat : Nat) : Int) := (Int.toNat_of_nonneg h).symm
  have e' : b = ((b.toNat : Nat) : Int) := (Int.toNat_of_nonneg h').symm
  rw [e, e', HT.sIx_nat, HT.sIx_nat]
  rw [show ((a.toNat : Nat) : Int).toNat = a.toNat by omega, show ((b.toNat : Nat) : Int).toNat = b.toNat by omega]
  rw [List.drop_take]
  by_cases h2 : a.toNat ≤ xs.length
  · rw [Nat.min_eq_left h2]
    by_cases h3 : b.toNat ≤ xs.length
    · rw [Nat.min_eq_left h3]
    · rw [Nat.min_eq_right (by omega), List.take_of_length_le (by rw [List.length_drop]; omega), List.take_of_length_le (by rw [List.length_drop]; omega)]
  · rw [Nat.min_eq_right (by omega : xs.length ≤ a.toNat), List.drop_length, List.drop_of_length_le (by omega : xs.length ≤ a.toNat), List.take_nil, List.take_nil]
theorem cut_init {α : Type} (xs : List α) : cutL xs none (some (-1)) = xs.dropLast := by
  unfold cutL
  rw [HT.sIx_none, List.drop_zero, Nat.sub_zero, List.dropLast_eq_take]
  congr 1
  unfold HT.sIx
  simp
  omega
@[simp] theorem isTy_tup_dct (i : List DK) (j : List D) : isTy .tuple (.dct i j) = .ok false := (rfl)
@[simp] theorem isTy_bool_dct (i : List DK) (j : List D) : isTy .bool (.dct i j) = .ok false := (rfl)
@[simp] theorem isTy_lst_dct (i : List DK) (j : List D) : isTy .list (.dct i j) = .ok false := (rfl)
theorem zipD_map {α : Type} (f : α → D) : ∀ (ks : List α) (vs : List D), zipD (ks.map f) vs = (ks.zip vs).map fun p => .tup [f p.1, p.2]
  | [], _ => by cases ‹List D› <;> rfl
  | k :: ks, [] => rfl
  | k :: ks, v :: vs => by simp [zipD, zipD_map f ks vs]
theorem atD_last {α : Type} (xs : List α) (a : α) (i : Int) (h : i = xs.length) : atD (xs ++ [a]) i = .ok a := by
  subst h
  exact atD_nat (by simp)
theorem ltS1 (a b : Nat) : ltS [a] [b] = decide (a < b) := by
  unfold ltS
  rw [decide_eq_decide]
  constructor
  · intro h
    cases h with
    | rel h => exact h
    | cons h => cases h
  · intro h
    exact .rel h
@[simp] theorem find_s (a b : List Nat) : mthD .find (.str a) [.str b] = .ok (.int (findL a b)) := (rfl)
theorem cmp_inL (a : D) (ys : List D) : cmpD .isin a (.lst ys) = req (dle 60 a = true ∧ ys.all (dle 59) = true) (.ok (ys.any fun y => eqD y a)) := by
  cases a <;> first | rfl | (rename_i s; cases s with | nil => rfl | cons c r => cases r <;> rfl)
theorem cmp_ninL (a : D) (ys : List D) : cmpD .notin a (.lst ys) = req (dle 60 a = true ∧ ys.all (dle 59) = true) (.ok (!ys.any fun y => eqD y a)) := by
  cases a <;> first | rfl | (rename_i s; cases s with | nil => rfl | cons c r => cases r <;> rfl)
theorem cmp_inT (a : D) (ys : List D) : cmpD .isin a (.tup ys) = req (isFlat a = true ∧ ys.all isFlat = true) (.ok (ys.any fun y => eqD y a)) := by
  cases a <;> first | rfl | (rename_i s; cases s with | nil => rfl | cons c r => cases r <;> rfl)
theorem cmp_ninT (a : D) (ys : List D) : cmpD .notin a (.tup ys) = req (isFlat a = true ∧ ys.all isFlat = true) (.ok (!ys.any fun y => eqD y a)) := by
  cases a <;> first | rfl | (rename_i s; cases s with | nil => rfl | cons c r => cases r <;> rfl)
mutual
theorem eqD_refl : ∀ (d : D) (n : Nat), dle n d = true → eqD d d = true
  | .non, _, _ => rfl
  | .bl b, _, _ => by simp
  | .int i, _, _ => by simp
  | .str s, _, _ => by simp
  | .tup xs, 0, h => by cases h
  | .tup xs, n + 1, h => eqDs_refl xs n h
  | .lst xs, 0, h => by cases h
  | .lst xs, n + 1, h => eqDs_refl xs n h
  | .dct _ _, n, h => by cases n <;> cases h
  | .ins _ _, n, h => by cases n <;> cases h
theorem eqDs_refl : ∀ (ds : List D) (n : Nat), ds.all (dle n) = true → eqDs ds ds = true
  | [], _, _ => rfl
  | d :: ds, n, h => by
    rw [List.all_cons, Bool.and_eq_true] at h
    rw [eqDs_cons, eqD_refl d n h.1, eqDs_refl ds n h.2]; rfl
end
theorem eqDs_emp : ∀ xs : List D, eqDs xs [] = xs.isEmpty
  | [] => rfl
  | _ :: _ => rfl
mutual
theorem dle_up (m : Nat) : ∀ (n : Nat) (d : D), dle n d = true → dle (m + n) d = true
  | n, .non, _ => by simp
  | n, .bl _, _ => by simp
  | n, .int _, _ => by simp
  | n, .str _, _ => by simp
  | 0, .tup xs, h => by cases h
  | n + 1, .tup xs, h => dles_up m n xs h
  | 0, .lst xs, h => by cases h
  | n + 1, .lst xs, h => dles_up m n xs h
  | n, .dct _ _, h => by cases n <;> cases h
  | n, .ins _ _, h => by cases n <;> cases h
theorem dles_up (m : Nat) : ∀ (n : Nat) (ds : List D), ds.all (dle n) = true → ds.all (dle (m + n)) = true
  | _, [], _ => rfl
  | n, d :: ds, h => by
    rw [List.all_cons, Bool.and_eq_true] at h ⊢
    exact ⟨dle_up m n d h.1, dles_up m n ds h.2⟩
end
@[simp] theorem find3_s (a b : List Nat) (i : Int) : mthD .find (.str a) [.str b, .int i] = .ok (.int (find3L a b i)) := (rfl)
@[simp] theorem str_str (s : List Nat) : bltD .strOf [.str s] = .ok (.str s) := (rfl)
@[simp] theorem str_int (i : Int) : bltD .strOf [.int i] = req (i.natAbs < 2 ^ 1000 ∧ okB (strI i) = true) (.ok (.str (strI i))) := (rfl)
theorem int_str {s : List Nat} {n : Int} (h : PySem.intText? ⟨s.toArray⟩ = some n) (hl : s.length ≤ 640) : bltD .intOf [.str s] = .ok (.int n) := by
  show (match PySem.intText? ⟨s.toArray⟩ with | some n => req (s.length ≤ 640) (R.ok (D.int n)) | none => .stuck) = _
  rw [h]
  exact req_pos hl
theorem blsD_map (bs : List Bool) : blsD (bs.map .bl) = .ok bs := by
  induction bs with
  | nil => rfl
  | cons b bs ih => show (blsD (bs.map .bl)).bind _ = _; rw [ih]; rfl
theorem intsD_map (bs : List Int) : intsD (bs.map .int) = .ok bs := by
  induction bs with
  | nil => rfl
  | cons b bs ih => show (intsD (bs.map .int)).bind _ = _; rw [ih]; rfl
theorem all_lst (bs : List Bool) : bltD .allOf [.lst (bs.map .bl)] = .ok (.bl (bs.all id)) := by
  show (blsD (bs.map .bl)).bind _ = _
  rw [blsD_map]; rfl
theorem sum_lst (bs : List Int) : bltD .sumOf [.lst (bs.map .int)] = .ok (.int bs.sum) := by
  show (intsD (bs.map .int)).bind _ = _
  rw [intsD_map]; rfl
/-- the figures of a number -/
theorem strI_nat (n : Nat) : strI (n : Int) = TL.numL n := by
  unfold strI
  exact TL.tl_num n
theorem WMAX_lt {n : Nat} (h : n < 100000000) : n < WMAX := h
theorem whF_succ (C : Nat → List D → R (D × Bool)) (G : List D) (c : E) (b : List S) (n : Nat) (δ : En) : whF C G c b (n + 1) δ = (ev C G .test c δ).bind fun k => onB k ((exs C G b δ).bind (loopF (whF C G c b n))) (.ok (.nx δ)) := whL_succ _ _ n δ
@[simp] theorem cmp_inS (c : Nat) (y : List Nat) : cmpD .isin (.str [c]) (.str y) = .ok (decide (c ∈ y)) := (rfl)
@[simp] theorem cmp_ninS (c : Nat) (y : List Nat) : cmpD .notin (.str [c]) (.str y) = .ok (!decide (c ∈ y)) := (rfl)
theorem atD_mid {α : Type} (pre suf : List α) (c : α) (i : Int) (h : i = pre.length) : atD (pre ++ c :: suf) i = .ok c := by
  subst h
  exact atD_nat (by simp)
theorem cut_mid {α : Type} (pre suf : List α) (a b : Int) (k : Nat) (ha : a = pre.length) (hb : b = pre.length + k) : cutL (pre ++ suf) (some a) (some b) = suf.take k := by
  rw [cut_both _ (by omega) (by omega)]
  have e1 : a.toNat = pre.length := by omega
  have e2 : b.toNat = pre.length + k := by omega
  rw [e1, e2, List.take_append, List.drop_append]
  simp
theorem LIM_eq : LIM = 16777216 := (rfl)
@[simp] theorem lim0 : (0 ≤ LIM) = True := eq_true (by decide)
@[simp] theorem lim1 : (1 ≤ LIM) = True := eq_true (by decide)
@[simp] theorem lim2 : (2 ≤ LIM) = True := eq_true (by decide)
@[simp] theorem lim3 : (3 ≤ LIM) = True := eq_true (by decide)
@[simp] theorem lim4 : (4 ≤ LIM) = True := eq_true (by decide)
@[simp] theorem lim5 : (5 ≤ LIM) = True := eq_true (by decide)
@[simp] theorem lim6 : (6 ≤ LIM) = True := eq_true (by decide)
@[simp] theorem lim7 : (7 ≤ LIM) = True := eq_true (by decide)
@[simp] theorem lim8 : (8 ≤ LIM) = True := eq_true (by decide)
@[simp] theorem lim9 : (9 ≤ LIM) = True := eq_true (by decide)
@[simp] theorem lim10 : (10 ≤ LIM) = True := eq_true (by decide)
@[simp] theorem lim11 : (11 ≤ LIM) = True := eq_true (by decide)
@[simp] theorem lim12 : (12 ≤ LIM) = True := eq_true (by decide)
@[simp] theorem lim13 : (13 ≤ LIM) = True := eq_true (by decide)
@[simp] theorem lim14 : (14 ≤ LIM) = True := eq_true (by decide)
@[simp] theorem lim15 : (15 ≤ LIM) = True := eq_true (by decide)
@[simp] theorem lim16 : (16 ≤ LIM) = True := eq_true (by decide)
@[simp] theorem lim17 : (17 ≤ LIM) = True := eq_true (by decide)
@[simp] theorem lim18 : (18 ≤ LIM) = True := eq_true (by decide)
@[simp] theorem lim19 : (19 ≤ LIM) = True := eq_true (by decide)
@[simp] theorem lim20 : (20 ≤ LIM) = True := eq_true (by decide)
@[simp] theorem lim21 : (21 ≤ LIM) = True := eq_true (by decide)
@[simp] theorem lim22 : (22 ≤ LIM) = True := eq_true (by decide)
@[simp] theorem lim23 : (23 ≤ LIM) = True := eq_true (by decide)
@[simp] theorem lim24 : (24 ≤ LIM) = True := eq_true (by decide)
@[simp] theorem lim25 : (25 ≤ LIM) = True := eq_true (by decide)
@[simp] theorem lim26 : (26 ≤ LIM) = True := eq_true (by decide)
@[simp] theorem lim27 : (27 ≤ LIM) = True := eq_true (by decide)
@[simp] theorem lim28 : (28 ≤ LIM) = True := eq_true (by decide)
@[simp] theorem lim29 : (29 ≤ LIM) = True := eq_true (by decide)
@[simp] theorem lim30 : (30 ≤ LIM) = True := eq_true (by decide)
@[simp] theorem lim31 : (31 ≤ LIM) = True := eq_true (by decide)
@[simp] theorem lim32 : (32 ≤ LIM) = True := eq_true (by decide)
@[simp] theorem lim33 : (33 ≤ LIM) = True := eq_true (by decide)
@[simp] theorem lim34 : (34 ≤ LIM) = True := eq_true (by decide)
@[simp] theorem lim35 : (35 ≤ LIM) = True := eq_true (by decide)
@[simp] theorem lim36 : (36 ≤ LIM) = True := eq_true (by decide)
@[simp] theorem lim37 : (37 ≤ LIM) = True := eq_true (by decide)
@[simp] theorem lim38 : (38 ≤ LIM) = True := eq_true (by decide)
@[simp] theorem lim39 : (39 ≤ LIM) = True := eq_true (by decide)
@[simp] theorem lim40 : (40 ≤ LIM) = True := eq_true (by decide)
@[simp] theorem lim41 : (41 ≤ LIM) = True := eq_true (by decide)
@[simp] theorem lim42 : (42 ≤ LIM) = True := eq_true (by decide)
@[simp] theorem lim43 : (43 ≤ LIM) = True := eq_true (by decide)
@[simp] theorem lim44 : (44 ≤ LIM) = True := eq_true (by decide)
@[simp] theorem lim45 : (45 ≤ LIM) = True := eq_true (by decide)
@[simp] theorem lim46 : (46 ≤ LIM) = True := eq_true (by decide)
@[simp] theorem lim47 : (47 ≤ LIM) = True := eq_true (by decide)
@[simp] theorem lim48 : (48 ≤ LIM) = True := eq_true (by decide)
@[simp] theorem lim49 : (49 ≤ LIM) = True := eq_true (by decide)
@[simp] theorem lim50 : (50 ≤ LIM) = True := eq_true (by decide)
@[simp] theorem lim51 : (51 ≤ LIM) = True := eq_true (by decide)
@[simp] theorem lim52 : (52 ≤ LIM) = True := eq_true (by decide)
@[simp] theorem lim53 : (53 ≤ LIM) = True := eq_true (by decide)
@[simp] theorem lim54 : (54 ≤ LIM) = True := eq_true (by decide)
@[simp] theorem lim55 : (55 ≤ LIM) = True := eq_true (by decide)
@[simp] theorem lim56 : (56 ≤ LIM) = True := eq_true (by decide)
@[simp] theorem lim57 : (57 ≤ LIM) = True := eq_true (by decide)
@[simp] theorem lim58 : (58 ≤ LIM) = True := eq_true (by decide)
@[simp] theorem lim59 : (59 ≤ LIM) = True := eq_true (by decide)
@[simp] theorem lim60 : (60 ≤ LIM) = True := eq_true (by decide)
@[simp] theorem lim61 : (61 ≤ LIM) = True := eq_true (by decide)
@[simp] theorem lim62 : (62 ≤ LIM) = True := eq_true (by decide)
@[simp] theorem lim63 : (63 ≤ LIM) = True := eq_true (by decide)
@[simp] theorem lim64 : (64 ≤ LIM) = True := eq_true (by decide)
@[simp] theorem lim65 : (65 ≤ LIM) = True := eq_true (by decide)
@[simp] theorem lim66 : (66 ≤ LIM) = True := eq_true (by decide)
@[simp] theorem lim67 : (67 ≤ LIM) = True := eq_true (by decide)
@[simp] theorem lim68 : (68 ≤ LIM) = True := eq_true (by decide)
@[simp] theorem lim69 : (69 ≤ LIM) = True := eq_true (by decide)
@[simp] theorem lim70 : (70 ≤ LIM) = True := eq_true (by decide)
@[simp] theorem lim71 : (71 ≤ LIM) = True := eq_true (by decide)
@[simp] theorem lim72 : (72 ≤ LIM) = True := eq_true (by decide)
@[simp] theorem lim73 : (73 ≤ LIM) = True := eq_true (by decide)
@[simp] theorem lim74 : (74 ≤ LIM) = True := eq_true (by decide)
@[simp] theorem lim75 : (75 ≤ LIM) = True := eq_true (by decide)
@[simp] theorem lim76 : (76 ≤ LIM) = True := eq_true (by decide)
@[simp] theorem lim77 : (77 ≤ LIM) = True := eq_true (by decide)
@[simp] theorem lim78 : (78 ≤ LIM) = True := eq_true (by decide)
@[simp] theorem lim79 : (79 ≤ LIM) = True := eq_true (by decide)
@[simp] theorem lim80 : (80 ≤ LIM) = True := eq_true (by decide)
@[simp] theorem lim81 : (81 ≤ LIM) = True := eq_true (by decide)
@[simp] theorem lim82 : (82 ≤ LIM) = True := eq_true (by decide)
@[simp] theorem lim83 : (83 ≤ LIM) = True := eq_true (by decide)
@[simp] theorem lim84 : (84 ≤ LIM) = True := eq_true (by decide)
@[simp] theorem lim85 : (85 ≤ LIM) = True := eq_true (by decide)
@[simp] theorem lim86 : (86 ≤ LIM) = True := eq_true (by decide)
@[simp] theorem lim87 : (87 ≤ LIM) = True := eq_true (by decide)
@[simp] theorem lim88 : (88 ≤ LIM) = True := eq_true (by decide)
@[simp] theorem lim89 : (89 ≤ LIM) = True := eq_true (by decide)
@[simp] theorem lim90 : (90 ≤ LIM) = True := eq_true (by decide)
@[simp] theorem lim91 : (91 ≤ LIM) = True := eq_true (by decide)
@[simp] theorem lim92 : (92 ≤ LIM) = True := eq_true (by decide)
@[simp] theorem lim93 : (93 ≤ LIM) = True := eq_true (by decide)
@[simp] theorem lim94 : (94 ≤ LIM) = True := eq_true (by decide)
@[simp] theorem lim95 : (95 ≤ LIM) = True := eq_true (by decide)
@[simp] theorem lim96 : (96 ≤ LIM) = True := eq_true (by decide)
@[simp] theorem lim97 : (97 ≤ LIM) = True := eq_true (by decide)
@[simp] theorem lim98 : (98 ≤ LIM) = True := eq_true (by decide)
@[simp] theorem lim99 : (99 ≤ LIM) = True := eq_true (by decide)
/-! figures -/
theorem strI_negN (n : Nat) (h : 0 < n) : strI (-(n : Int)) = 45 :: TL.numL n := by
  obtain ⟨m, rfl⟩ : ∃ m, n = m + 1 := ⟨n - 1, by omega⟩
  rw [← TL.tl_num]
  have e : toString (-((m + 1 : Nat) : Int)) = "-" ++ toString ((m + 1 : Nat) : Int) := rfl
  show TL.tl (PySem.Str.ofString (toString (-((m + 1 : Nat) : Int)))) = _
  rw [e, TL.tl_ofString, TL.tl_ofString, String.toList_append, List.map_append]
  rfl
theorem strI_cases (i : Int) : (∃ n : Nat, i = n ∧ strI i = TL.numL n) ∨ (∃ n : Nat, 0 < n ∧ i = -(n : Int) ∧ strI i = 45 :: TL.numL n) := by
  by_cases h : 0 ≤ i
  · obtain ⟨n, rfl⟩ := Int.eq_ofNat_of_zero_le h
    exact .inl ⟨n, rfl, strI_nat n⟩
  · obtain ⟨n, hn⟩ : ∃ n : Nat, i = -(n : Int) := ⟨i.natAbs, by omega⟩
    subst hn
    exact .inr ⟨n, by omega, rfl, strI_negN n (by omega)⟩
theorem numL_le (n c : Nat) (h : c ∈ TL.numL n) : 48 ≤ c ∧ c ≤ 57 := TL.numL_digits n c h
theorem strI_sgn (i : Int) (c : Nat) (h : c ∈ strI i) : c = 45 ∨ (48 ≤ c ∧ c ≤ 57) := by
  rcases strI_cases i with ⟨n, _, e⟩ | ⟨n, _, _, e⟩
  · rw [e] at h; exact .inr (numL_le n c h)
  · rw [e] at h
    rcases List.mem_cons.mp h with h | h
    · exact .inl h
    · exact .inr (numL_le n c h)
theorem okB_strI (i : Int) : okB (strI i) = true := List.all_eq_true.mpr fun c h => decide_eq_true (by
  rcases strI_sgn i c h with h | h <;> omega)
theorem strI_len {i : Int} {k : Nat} (hk : 0 < k) (h : i.natAbs < 10 ^ k) : (strI i).length ≤ k + 1 := by
  rcases strI_cases i with ⟨n, hn, e⟩ | ⟨n, _, hn, e⟩
  · rw [e]
    have := TL.numL_len hk (n := n) (by rw [hn] at h; simpa using h)
    omega
  · rw [e, List.length_cons]
    have := TL.numL_len hk (n := n) (by rw [hn] at h; simpa using h)
    omega
theorem str_I {i : Int} (h : i.natAbs < 10 ^ 19) : bltD .strOf [.int i] = .ok (.str (strI i)) := by
  rw [str_int, req_pos ⟨Nat.lt_of_lt_of_le h (Nat.le_trans (by decide : 10 ^ 19 ≤ 2 ^ 100) (Nat.pow_le_pow_right (by decide) (by decide))), okB_strI i⟩]
theorem int_digits {s : List Nat} (h : ∀ c ∈ s, 48 ≤ c ∧ c ≤ 57) (h0 : s ≠ []) (hl : s.length ≤ 640) : PySem.intText? ⟨s.toArray⟩ = some ((PySem.NumText.digitsVal s : Nat) : Int) := by
  have := PySem.intText_digits (x := ⟨s.toArray⟩) (fun c hc => h c (by simpa using hc)) (by simpa using h0) (by show s.toArray.size ≤ _; simp; omega)
  simpa using this
theorem int_strI {i : Int} (h : i.natAbs < 10 ^ 19) : bltD .intOf [.str (strI i)] = .ok (.int i) := by
  have hl := strI_len (k := 19) (by decide) h
  refine int_str ?_ (by omega)
  rcases strI_cases i with ⟨n, hn, e⟩ | ⟨n, h0, hn, e⟩
  · rw [e] at hl ⊢
    rw [int_digits (numL_le n) (TL.numL_ne n) (by omega), TL.numL_val, hn]
  · rw [e] at hl ⊢
    rw [PySem.intText_neg (cs := TL.numL n) (by simp) (fun c hc => numL_le n c hc) (TL.numL_ne n) (by show List.length _ ≤ _; simp at hl ⊢; omega), TL.numL_val, hn]
theorem numL_head0 (n : Nat) : ∀ r, TL.numL n = 48 :: r → n = 0 := by
  induction n using Nat.strongRecOn with
  | _ n ih =>
    intro r h
    by_cases h10 : n < 10
    · rw [TL.numL_lt h10] at h
      simp at h
      omega
    · rw [TL.numL_step (by omega)] at h
      cases hq : TL.numL (n / 10) with
      | nil => exact absurd hq (TL.numL_ne _)
      | cons c q =>
        rw [hq] at h
        simp at h
        have := ih (n / 10) (by omega) q (by rw [hq, h.1])
        omega
theorem numL_zero : TL.numL 0 = [48] := TL.numL_lt (by decide)
/-! quotes doubled -/
def dbl : List Nat → List Nat
  | [] => []
  | c :: r => if c = 34 then 34 :: 34 :: dbl r else c :: dbl r
theorem dbl_q (r : List Nat) : dbl (34 :: r) = 34 :: 34 :: dbl r := if_pos rfl
theorem dbl_n {c : Nat} (h : c ≠ 34) (r : List Nat) : dbl (c :: r) = c :: dbl r := if_neg h
theorem replL_dbl : ∀ s : List Nat, PySem.StrLaws.replL [34] [34, 34] s = dbl s
  | [] => PySem.StrLaws.replL_nil
  | c :: r => by
    by_cases h : c = 34
    · subst h
      rw [dbl_q, PySem.StrLaws.replL_hit (by simp) (by rfl), ← replL_dbl r]
      rfl
    · rw [dbl_n h, PySem.StrLaws.replL_miss (by simp [h]), replL_dbl r]
theorem dbl_len : ∀ s : List Nat, (dbl s).length ≤ 2 * s.length
  | [] => Nat.le_refl _
  | c :: r => by
    have := dbl_len r
    by_cases h : c = 34
    · subst h
      rw [dbl_q]
      simp
      omega
    · rw [dbl_n h]
      simp
      omega
theorem dbl_mem {P : Nat → Prop} : ∀ {s : List Nat}, (∀ c ∈ s, P c) → ∀ c ∈ dbl s, P c
  | [], h, _, hc => by cases hc
  | d :: r, h, c, hc => by
    have ih := dbl_mem (s := r) fun x hx => h x (List.mem_cons_of_mem _ hx)
    have hd := h d (List.mem_cons_self ..)
    by_cases h : d = 34
    · subst h
      rw [dbl_q] at hc
      simp at hc
      rcases hc with rfl | hc
      · exact hd
      · exact ih c hc
    · rw [dbl_n h] at hc
      rcases List.mem_cons.mp hc with rfl | hc
      · exact hd
      · exact ih c hc
@[simp] theorem sml0 : smallI 0 = True := eq_true (by decide)
@[simp] theorem sml1 : smallI 1 = True := eq_true (by decide)
@[simp] theorem sml2 : smallI 2 = True := eq_true (by decide)
@[simp] theorem sml3 : smallI 3 = True := eq_true (by decide)
@[simp] theorem sml4 : smallI 4 = True := eq_true (by decide)
@[simp] theorem sml5 : smallI 5 = True := eq_true (by decide)
@[simp] theorem sml6 : smallI 6 = True := eq_true (by decide)
@[simp] theorem sml7 : smallI 7 = True := eq_true (by decide)
@[simp] theorem sml8 : smallI 8 = True := eq_true (by decide)
@[simp] theorem sml9 : smallI 9 = True := eq_true (by decide)
@[simp] theorem sml10 : smallI 10 = True := eq_true (by decide)
@[simp] theorem sml11 : smallI 11 = True := eq_true (by decide)
@[simp] theorem sml12 : smallI 12 = True := eq_true (by decide)
@[simp] theorem sml13 : smallI 13 = True := eq_true (by decide)
@[simp] theorem sml14 : smallI 14 = True := eq_true (by decide)
@[simp] theorem sml15 : smallI 15 = True := eq_true (by decide)
@[simp] theorem sml16 : smallI 16 = True := eq_true (by decide)
@[simp] theorem sml17 : smallI 17 = True := eq_true (by decide)
@[simp] theorem sml18 : smallI 18 = True := eq_true (by decide)
@[simp] theorem sml19 : smallI 19 = True := eq_true (by decide)
@[simp] theorem sml20 : smallI 20 = True := eq_true (by decide)
@[simp] theorem sml30 : smallI 30 = True := eq_true (by decide)
@[simp] theorem sml31 : smallI 31 = True := eq_true (by decide)
@[simp] theorem sml41 : smallI 41 = True := eq_true (by decide)
@[simp] theorem sml90 : smallI 90 = True := eq_true (by decide)
@[simp] theorem sml97 : smallI 97 = True := eq_true (by decide)
@[simp] theorem sml131 : smallI 131 = True := eq_true (by decide)
@[simp] theorem sml850 : smallI 850 = True := eq_true (by decide)
@[simp] theorem sml7919 : smallI 7919 = True := eq_true (by decide)
@[simp] theorem sml48271 : smallI 48271 = True := eq_true (by decide)
@[simp] theorem sml69621 : smallI 69621 = True := eq_true (by decide)
@[simp] theorem sml2147483646 : smallI 2147483646 = True := eq_true (by decide)
@[simp] theorem sml1000000007 : smallI 1000000007 = True := eq_true (by decide)
@[simp] theorem sml10000000019 : smallI 10000000019 = True := eq_true (by decide)
@[simp] theorem sml1000000000 : smallI 1000000000 = True := eq_true (by decide)
@[simp] theorem sml1000000000000 : smallI 1000000000000 = True := eq_true (by decide)
theorem cut_inner {α : Type} (c d : α) (m : List α) : cutL (c :: m ++ [d]) (some 1) (some (-1)) = m := by
  unfold cutL
  have e1 : HT.sIx (c :: m ++ [d]).length 0 (some 1) = 1 := by unfold HT.sIx; simp <;> omega
  have e2 : HT.sIx (c :: m ++ [d]).length (c :: m ++ [d]).length (some (-1)) = m.length + 1 := by unfold HT.sIx; simp <;> omega
  rw [e1, e2]
  simp
theorem last1_app (r : List D) (y : D) : last1 (r ++ [y]) = some (r, y) := by
  unfold last1
  rw [List.reverse_append]
  simp
theorem last2_app (r : List D) (x y : D) : last2 (r ++ [x, y]) = some (r, x, y) := by
  unfold last2
  rw [List.reverse_append]
  simp
theorem ex_pop1 {C : Nat → List D → R (D × Bool)} {G : List D} {i : Nat} {e : E} {δ : En} {d y : D} {r : List D} (he : ev C G .val e δ = .ok d) (hi : δ[i]? = some (.own (r ++ [y]))) (hl : r.length + 1 < LIM) : ex C G (.pop1 i e) δ = .ok (.nx (δ.set i (.own (r ++ [.tup [d, y]])))) := by
  show ((ev C G .val e δ).bind fun d => match δ[i]? with | some (.own xs) => (match last1 xs with | some (r, y) => req (r.length + 1 < LIM) (R.ok (F.nx (δ.set i (.own (r ++ [D.tup [d, y]]))))) | none => .stuck) | _ => .stuck) = _
  rw [he, R.bind_ok, hi]
  show (match last1 (r ++ [y]) with | some (r, y) => req (r.length + 1 < LIM) (R.ok (F.nx (δ.set i (.own (r ++ [D.tup [d, y]]))))) | none => .stuck) = _
  rw [last1_app]
  exact req_pos hl
theorem ex_pop2 {C : Nat → List D → R (D × Bool)} {G : List D} {i : Nat} {e : E} {δ : En} {d x y : D} {r : List D} (he : ev C G .val e δ = .ok d) (hi : δ[i]? = some (.own (r ++ [x, y]))) (hl : r.length + 2 < LIM) : ex C G (.pop2 i e) δ = .ok (.nx (δ.set i (.own (r ++ [.tup [d, x, y]])))) := by
  show ((ev C G .val e δ).bind fun d => match δ[i]? with | some (.own xs) => (match last2 xs with | some (r, x, y) => req (r.length + 2 < LIM) (R.ok (F.nx (δ.set i (.own (r ++ [D.tup [d, x, y]]))))) | none => .stuck) | _ => .stuck) = _
  rw [he, R.bind_ok, hi]
  show (match last2 (r ++ [x, y]) with | some (r, x, y) => req (r.length + 2 < LIM) (R.ok (F.nx (δ.set i (.own (r ++ [D.tup [d, x, y]]))))) | none => .stuck) = _
  rw [last2_app]
  exact req_pos hl
theorem seqs_nx {C : Nat → List D → R (D × Bool)} {G : List D} : ∀ {a b : List S} {δ δ' : En}, exs C G a δ = .ok (.nx δ') → exs C G (a ++ b) δ = exs C G b δ'
  | [], b, δ, δ', h => by
    rw [exs_nil] at h
    cases h
    rfl
  | s :: a, b, δ, δ', h => by
    rw [List.cons_append, exs_cons]
    rw [exs_cons] at h
    cases hs : ex C G s δ with
    | ok f =>
      rw [hs] at h
      cases f with
      | nx δ1 =>
        rw [R.bind_ok, thenF_nx] at h ⊢
        exact seqs_nx h
      | rt d k => rw [R.bind_ok, thenF_rt] at h; cases h
      | bk d => rw [R.bind_ok, thenF_bk] at h; cases h
      | ct d => rw [R.bind_ok, thenF_ct] at h; cases h
      | ex c d => rw [R.bind_ok, thenF_ex] at h; cases h
    | exc c => rw [hs, bind_exc] at h; cases h
    | stuck => rw [hs, bind_stuck] at h; cases h
/-! split and partition at a blank -/
theorem splitT_join (a b : List Nat) : TL.joinL b (splitT a b) = a := by
  have e1 := congrArg (fun z : PySem.Str => z.cps.toList) (PySem.StrLaws.join_split (⟨a.toArray⟩ : PySem.Str) (⟨b.toArray⟩ : PySem.Str))
  have e2 : (PySem.Str.join (⟨b.toArray⟩ : PySem.Str) (PySem.Txt.split (⟨a.toArray⟩ : PySem.Str) ⟨b.toArray⟩)).cps.toList = TL.joinL b (splitT a b) := TL.tl_join _ _
  rw [← e2]
  exact e1
theorem splitT_free (a : List Nat) (c : Nat) : ∀ p ∈ splitT a [c], c ∉ p := fun p hp => by
  obtain ⟨s, hs, rfl⟩ := List.mem_map.mp hp
  exact PySem.StrLaws.split_free ⟨a.toArray⟩ c s hs
theorem splitT_ne (a : List Nat) (c : Nat) : splitT a [c] ≠ [] := by
  unfold splitT PySem.Txt.split
  split
  · simp
  · split
    · simp
    · rw [PySem.StrLaws.partsBetween_eq]
      obtain ⟨p, r, e⟩ := PySem.StrLaws.partsFrom_ne (⟨a.toArray⟩ : PySem.Str) (⟨[c].toArray⟩ : PySem.Str).length 0 (PySem.Builtin.Str.occurrences (⟨a.toArray⟩ : PySem.Str) ⟨[c].toArray⟩ 0 (⟨a.toArray⟩ : PySem.Str).length ((⟨a.toArray⟩ : PySem.Str).length + 1))
      rw [e]
      simp
theorem first_eq {c : Nat} : ∀ {p q r s : List Nat}, c ∉ p → c ∉ q → p ++ c :: r = q ++ c :: s → p = q ∧ r = s
  | [], [], r, s, _, _, h => ⟨rfl, by simpa using h⟩
  | [], y :: q, r, s, _, hq, h => by
    simp at h hq
    exact absurd h.1 hq.1
  | x :: p, [], r, s, hp, _, h => by
    simp at h hp
    exact absurd h.1.symm hp.1
  | x :: p, y :: q, r, s, hp, hq, h => by
    simp at h hp hq
    obtain ⟨rfl, h⟩ := h
    obtain ⟨rfl, h2⟩ := first_eq hp.2 hq.2 h
    exact ⟨rfl, h2⟩
theorem joinL_cons2 (c : Nat) (x y : List Nat) (r : List (List Nat)) : TL.joinL [c] (x :: y :: r) = x ++ c :: TL.joinL [c] (y :: r) := rfl
theorem joinL_inj {c : Nat} : ∀ {ps qs : List (List Nat)}, ps ≠ [] → qs ≠ [] → (∀ p ∈ ps, c ∉ p) → (∀ q ∈ qs, c ∉ q) → TL.joinL [c] ps = TL.joinL [c] qs → ps = qs
  | [], _, h, _, _, _, _ => absurd rfl h
  | _, [], _, h, _, _, _ => absurd rfl h
  | [p], [q], _, _, _, _, h => by
    have h : p = q := h
    rw [h]
  | [p], q :: q2 :: qs, _, _, hp, hq, h => by
    have h : p = q ++ c :: TL.joinL [c] (q2 :: qs) := h
    exact absurd (by rw [h]; simp) (hp p (by simp))
  | p :: p2 :: ps, [q], _, _, hp, hq, h => by
    have h : p ++ c :: TL.joinL [c] (p2 :: ps) = q := h
    exact absurd (by rw [← h]; simp) (hq q (by simp))
  | p :: p2 :: ps, q :: q2 :: qs, _, _, hp, hq, h => by
    rw [joinL_cons2, joinL_cons2] at h
    obtain ⟨rfl, h2⟩ := first_eq (hp p (by simp)) (hq q (by simp)) h
    rw [joinL_inj (by simp) (by simp) (fun z hz => hp z (List.mem_cons_of_mem _ hz)) (fun z hz => hq z (List.mem_cons_of_mem _ hz)) h2]
theorem split_join {c : Nat} {ws : List (List Nat)} (h0 : ws ≠ []) (hw : ∀ w ∈ ws, c ∉ w) : splitT (TL.joinL [c] ws) [c] = ws :=
  joinL_inj (splitT_ne _ _) h0 (splitT_free _ _) hw (splitT_join _ _)
theorem part_hit {c : Nat} {p r : List Nat} (h : c ∉ p) : (part3 (p ++ c :: r) [c]).1.cps.toList = p ∧ (part3 (p ++ c :: r) [c]).2.1.cps.toList = [c] ∧ (part3 (p ++ c :: r) [c]).2.2.cps.toList = r := by
  have sum := PySem.StrLaws.partition_sum (⟨(p ++ c :: r).toArray⟩ : PySem.Str) (⟨[c].toArray⟩ : PySem.Str)
  have e2 : (part3 (p ++ c :: r) [c]).1.cps.toList ++ (part3 (p ++ c :: r) [c]).2.1.cps.toList ++ (part3 (p ++ c :: r) [c]).2.2.cps.toList = p ++ c :: r := by
    have e1 := congrArg (fun z : PySem.Str => z.cps.toList) sum
    rw [← TL.tl_append, ← TL.tl_append]
    exact e1
  have at1 : PySem.StrLaws.At (⟨(p ++ c :: r).toArray⟩ : PySem.Str) ⟨[c].toArray⟩ (p ++ c :: r).length p.length := (PySem.StrLaws.subAt_one ⟨(p ++ c :: r).toArray⟩ c p.length).mpr (by simp)
  have mid : (part3 (p ++ c :: r) [c]).2.1.cps.toList = [c] ∧ c ∉ (part3 (p ++ c :: r) [c]).1.cps.toList := by
    unfold part3 PySem.Txt.partition
    rcases PySem.StrLaws.occ_head (⟨(p ++ c :: r).toArray⟩ : PySem.Str) ⟨[c].toArray⟩ 1 (Nat.le_refl 1) with ⟨h0, hn⟩ | ⟨i, l, h0, hi, hn⟩
    · exact absurd at1 (hn p.length)
    · rw [h0]
      exact ⟨rfl, PySem.StrLaws.part_free _ c 0 i (by have := hi.1; omega) fun k _ hk => hn k hk⟩
  rw [mid.1, List.append_assoc] at e2
  obtain ⟨a1, a2⟩ := first_eq mid.2 h e2
  exact ⟨a1, mid.1, a2⟩
end Fw

namespace K26
open PySem PySem.Spec PyProof.Rows L2 Fw
open Evl (Ex ex_rd ex_l ex_t)
/-! the text in the small language: printed by wip/gen.py -/
def topS (i : Nat) : Stmt := PySem.Challenge.pw_tablestore_k26_whole_many_deeds.main.body.getD i (.Pass ⟨0, 0, 0, 0⟩)
def f0_t0 : S := .ite (.isN (.var 0))
     [.ret (.int 0)]
     []
def f0_t1 : S := .ite (.blt (.isi .str) [.var 0])
     [.ret (.int 2)]
     []
/- 0: rank_of(0 value) -/
def f0 : Fn := ⟨1, 1,
  [f0_t0, f0_t1, .ret (.int 1)], []⟩
def f1_t0 : S := .ite (.cmp .ne (.call 0 [.var 0]) (.call 0 [.var 1]))
     [.ret (.ite (.cmp .lt (.call 0 [.var 0]) (.call 0 [.var 1])) (.neg (.int 1)) (.int 1))]
     []
def f1_t1 : S := .ite (.or [.isN (.var 0), .cmp .eq (.var 0) (.var 1)])
     [.ret (.int 0)]
     []
def f1_t2 : S := .ret (.ite (.cmp .lt (.var 0) (.var 1)) (.neg (.int 1)) (.int 1))
/- 1: compare(0 one, 1 other) -/
def f1 : Fn := ⟨2, 2,
  [f1_t0, f1_t1, f1_t2], []⟩
def f2_t0 : S := .set 2 (.call 1 [.ix (.var 0) (.int 0), .ix (.var 1) (.int 0)])
def f2_t1 : S := .ite (.cmp .ne (.var 2) (.int 0))
     [.ret (.cmp .lt (.var 2) (.int 0))]
     []
def f2_t2 : S := .ret (.cmp .lt (.ix (.var 0) (.int 1)) (.ix (.var 1) (.int 1)))
/- 2: comes_ahead(0 one, 1 other, 2 side) -/
def f2 : Fn := ⟨2, 3,
  [f2_t0, f2_t1, f2_t2], []⟩
/- 3: empty_index() -/
def f3 : Fn := ⟨0, 0,
  [.ret (.tup [.str [108, 101, 97, 102], .tup []])], []⟩
def f4_b0 : List S := 
  [.ext 1 (.call 4 [.var 3])]
def f4_t0 : S := .ite (.cmp .eq (.ix (.var 0) (.int 0)) (.str [108, 101, 97, 102]))
     [.retF (.blt .listOf [.ix (.var 0) (.int 1)])]
     []
def f4_t2 : S := .fr [2, 3] (.ix (.var 0) (.int 1)) f4_b0
/- 4: entries_of(0 index, 1 found, 2 first, 3 cell) -/
def f4 : Fn := ⟨1, 4,
  [f4_t0, .own 1 (.lst []), f4_t2, .retO 1], []⟩
def f5_e0 : E := .call 5 [.ix (.var 1) (.int 1)]
def f5_t0 : S := .ite (.cmp .eq (.ix (.var 0) (.int 0)) (.str [108, 101, 97, 102]))
     [.ret (.blt .len [.ix (.var 0) (.int 1)])]
     []
def f5_t1 : S := .ret (.blt .sumOf [.lc [1] [1] (.ix (.var 0) (.int 1)) .nop f5_e0])
/- 5: many_in(0 index, 1 part) -/
def f5 : Fn := ⟨1, 2,
  [f5_t0, f5_t1], []⟩
def f6_b0 : List S := 
  [.ite (.not (.call 2 [.var 1, .ix (.ix (.var 0) (.var 3)) (.int 0)]))
     [.set 2 (.var 3)]
     []]
def f6_t1 : S := .fr [3] (.rng [.int 1, .blt .len [.var 0]]) f6_b0
/- 6: part_place(0 parts, 1 entry, 2 at, 3 k) -/
def f6 : Fn := ⟨2, 4,
  [.set 2 (.int 0), f6_t1, .ret (.var 2)], []⟩
def f7_c0 : E := .and [.cmp .lt (.var 2) (.blt .len [.var 0]), .call 2 [.ix (.var 0) (.var 2), .var 1]]
def f7_b1 : List S := 
  [.set 2 (.op .add (.var 2) (.int 1))]
/- 7: leaf_place(0 entries, 1 entry, 2 at) -/
def f7 : Fn := ⟨2, 3,
  [.set 2 (.int 0), .wh f7_c0 f7_b1, .ret (.var 2)], []⟩
def f8_t0 : S := .set 2 (.call 7 [.var 0, .var 1])
def f8_t1 : S := .ret (.and [.cmp .lt (.var 2) (.blt .len [.var 0]), .not (.call 2 [.var 1, .ix (.var 0) (.var 2)])])
/- 8: stands(0 entries, 1 entry, 2 at) -/
def f8 : Fn := ⟨2, 3,
  [f8_t0, f8_t1], []⟩
def f9_t0 : S := .ite (.cmp .eq (.ix (.var 0) (.int 0)) (.str [108, 101, 97, 102]))
     [.ret (.ix (.ix (.var 0) (.int 1)) (.int 0))]
     []
def f9_t1 : S := .ret (.ix (.ix (.ix (.var 0) (.int 1)) (.int 0)) (.int 0))
/- 9: first_of(0 cell) -/
def f9 : Fn := ⟨1, 1,
  [f9_t0, f9_t1], []⟩
/- 10: part_of(0 cell) -/
def f10 : Fn := ⟨1, 1,
  [.ret (.tup [.call 9 [.var 0], .var 0])], []⟩
def f11_t0 : S := .ite (.cmp .le (.blt .len [.var 1]) (.glob 1))
     [.retF (.lst [.tup [.var 0, .var 1]])]
     []
def f11_t1 : S := .set 2 (.op .fdiv (.blt .len [.var 1]) (.int 2))
def f11_t2 : S := .retF (.lst [.tup [.var 0, .sl (.var 1) .nop (.var 2)], .tup [.var 0, .sl (.var 1) (.var 2) .nop]])
/- 11: cut(0 word, 1 row, 2 half) -/
def f11 : Fn := ⟨2, 3,
  [f11_t0, f11_t1, f11_t2], []⟩
def f12_e0 : E := .call 10 [.var 6]
def f12_t1 : S := .ite (.cmp .eq (.var 4) (.str [108, 101, 97, 102]))
     [.ite (.call 8 [.var 5, .var 1])
        [.retF (.lst [.var 0])]
        [],
      .set 2 (.call 7 [.var 5, .var 1]),
      .retF (.call 11 [.var 4, .op .add (.op .add (.sl (.var 5) .nop (.var 2)) (.tup [.var 1])) (.sl (.var 5) (.var 2) .nop)])]
     []
def f12_t2 : S := .set 2 (.call 6 [.var 5, .var 1])
def f12_t3 : S := .set 3 (.lc [6] [6] (.call 12 [.ix (.ix (.var 5) (.var 2)) (.int 1), .var 1]) .nop f12_e0)
def f12_t4 : S := .retF (.call 11 [.var 4, .op .add (.op .add (.sl (.var 5) .nop (.var 2)) (.blt .tupleOf [.var 3])) (.sl (.var 5) (.op .add (.var 2) (.int 1)) .nop)])
/- 12: added(0 cell, 1 entry, 2 at, 3 parts, 4 word, 5 row, 6 one) -/
def f12 : Fn := ⟨2, 7,
  [.unp [4, 5] (.var 0), f12_t1, f12_t2, f12_t3, f12_t4], []⟩
def f13_e0 : E := .call 10 [.var 4]
def f13_t0 : S := .set 3 (.call 12 [.var 0, .tup [.var 1, .var 2]])
def f13_t1 : S := .ite (.cmp .eq (.blt .len [.var 3]) (.int 1))
     [.ret (.ix (.var 3) (.int 0))]
     []
def f13_t2 : S := .ret (.tup [.str [98, 114, 97, 110, 99, 104], .blt .tupleOf [.lc [4] [4] (.var 3) .nop f13_e0]])
/- 13: with_entry(0 index, 1 value, 2 number, 3 cells, 4 cell) -/
def f13 : Fn := ⟨3, 5,
  [f13_t0, f13_t1, f13_t2], []⟩
def f14_e0 : E := .call 10 [.var 6]
def f14_t0 : S := .ite (.cmp .ge (.blt .len [.ix (.var 2) (.int 1)]) (.glob 0))
     [.ret (.op .add (.op .add (.sl (.var 0) .nop (.var 1)) (.tup [.call 10 [.var 2]])) (.sl (.var 0) (.op .add (.var 1) (.int 1)) .nop))]
     []
def f14_t1 : S := .set 3 (.blt .max2 [.int 0, .op .sub (.var 1) (.int 1)])
def f14_t2 : S := .own 4 (.lst [.ix (.ix (.var 0) (.var 3)) (.int 1), .ix (.ix (.var 0) (.op .add (.var 3) (.int 1))) (.int 1)])
def f14_t3 : S := .seti 4 (.op .sub (.var 1) (.var 3)) (.var 2)
def f14_t4 : S := .set 5 (.lc [6] [6] (.call 11 [.ix (.var 2) (.int 0), .op .add (.ix (.ix (.var 4) (.int 0)) (.int 1)) (.ix (.ix (.var 4) (.int 1)) (.int 1))]) .nop f14_e0)
def f14_t5 : S := .ret (.op .add (.op .add (.sl (.var 0) .nop (.var 3)) (.blt .tupleOf [.var 5])) (.sl (.var 0) (.op .add (.var 3) (.int 2)) .nop))
/- 14: filled(0 row, 1 at, 2 cell, 3 left, 4 cells, 5 parts, 6 one) -/
def f14 : Fn := ⟨3, 7,
  [f14_t0, f14_t1, f14_t2, f14_t3, f14_t4, f14_t5], []⟩
def f15_t1 : S := .ite (.cmp .eq (.var 3) (.str [108, 101, 97, 102]))
     [.ite (.not (.call 8 [.var 4, .var 1]))
        [.ret (.var 0)]
        [],
      .set 2 (.call 7 [.var 4, .var 1]),
      .ret (.tup [.var 3, .op .add (.sl (.var 4) .nop (.var 2)) (.sl (.var 4) (.op .add (.var 2) (.int 1)) .nop)])]
     []
def f15_t2 : S := .set 2 (.call 6 [.var 4, .var 1])
def f15_t3 : S := .ret (.tup [.var 3, .call 14 [.var 4, .var 2, .call 15 [.ix (.ix (.var 4) (.var 2)) (.int 1), .var 1]]])
/- 15: taken(0 cell, 1 entry, 2 at, 3 word, 4 row) -/
def f15 : Fn := ⟨2, 5,
  [.unp [3, 4] (.var 0), f15_t1, f15_t2, f15_t3], []⟩
def f16_t0 : S := .set 3 (.call 15 [.var 0, .tup [.var 1, .var 2]])
def f16_t1 : S := .ite (.and [.cmp .eq (.ix (.var 3) (.int 0)) (.str [98, 114, 97, 110, 99, 104]), .cmp .eq (.blt .len [.ix (.var 3) (.int 1)]) (.int 1)])
     [.ret (.ix (.ix (.ix (.var 3) (.int 1)) (.int 0)) (.int 1))]
     []
/- 16: without_entry(0 index, 1 value, 2 number, 3 cell) -/
def f16 : Fn := ⟨3, 4,
  [f16_t0, f16_t1, .ret (.var 3)], []⟩
def f17_b0 : List S := 
  [.set 1 (.call 13 [.var 1, .var 2, .var 3])]
def f17_t1 : S := .fr [2, 3] (.var 0) f17_b0
/- 17: index_from(0 entries, 1 index, 2 value, 3 number) -/
def f17 : Fn := ⟨1, 4,
  [.set 1 (.call 3 []), f17_t1, .ret (.var 1)], []⟩
def f18_t0 : S := .ite (.cmp .lt (.var 1) (.blt .len [.var 0]))
     [.ret (.ix (.var 0) (.var 1))]
     []
/- 18: _law_cell_at(0 _law_script, 1 _law_k) -/
def f18 : Fn := ⟨2, 2,
  [f18_t0, .ret (.int 0)], []⟩
/- 19: _law_whole(0 _law_found) -/
def f19 : Fn := ⟨1, 1,
  [.ret (.and [.blt (.isi .int) [.var 0], .not (.blt (.isi .bool) [.var 0])])], []⟩
def f20_l0_0 : S := .set 3 (.op .mod (.op .add (.op .add (.op .mul (.var 3) (.int 48271)) (.int 11)) (.var 4)) (.int 2147483647))
def f20_b1 : List S := 
  [f20_l0_0, .app 2 (.var 3)]
def f20_t1 : S := .set 3 (.op .mod (.var 0) (.int 2147483647))
def f20_t2 : S := .fr [4] (.rng [.var 1]) f20_b1
/- 20: _law_stream(0 _law_cell, 1 _law_many, 2 _law_found, 3 _law_number, 4 _law_k) -/
def f20 : Fn := ⟨2, 5,
  [.own 2 (.lst []), f20_t1, f20_t2, .retO 2], []⟩
def f21_s0 : List Nat := [32, 33, 34, 35, 36, 38, 39, 40, 41, 42, 43, 44, 45, 46, 47, 48, 49, 50, 51, 52, 53, 54, 55, 56, 57, 58, 59, 60, 61, 62, 63, 64, 65, 66, 67, 68, 69, 70, 71, 72, 73, 74, 75, 76, 77, 78, 79, 80, 81, 82, 83, 84, 85, 86, 87, 88, 89, 90, 91, 92, 93, 94, 95, 96]
@[simp] theorem f21_s0_len : f21_s0.length = 64 := of_decide_eq_true rfl
def f21_s1 : List Nat := [97, 98, 99, 100, 101, 102, 103, 104, 105, 106, 107, 108, 109, 110, 111, 112, 113, 114, 115, 116, 117, 118, 119, 120, 121, 122, 123, 124, 125, 126]
@[simp] theorem f21_s1_len : f21_s1.length = 30 := of_decide_eq_true rfl
def f21_e2 : E := .ix (.var 1) (.op .mod (.op .add (.op .fdiv (.op .fdiv (.var 0) (.int 8)) (.op .add (.var 3) (.int 1))) (.var 3)) (.int 94))
def f21_t1 : S := .set 1 (.op .add (.var 1) (.str f21_s1))
def f21_t2 : S := .set 2 (.op .mod (.var 0) (.int 8))
def f21_t3 : S := .ite (.cmp .eq (.var 2) (.int 0))
     [.ret .non]
     []
def f21_t4 : S := .ite (.cmp .lt (.var 2) (.int 4))
     [.ret (.op .sub (.op .mod (.op .fdiv (.var 0) (.int 8)) (.int 7)) (.int 3))]
     []
def f21_t5 : S := .ite (.cmp .eq (.var 2) (.int 4))
     [.ret (.ix (.lst [.op .sub (.op .pow (.int 10) (.int 18)) (.int 1), .op .sub (.int 1) (.op .pow (.int 10) (.int 18)), .op .pow (.int 10) (.int 9), .neg (.int 10)]) (.op .mod (.op .fdiv (.var 0) (.int 8)) (.int 4)))]
     []
def f21_t6 : S := .ite (.cmp .eq (.var 2) (.int 5))
     [.ret (.op .sub (.op .mod (.op .mul (.op .mul (.var 0) (.var 0)) (.int 48271)) (.op .sub (.op .mul (.int 2) (.op .pow (.int 10) (.int 18))) (.int 1))) (.op .sub (.op .pow (.int 10) (.int 18)) (.int 1)))]
     []
def f21_t7 : S := .ite (.cmp .eq (.var 2) (.int 6))
     [.ret (.ix (.lst [.str [], .str [97], .str [97, 98], .str [98], .str [97, 66], .str [32], .str [126], .str [97, 32]]) (.op .mod (.op .fdiv (.var 0) (.int 8)) (.int 8)))]
     []
def f21_t8 : S := .ret (.mth .join (.str []) [.lc [3] [3] (.rng [.op .mod (.op .fdiv (.var 0) (.int 64)) (.int 41)]) .nop f21_e2])
/- 21: _law_value(0 _law_x, 1 _law_some, 2 _law_way, 3 _law_k) -/
def f21 : Fn := ⟨1, 4,
  [.set 1 (.str f21_s0), f21_t1, f21_t2, f21_t3, f21_t4, f21_t5, f21_t6, f21_t7, f21_t8], []⟩
def f22_t0 : S := .ite (.isN (.ix (.var 0) (.int 0)))
     [.ret (.tup [.int 0, .int 0, .str [], .ix (.var 0) (.int 1)])]
     []
def f22_t1 : S := .ite (.blt (.isi .str) [.ix (.var 0) (.int 0)])
     [.ret (.tup [.int 2, .int 0, .ix (.var 0) (.int 0), .ix (.var 0) (.int 1)])]
     []
def f22_t2 : S := .ret (.tup [.int 1, .ix (.var 0) (.int 0), .str [], .ix (.var 0) (.int 1)])
/- 22: _law_key(0 _law_entry_here) -/
def f22 : Fn := ⟨1, 1,
  [f22_t0, f22_t1, f22_t2], []⟩
/- 23: _law_entry(0 _law_x) -/
def f23 : Fn := ⟨1, 1,
  [.ret (.tup [.call 21 [.op .fdiv (.var 0) (.int 3)], .op .add (.int 1) (.op .mod (.op .mod (.op .mul (.var 0) (.int 69621)) (.int 2147483647)) (.ix (.lst [.int 9, .int 60, .op .pow (.int 10) (.int 9)]) (.op .mod (.var 0) (.int 3))))])], []⟩
def f24_c0 : E := .or [.cmp .eq (.var 2) (.int 0), .cmp .ne (.ix (.var 1) (.var 2)) (.ix (.var 1) (.op .sub (.var 2) (.int 1)))]
def f24_e1 : E := .ix (.var 1) (.var 2)
def f24_t0 : S := .set 1 (.srt 22 (.var 0))
def f24_t1 : S := .retF (.lc [2] [2] (.rng [.blt .len [.var 1]]) f24_c0 f24_e1)
/- 24: _law_once(0 _law_entries, 1 _law_rows, 2 _law_k) -/
def f24 : Fn := ⟨1, 3,
  [f24_t0, f24_t1], []⟩
def f25_t0 : S := .ite (.or [.not (.blt (.isi .tuple) [.var 0]), .cmp .ne (.blt .len [.var 0]) (.int 2), .not (.call 19 [.ix (.var 0) (.int 1)]), .cmp .ne (.ix (.var 0) (.int 1)) (.ix (.var 1) (.int 1))])
     [.ret (.bl false)]
     []
def f25_t1 : S := .ite (.or [.isN (.ix (.var 1) (.int 0)), .isN (.ix (.var 0) (.int 0))])
     [.ret (.and [.isN (.ix (.var 0) (.int 0)), .isN (.ix (.var 1) (.int 0))])]
     []
def f25_t2 : S := .ite (.cmp .ne (.blt (.isi .str) [.ix (.var 0) (.int 0)]) (.blt (.isi .str) [.ix (.var 1) (.int 0)]))
     [.ret (.bl false)]
     []
def f25_t3 : S := .ret (.and [.cmp .eq (.ix (.var 0) (.int 0)) (.ix (.var 1) (.int 0)), .or [.blt (.isi .str) [.ix (.var 0) (.int 0)], .call 19 [.ix (.var 0) (.int 0)]]])
/- 25: _law_same(0 _law_one, 1 _law_other) -/
def f25 : Fn := ⟨2, 2,
  [f25_t0, f25_t1, f25_t2, f25_t3], []⟩
def f26_b0 : List S := 
  [.ite (.not (.call 25 [.ix (.var 0) (.var 2), .ix (.var 1) (.var 2)]))
     [.ret (.bl false)]
     []]
def f26_t0 : S := .ite (.or [.not (.blt (.isi .list) [.var 0]), .cmp .ne (.blt .len [.var 0]) (.blt .len [.var 1])])
     [.ret (.bl false)]
     []
def f26_t1 : S := .fr [2] (.rng [.blt .len [.var 1]]) f26_b0
/- 26: _law_alike(0 _law_found, 1 _law_rows, 2 _law_k) -/
def f26 : Fn := ⟨2, 3,
  [f26_t0, f26_t1, .ret (.bl true)], []⟩
def f27_l0x_0 : S := .ite (.and [.cmp .ne (.var 2) (.lst []), .cmp .ne (.ix (.ix (.var 2) (.int 0)) (.int 0)) (.op .add (.var 5) (.int 1))])
     [.ret .non]
     []
def f27_l0x_1 : S := .app 2 (.tup [.op .add (.var 5) (.int 1), .var 6])
def f27_b2 : List S := 
  [f27_l0x_0, f27_l0x_1]
def f27_l0_1 : S := .ite (.and [.blt (.isi .tuple) [.var 3], .cmp .eq (.blt .len [.var 3]) (.int 2)])
     [.set 4 (.call 27 [.ix (.var 3) (.int 1), .bl false])]
     []
def f27_l0_2 : S := .ite (.or [.isN (.var 4), .not (.call 25 [.ix (.var 3) (.int 0), .ix (.ix (.ix (.var 4) (.int 0)) (.int 1)) (.int 0)])])
     [.ret .non]
     []
def f27_l0_3 : S := .fr [5, 6] (.var 4) f27_b2
def f27_b6 : List S := 
  [.set 4 .non, f27_l0_1, f27_l0_2, f27_l0_3]
def f27_t0 : S := .ite (.or [.not (.blt (.isi .tuple) [.var 0]), .cmp .ne (.blt .len [.var 0]) (.int 2), .not (.blt (.isi .tuple) [.ix (.var 0) (.int 1)]), .cmp .gt (.blt .len [.ix (.var 0) (.int 1)]) (.int 8)])
     [.ret .non]
     []
def f27_t1 : S := .ite (.cmp .eq (.ix (.var 0) (.int 0)) (.str [108, 101, 97, 102]))
     [.ret (.ite (.or [.var 1, .cmp .gt (.blt .len [.ix (.var 0) (.int 1)]) (.int 3)]) (.lst [.tup [.int 0, .blt .listOf [.ix (.var 0) (.int 1)]]]) .non)]
     []
def f27_t2 : S := .ite (.or [.cmp .ne (.ix (.var 0) (.int 0)) (.str [98, 114, 97, 110, 99, 104]), .cmp .lt (.blt .len [.ix (.var 0) (.int 1)]) (.ix (.lst [.int 4, .int 2]) (.blt .intOf [.var 1]))])
     [.ret .non]
     []
def f27_t4 : S := .fr [3] (.ix (.var 0) (.int 1)) f27_b6
/- 27: _law_cells(0 _law_cell, 1 _law_root, 2 _law_leaves, 3 _law_part, 4 _law_beneath, 5 _law_depth, 6 _law_entries) -/
def f27 : Fn := ⟨2, 7,
  [f27_t0, f27_t1, f27_t2, .own 2 (.lst []), f27_t4, .freeze 2, .ret (.var 2)], []⟩
def f28_b0 : List S := 
  [.set 3 (.op .add (.var 3) (.var 5))]
def f28_t0 : S := .set 2 (.call 27 [.var 0, .bl true])
def f28_t1 : S := .ite (.isN (.var 2))
     [.ret (.bl false)]
     []
def f28_t3 : S := .fr [4, 5] (.var 2) f28_b0
def f28_t4 : S := .ret (.call 26 [.var 3, .var 1])
/- 28: _law_has(0 _law_found, 1 _law_rows, 2 _law_leaves, 3 _law_entries, 4 _law_depth, 5 _law_some) -/
def f28 : Fn := ⟨2, 6,
  [f28_t0, f28_t1, .set 3 (.lst []), f28_t3, f28_t4], []⟩
def f29_e0 : E := .call 23 [.var 3]
def f29_t0 : S := .set 1 (.op .mod (.var 0) (.int 20))
def f29_t1 : S := .ite (.cmp .eq (.op .mod (.op .fdiv (.var 0) (.int 20)) (.int 3)) (.int 1))
     [.set 1 (.op .add (.int 20) (.op .mod (.op .fdiv (.var 0) (.int 60)) (.int 100)))]
     []
def f29_t2 : S := .set 2 (.lc [3] [3] (.call 20 [.var 0, .var 1]) .nop f29_e0)
def f29_t3 : S := .ret (.op .add (.var 2) (.sl (.var 2) .nop (.op .mod (.var 0) (.int 3))))
/- 29: _law_list(0 _law_cell, 1 _law_many, 2 _law_entries, 3 _law_x) -/
def f29 : Fn := ⟨1, 4,
  [f29_t0, f29_t1, f29_t2, f29_t3], []⟩
def f30_l0_0 : S := .set 4 (.ix (.lst [.int 0, .op .mul (.op .sub (.blt .len [.var 1]) (.int 1)) (.op .mod (.var 3) (.int 2)), .op .fdiv (.blt .len [.var 1]) (.int 2)]) (.op .mod (.var 2) (.int 3)))
def f30_l0_1 : S := .set 0 (.call 16 [.var 0, .ix (.ix (.var 1) (.var 4)) (.int 0), .ix (.ix (.var 1) (.var 4)) (.int 1)])
def f30_l0_2 : S := .set 1 (.op .add (.sl (.var 1) .nop (.var 4)) (.sl (.var 1) (.op .add (.var 4) (.int 1)) .nop))
def f30_b3 : List S := 
  [f30_l0_0, f30_l0_1, f30_l0_2]
def f30_t0 : S := .fr [3] (.rng [.op .sub (.blt .len [.var 1]) (.op .mod (.op .fdiv (.var 2) (.int 3)) (.int 9))]) f30_b3
def f30_t1 : S := .ret (.tup [.var 0, .var 1])
/- 30: _law_thinned(0 _law_index, 1 _law_rows, 2 _law_x, 3 _law_k, 4 _law_at) -/
def f30 : Fn := ⟨3, 5,
  [f30_t0, f30_t1], []⟩
def f31_t0 : S := .set 3 (.call 23 [.op .fdiv (.var 0) (.int 8)])
def f31_t1 : S := .ite (.and [.cmp .ne (.var 1) (.lst []), .cmp .gt (.op .mod (.var 0) (.int 8)) (.int 2)])
     [.set 4 (.ix (.var 1) (.op .mod (.op .fdiv (.var 0) (.int 8)) (.blt .len [.var 1]))),
      .set 3 (.ix (.lst [.tup [.ix (.var 3) (.int 0), .ix (.var 4) (.int 1)], .tup [.ix (.var 4) (.int 0), .ix (.var 3) (.int 1)], .var 4, .var 4, .var 4]) (.op .sub (.op .mod (.var 0) (.int 8)) (.int 3)))]
     []
def f31_t2 : S := .ite (.and [.cmp .ne (.var 2) (.lst []), .cmp .eq (.op .mod (.var 0) (.int 8)) (.int 2)])
     [.set 3 (.ix (.var 2) (.op .mod (.op .fdiv (.var 0) (.int 8)) (.blt .len [.var 2])))]
     []
def f31_t3 : S := .ret (.tup [.or [.cmp .gt (.op .mod (.var 0) (.int 8)) (.int 4), .cmp .eq (.op .mod (.var 0) (.int 8)) (.int 1)], .var 3])
/- 31: _law_deed(0 _law_x, 1 _law_rows, 2 _law_gone, 3 _law_entry_here, 4 _law_one) -/
def f31 : Fn := ⟨3, 5,
  [f31_t0, f31_t1, f31_t2, f31_t3], []⟩
def f32_c0 : E := .not (.call 25 [.var 3, .var 2])
def f32_e1 : E := .var 3
def f32_t0 : S := .ite (.var 1)
     [.retF (.lc [3] [3] (.var 0) f32_c0 f32_e1)]
     []
def f32_t1 : S := .retF (.call 24 [.op .add (.var 0) (.lst [.var 2])])
/- 32: _law_behind(0 _law_rows, 1 _law_less, 2 _law_entry_here, 3 _law_one) -/
def f32 : Fn := ⟨3, 4,
  [f32_t0, f32_t1], []⟩
def f33_l0_0 : S := .set 10 (.op .fdiv (.op .mod (.var 9) (.int 3)) (.int 2))
def f33_l0_1 : S := .unp [14, 15] (.bcall 31 [.op .mod (.op .add (.op .mul (.op .fdiv (.var 9) (.int 3)) (.int 48271)) (.op .mul (.int 11) (.var 8))) (.int 2147483647), .ix (.var 4) (.var 10), .var 7])
def f33_l0_2 : S := .ite (.var 14)
     [.app 7 (.var 15),
      .seti 3 (.var 10) (.call 16 [.ix (.var 3) (.var 10), .ix (.var 15) (.int 0), .ix (.var 15) (.int 1)])]
     [.seti 3 (.var 10) (.call 13 [.ix (.var 3) (.var 10), .ix (.var 15) (.int 0), .ix (.var 15) (.int 1)])]
def f33_l0_3 : S := .seti 4 (.var 10) (.call 32 [.ix (.var 4) (.var 10), .var 14, .var 15])
def f33_l0_4 : S := .set 11 (.call 4 [.ix (.var 3) (.var 10)])
def f33_l0_5 : S := .app 6 (.tup [.var 11, .ix (.var 4) (.var 10)])
def f33_l0_6 : S := .ite (.or [.cmp .ne (.call 5 [.ix (.var 3) (.var 10)]) (.blt .len [.ix (.var 4) (.var 10)]), .not (.call 26 [.var 11, .ix (.var 4) (.var 10)])])
     [.ret (.bl false)]
     []
def f33_l0_7 : S := .ite (.cmp .eq (.op .mod (.var 8) (.int 3)) (.int 0))
     [.app 5 (.tup [.ix (.var 3) (.var 10), .ix (.var 4) (.var 10)])]
     []
def f33_b8 : List S := 
  [f33_l0_0, f33_l0_1, f33_l0_2, f33_l0_3, f33_l0_4, f33_l0_5, f33_l0_6, f33_l0_7]
def f33_b9 : List S := 
  [.ite (.not (.call 26 [.var 11, .var 12]))
     [.ret (.bl false)]
     []]
def f33_b10 : List S := 
  [.ite (.or [.not (.call 28 [.var 13, .var 12]), .not (.call 26 [.call 4 [.var 13], .var 12])])
     [.ret (.bl false)]
     []]
def f33_t0 : S := .set 1 (.call 29 [.op .mod (.call 18 [.var 0, .int 0]) (.op .pow (.int 10) (.int 12))])
def f33_t1 : S := .own 2 (.blt .listOf [.var 1])
def f33_t2 : S := .own 3 (.lst [.bcall 17 [.var 2], .call 17 [.lst []]])
def f33_t3 : S := .own 4 (.lst [.call 24 [.var 1], .lst []])
def f33_t4 : S := .ite (.or [.cmp .ne (.var 2) (.var 1), .not (.call 28 [.ix (.var 3) (.int 0), .ix (.var 4) (.int 0)])])
     [.ret (.bl false)]
     []
def f33_t6 : S := .ite (.not (.call 26 [.call 4 [.ix (.var 3) (.int 0)], .ix (.var 4) (.int 0)]))
     [.ret (.bl false)]
     []
def f33_t7 : S := .ite (.cmp .eq (.op .mod (.call 18 [.var 0, .int 1]) (.int 3)) (.int 1))
     [.unpi 3 4 0 0 (.call 30 [.ix (.var 3) (.int 0), .ix (.var 4) (.int 0), .op .mod (.op .fdiv (.call 18 [.var 0, .int 1]) (.int 3)) (.op .pow (.int 10) (.int 9))])]
     []
def f33_t11 : S := .fr [8, 9] (.enum (.sl (.var 0) (.int 2) .nop)) f33_b8
def f33_t13 : S := .fr [11, 12] (.var 6) f33_b9
def f33_t14 : S := .fr [13, 12] (.op .add (.sl (.var 5) .nop (.int 6)) (.lst [.tup [.ix (.var 3) (.int 0), .ix (.var 4) (.int 0)], .tup [.ix (.var 3) (.int 1), .ix (.var 4) (.int 1)]])) f33_b10
/- 33: law(0 _law_script, 1 _law_entries, 2 _law_handed, 3 _law_indexes, 4 _law_rows, 5 _law_kept, 6 _law_held, 7 _law_gone, 8 _law_turn, 9 _law_cell, 10 _law_which, 11 _law_found, 12 _law_some, 13 _law_index, 14 _law_less, 15 _law_entry_here) -/
def f33 : Fn := ⟨1, 16,
  [f33_t0, f33_t1, f33_t2, f33_t3, f33_t4, .clr 2, f33_t6, f33_t7, .own 5 (.lst []), .own 6 (.lst []), .own 7 (.lst []), f33_t11, .freeze 6, f33_t13, f33_t14, .ret (.bl true)], []⟩
def d0 : Df := ⟨"rank_of", "rank_of", ["value"], ["value"], topS 1, f0⟩
def d1 : Df := ⟨"compare", "compare", ["one", "other"], ["one", "other"], topS 2, f1⟩
def d2 : Df := ⟨"comes_ahead", "comes_ahead", ["one", "other"], ["one", "other", "side"], topS 6, f2⟩
def d3 : Df := ⟨"empty_index", "empty_index", [], [], topS 7, f3⟩
def d4 : Df := ⟨"entries_of", "entries_of", ["index"], ["index", "found", "first", "cell"], topS 8, f4⟩
def d5 : Df := ⟨"many_in", "many_in", ["index"], ["index", "part"], topS 9, f5⟩
def d6 : Df := ⟨"part_place", "part_place", ["parts", "entry"], ["parts", "entry", "at", "k"], topS 10, f6⟩
def d7 : Df := ⟨"leaf_place", "leaf_place", ["entries", "entry"], ["entries", "entry", "at"], topS 11, f7⟩
def d8 : Df := ⟨"stands", "stands", ["entries", "entry"], ["entries", "entry", "at"], topS 12, f8⟩
def d9 : Df := ⟨"first_of", "first_of", ["cell"], ["cell"], topS 14, f9⟩
def d10 : Df := ⟨"part_of", "part_of", ["cell"], ["cell"], topS 15, f10⟩
def d11 : Df := ⟨"cut", "cut", ["word", "row"], ["word", "row", "half"], topS 16, f11⟩
def d12 : Df := ⟨"added", "added", ["cell", "entry"], ["cell", "entry", "at", "parts", "word", "row", "one"], topS 17, f12⟩
def d13 : Df := ⟨"with_entry", "with_entry", ["index", "value", "number"], ["index", "value", "number", "cells", "cell"], topS 18, f13⟩
def d14 : Df := ⟨"filled", "filled", ["row", "at", "cell"], ["row", "at", "cell", "left", "cells", "parts", "one"], topS 19, f14⟩
def d15 : Df := ⟨"taken", "taken", ["cell", "entry"], ["cell", "entry", "at", "word", "row"], topS 20, f15⟩
def d16 : Df := ⟨"without_entry", "without_entry", ["index", "value", "number"], ["index", "value", "number", "cell"], topS 21, f16⟩
def d17 : Df := ⟨"index_from", "index_from", ["entries"], ["entries", "index", "value", "number"], topS 22, f17⟩
def d18 : Df := ⟨"_law_cell_at", "_law_cell_at", ["_law_script", "_law_k"], ["_law_script", "_law_k"], topS 24, f18⟩
def d19 : Df := ⟨"_law_whole", "_law_whole", ["_law_found"], ["_law_found"], topS 25, f19⟩
def d20 : Df := ⟨"_law_stream", "_law_stream", ["_law_cell", "_law_many"], ["_law_cell", "_law_many", "_law_found", "_law_number", "_law_k"], topS 26, f20⟩
def d21 : Df := ⟨"_law_value", "_law_value", ["_law_x"], ["_law_x", "_law_some", "_law_way", "_law_k"], topS 27, f21⟩
def d22 : Df := ⟨"_law_key", "_law_key", ["_law_entry_here"], ["_law_entry_here"], topS 28, f22⟩
def d23 : Df := ⟨"_law_entry", "_law_entry", ["_law_x"], ["_law_x"], topS 29, f23⟩
def d24 : Df := ⟨"_law_once", "_law_once", ["_law_entries"], ["_law_entries", "_law_rows", "_law_k"], topS 30, f24⟩
def d25 : Df := ⟨"_law_same", "_law_same", ["_law_one", "_law_other"], ["_law_one", "_law_other"], topS 31, f25⟩
def d26 : Df := ⟨"_law_alike", "_law_alike", ["_law_found", "_law_rows"], ["_law_found", "_law_rows", "_law_k"], topS 32, f26⟩
def d27 : Df := ⟨"_law_cells", "_law_cells", ["_law_cell", "_law_root"], ["_law_cell", "_law_root", "_law_leaves", "_law_part", "_law_beneath", "_law_depth", "_law_entries"], topS 33, f27⟩
def d28 : Df := ⟨"_law_has", "_law_has", ["_law_found", "_law_rows"], ["_law_found", "_law_rows", "_law_leaves", "_law_entries", "_law_depth", "_law_some"], topS 34, f28⟩
def d29 : Df := ⟨"_law_list", "_law_list", ["_law_cell"], ["_law_cell", "_law_many", "_law_entries", "_law_x"], topS 35, f29⟩
def d30 : Df := ⟨"_law_thinned", "_law_thinned", ["_law_index", "_law_rows", "_law_x"], ["_law_index", "_law_rows", "_law_x", "_law_k", "_law_at"], topS 36, f30⟩
def d31 : Df := ⟨"_law_deed", "_law_deed", ["_law_x", "_law_rows", "_law_gone"], ["_law_x", "_law_rows", "_law_gone", "_law_entry_here", "_law_one"], topS 37, f31⟩
def d32 : Df := ⟨"_law_behind", "_law_behind", ["_law_rows", "_law_less", "_law_entry_here"], ["_law_rows", "_law_less", "_law_entry_here", "_law_one"], topS 38, f32⟩
def d33 : Df := ⟨"law", "law", ["_law_script"], ["_law_script", "_law_entries", "_law_handed", "_law_indexes", "_law_rows", "_law_kept", "_law_held", "_law_gone", "_law_turn", "_law_cell", "_law_which", "_law_found", "_law_some", "_law_index", "_law_less", "_law_entry_here"], topS 39, f33⟩
def defs : List Df := [d0, d1, d2, d3, d4, d5, d6, d7, d8, d9, d10, d11, d12, d13, d14, d15, d16, d17, d18, d19, d20, d21, d22, d23, d24, d25, d26, d27, d28, d29, d30, d31, d32, d33]
def law : Lw := ⟨[f0, f1, f2, f3, f4, f5, f6, f7, f8, f9, f10, f11, f12, f13, f14, f15, f16, f17, f18, f19, f20, f21, f22, f23, f24, f25, f26, f27, f28, f29, f30, f31, f32, f33], [.int 4, .int 8], ⟨[PySem.Str.ofString "rank_of", PySem.Str.ofString "compare", PySem.Str.ofString "comes_ahead", PySem.Str.ofString "empty_index", PySem.Str.ofString "entries_of", PySem.Str.ofString "many_in", PySem.Str.ofString "part_place", PySem.Str.ofString "leaf_place", PySem.Str.ofString "stands", PySem.Str.ofString "first_of", PySem.Str.ofString "part_of", PySem.Str.ofString "cut", PySem.Str.ofString "added", PySem.Str.ofString "with_entry", PySem.Str.ofString "filled", PySem.Str.ofString "taken", PySem.Str.ofString "without_entry", PySem.Str.ofString "index_from", PySem.Str.ofString "_law_cell_at", PySem.Str.ofString "_law_whole", PySem.Str.ofString "_law_stream", PySem.Str.ofString "_law_value", PySem.Str.ofString "_law_key", PySem.Str.ofString "_law_entry", PySem.Str.ofString "_law_once", PySem.Str.ofString "_law_same", PySem.Str.ofString "_law_alike", PySem.Str.ofString "_law_cells", PySem.Str.ofString "_law_has", PySem.Str.ofString "_law_list", PySem.Str.ofString "_law_thinned", PySem.Str.ofString "_law_deed", PySem.Str.ofString "_law_behind", PySem.Str.ofString "law"], ["LEAST", "MOST"], ["bool", "enumerate", "int", "isinstance", "len", "list", "max", "range", "sorted", "str", "sum", "tuple"], [], [], 0, false⟩⟩
theorem u0 (n : Nat) (x0 : D) : run law.Γ law.G (n + 1) 0 [x0] = (noX (exs (run law.Γ law.G n) law.G [f0_t0, f0_t1, .ret (.int 1)] [.dat x0])).bind fin := (rfl)
theorem u1 (n : Nat) (x0 x1 : D) : run law.Γ law.G (n + 1) 1 [x0, x1] = (noX (exs (run law.Γ law.G n) law.G [f1_t0, f1_t1, f1_t2] [.dat x0, .dat x1])).bind fin := (rfl)
theorem u2 (n : Nat) (x0 x1 : D) : run law.Γ law.G (n + 1) 2 [x0, x1] = (noX (exs (run law.Γ law.G n) law.G [f2_t0, f2_t1, f2_t2] [.dat x0, .dat x1, .no])).bind fin := (rfl)
theorem u3 (n : Nat) : run law.Γ law.G (n + 1) 3 [] = (noX (exs (run law.Γ law.G n) law.G [.ret (.tup [.str [108, 101, 97, 102], .tup []])] [])).bind fin := (rfl)
theorem u4 (n : Nat) (x0 : D) : run law.Γ law.G (n + 1) 4 [x0] = (noX (exs (run law.Γ law.G n) law.G [f4_t0, .own 1 (.lst []), f4_t2, .retO 1] [.dat x0, .no, .no, .no])).bind fin := (rfl)
theorem u5 (n : Nat) (x0 : D) : run law.Γ law.G (n + 1) 5 [x0] = (noX (exs (run law.Γ law.G n) law.G [f5_t0, f5_t1] [.dat x0, .no])).bind fin := (rfl)
theorem u6 (n : Nat) (x0 x1 : D) : run law.Γ law.G (n + 1) 6 [x0, x1] = (noX (exs (run law.Γ law.G n) law.G [.set 2 (.int 0), f6_t1, .ret (.var 2)] [.dat x0, .dat x1, .no, .no])).bind fin := (rfl)
theorem u7 (n : Nat) (x0 x1 : D) : run law.Γ law.G (n + 1) 7 [x0, x1] = (noX (exs (run law.Γ law.G n) law.G [.set 2 (.int 0), .wh f7_c0 f7_b1, .ret (.var 2)] [.dat x0, .dat x1, .no])).bind fin := (rfl)
theorem u8 (n : Nat) (x0 x1 : D) : run law.Γ law.G (n + 1) 8 [x0, x1] = (noX (exs (run law.Γ law.G n) law.G [f8_t0, f8_t1] [.dat x0, .dat x1, .no])).bind fin := (rfl)
theorem u9 (n : Nat) (x0 : D) : run law.Γ law.G (n + 1) 9 [x0] = (noX (exs (run law.Γ law.G n) law.G [f9_t0, f9_t1] [.dat x0])).bind fin := (rfl)
theorem u10 (n : Nat) (x0 : D) : run law.Γ law.G (n + 1) 10 [x0] = (noX (exs (run law.Γ law.G n) law.G [.ret (.tup [.call 9 [.var 0], .var 0])] [.dat x0])).bind fin := (rfl)
theorem u11 (n : Nat) (x0 x1 : D) : run law.Γ law.G (n + 1) 11 [x0, x1] = (noX (exs (run law.Γ law.G n) law.G [f11_t0, f11_t1, f11_t2] [.dat x0, .dat x1, .no])).bind fin := (rfl)
theorem u12 (n : Nat) (x0 x1 : D) : run law.Γ law.G (n + 1) 12 [x0, x1] = (noX (exs (run law.Γ law.G n) law.G [.unp [4, 5] (.var 0), f12_t1, f12_t2, f12_t3, f12_t4] [.dat x0, .dat x1, .no, .no, .no, .no, .no])).bind fin := (rfl)
theorem u13 (n : Nat) (x0 x1 x2 : D) : run law.Γ law.G (n + 1) 13 [x0, x1, x2] = (noX (exs (run law.Γ law.G n) law.G [f13_t0, f13_t1, f13_t2] [.dat x0, .dat x1, .dat x2, .no, .no])).bind fin := (rfl)
theorem u14 (n : Nat) (x0 x1 x2 : D) : run law.Γ law.G (n + 1) 14 [x0, x1, x2] = (noX (exs (run law.Γ law.G n) law.G [f14_t0, f14_t1, f14_t2, f14_t3, f14_t4, f14_t5] [.dat x0, .dat x1, .dat x2, .no, .no, .no, .no])).bind fin := (rfl)
theorem u15 (n : Nat) (x0 x1 : D) : run law.Γ law.G (n + 1) 15 [x0, x1] = (noX (exs (run law.Γ law.G n) law.G [.unp [3, 4] (.var 0), f15_t1, f15_t2, f15_t3] [.dat x0, .dat x1, .no, .no, .no])).bind fin := (rfl)
theorem u16 (n : Nat) (x0 x1 x2 : D) : run law.Γ law.G (n + 1) 16 [x0, x1, x2] = (noX (exs (run law.Γ law.G n) law.G [f16_t0, f16_t1, .ret (.var 3)] [.dat x0, .dat x1, .dat x2, .no])).bind fin := (rfl)
theorem u17 (n : Nat) (x0 : D) : run law.Γ law.G (n + 1) 17 [x0] = (noX (exs (run law.Γ law.G n) law.G [.set 1 (.call 3 []), f17_t1, .ret (.var 1)] [.dat x0, .no, .no, .no])).bind fin := (rfl)
theorem u18 (n : Nat) (x0 x1 : D) : run law.Γ law.G (n + 1) 18 [x0, x1] = (noX (exs (run law.Γ law.G n) law.G [f18_t0, .ret (.int 0)] [.dat x0, .dat x1])).bind fin := (rfl)
theorem u19 (n : Nat) (x0 : D) : run law.Γ law.G (n + 1) 19 [x0] = (noX (exs (run law.Γ law.G n) law.G [.ret (.and [.blt (.isi .int) [.var 0], .not (.blt (.isi .bool) [.var 0])])] [.dat x0])).bind fin := (rfl)
theorem u20 (n : Nat) (x0 x1 : D) : run law.Γ law.G (n + 1) 20 [x0, x1] = (noX (exs (run law.Γ law.G n) law.G [.own 2 (.lst []), f20_t1, f20_t2, .retO 2] [.dat x0, .dat x1, .no, .no, .no])).bind fin := (rfl)
theorem u21 (n : Nat) (x0 : D) : run law.Γ law.G (n + 1) 21 [x0] = (noX (exs (run law.Γ law.G n) law.G [.set 1 (.str f21_s0), f21_t1, f21_t2, f21_t3, f21_t4, f21_t5, f21_t6, f21_t7, f21_t8] [.dat x0, .no, .no, .no])).bind fin := (rfl)
theorem u22 (n : Nat) (x0 : D) : run law.Γ law.G (n + 1) 22 [x0] = (noX (exs (run law.Γ law.G n) law.G [f22_t0, f22_t1, f22_t2] [.dat x0])).bind fin := (rfl)
theorem u23 (n : Nat) (x0 : D) : run law.Γ law.G (n + 1) 23 [x0] = (noX (exs (run law.Γ law.G n) law.G [.ret (.tup [.call 21 [.op .fdiv (.var 0) (.int 3)], .op .add (.int 1) (.op .mod (.op .mod (.op .mul (.var 0) (.int 69621)) (.int 2147483647)) (.ix (.lst [.int 9, .int 60, .op .pow (.int 10) (.int 9)]) (.op .mod (.var 0) (.int 3))))])] [.dat x0])).bind fin := (rfl)
theorem u24 (n : Nat) (x0 : D) : run law.Γ law.G (n + 1) 24 [x0] = (noX (exs (run law.Γ law.G n) law.G [f24_t0, f24_t1] [.dat x0, .no, .no])).bind fin := (rfl)
theorem u25 (n : Nat) (x0 x1 : D) : run law.Γ law.G (n + 1) 25 [x0, x1] = (noX (exs (run law.Γ law.G n) law.G [f25_t0, f25_t1, f25_t2, f25_t3] [.dat x0, .dat x1])).bind fin := (rfl)
theorem u26 (n : Nat) (x0 x1 : D) : run law.Γ law.G (n + 1) 26 [x0, x1] = (noX (exs (run law.Γ law.G n) law.G [f26_t0, f26_t1, .ret (.bl true)] [.dat x0, .dat x1, .no])).bind fin := (rfl)
theorem u27 (n : Nat) (x0 x1 : D) : run law.Γ law.G (n + 1) 27 [x0, x1] = (noX (exs (run law.Γ law.G n) law.G [f27_t0, f27_t1, f27_t2, .own 2 (.lst []), f27_t4, .freeze 2, .ret (.var 2)] [.dat x0, .dat x1, .no, .no, .no, .no, .no])).bind fin := (rfl)
theorem u28 (n : Nat) (x0 x1 : D) : run law.Γ law.G (n + 1) 28 [x0, x1] = (noX (exs (run law.Γ law.G n) law.G [f28_t0, f28_t1, .set 3 (.lst []), f28_t3, f28_t4] [.dat x0, .dat x1, .no, .no, .no, .no])).bind fin := (rfl)
theorem u29 (n : Nat) (x0 : D) : run law.Γ law.G (n + 1) 29 [x0] = (noX (exs (run law.Γ law.G n) law.G [f29_t0, f29_t1, f29_t2, f29_t3] [.dat x0, .no, .no, .no])).bind fin := (rfl)
theorem u30 (n : Nat) (x0 x1 x2 : D) : run law.Γ law.G (n + 1) 30 [x0, x1, x2] = (noX (exs (run law.Γ law.G n) law.G [f30_t0, f30_t1] [.dat x0, .dat x1, .dat x2, .no, .no])).bind fin := (rfl)
theorem u31 (n : Nat) (x0 x1 x2 : D) : run law.Γ law.G (n + 1) 31 [x0, x1, x2] = (noX (exs (run law.Γ law.G n) law.G [f31_t0, f31_t1, f31_t2, f31_t3] [.dat x0, .dat x1, .dat x2, .no, .no])).bind fin := (rfl)
theorem u32 (n : Nat) (x0 x1 x2 : D) : run law.Γ law.G (n + 1) 32 [x0, x1, x2] = (noX (exs (run law.Γ law.G n) law.G [f32_t0, f32_t1] [.dat x0, .dat x1, .dat x2, .no])).bind fin := (rfl)
theorem u33 (n : Nat) (x0 : D) : run law.Γ law.G (n + 1) 33 [x0] = (noX (exs (run law.Γ law.G n) law.G [f33_t0, f33_t1, f33_t2, f33_t3, f33_t4, .clr 2, f33_t6, f33_t7, .own 5 (.lst []), .own 6 (.lst []), .own 7 (.lst []), f33_t11, .freeze 6, f33_t13, f33_t14, .ret (.bl true)] [.dat x0, .no, .no, .no, .no, .no, .no, .no, .no, .no, .no, .no, .no, .no, .no, .no])).bind fin := (rfl)
@[simp] theorem gG0 : law.G[0]? = some (.int 4) := (rfl)
@[simp] theorem gG1 : law.G[1]? = some (.int 8) := (rfl)
end K26


/-! entries, their order, sorted lists -/
namespace BT
open Fw PySem
inductive Vl where | non | int (i : Int) | str (s : List Nat)
deriving DecidableEq
def Vl.d : Vl → D
  | .non => .non
  | .int i => .int i
  | .str s => .str s
def Vl.r : Vl → Int
  | .non => 0
  | .int _ => 1
  | .str _ => 2
def Vl.i : Vl → Int
  | .int i => i
  | _ => 0
def Vl.s : Vl → List Nat
  | .str s => s
  | _ => []
theorem Vl.inj {a b : Vl} (h1 : a.r = b.r) (h2 : a.i = b.i) (h3 : a.s = b.s) : a = b := by
  cases a <;> cases b <;> simp [Vl.r] at h1 <;> simp [Vl.i] at h2 <;> simp [Vl.s] at h3 <;> simp [*]
structure Ent where
  v : Vl
  n : Int
deriving DecidableEq
def Ent.d (e : Ent) : D := .tup [e.v.d, .int e.n]
def Ent.key (e : Ent) : List D := [.int e.v.r, .int e.v.i, .str e.v.s, .int e.n]
def ltE (a b : Ent) : Bool := decide (a.v.r < b.v.r) || (decide (a.v.r = b.v.r) && (decide (a.v.i < b.v.i) || (decide (a.v.i = b.v.i) && (decide (a.v.s < b.v.s) || (decide (a.v.s = b.v.s) && decide (a.n < b.n))))))
theorem slt_irrefl (a : List Nat) : ¬ a < a := List.lt_irrefl a
theorem slt_trans {a b c : List Nat} (h : a < b) (h' : b < c) : a < c := List.lt_trans h h'
theorem slt_tri (a b : List Nat) : a < b ∨ a = b ∨ b < a := by
  by_cases h : a < b
  · exact .inl h
  · by_cases h' : b < a
    · exact .inr (.inr h')
    · exact .inr (.inl (List.le_antisymm (List.not_lt.mp h') (List.not_lt.mp h)))
theorem ltE_iff (a b : Ent) : ltE a b = true ↔ a.v.r < b.v.r ∨ (a.v.r = b.v.r ∧ (a.v.i < b.v.i ∨ (a.v.i = b.v.i ∧ (a.v.s < b.v.s ∨ (a.v.s = b.v.s ∧ a.n < b.n))))) := by
  unfold ltE
  simp only [Bool.or_eq_true, Bool.and_eq_true, decide_eq_true_eq]
theorem lt_irrefl (a : Ent) : ltE a a = false := by
  cases h : ltE a a with
  | false => rfl
  | true =>
    rw [ltE_iff] at h
    have := slt_irrefl a.v.s
    rcases h with h | ⟨_, h | ⟨_, h | ⟨_, h⟩⟩⟩
    · omega
    · omega
    · exact absurd h this
    · omega
theorem lt_trans {a b c : Ent} (h : ltE a b = true) (h' : ltE b c = true) : ltE a c = true := by
  rw [ltE_iff] at *
  rcases h with h | ⟨e1, h | ⟨e2, h | ⟨e3, h⟩⟩⟩ <;> rcases h' with h' | ⟨g1, h' | ⟨g2, h' | ⟨g3, h'⟩⟩⟩
  all_goals first
    | exact .inl (by omega)
    | exact .inr ⟨by omega, .inl (by omega)⟩
    | exact .inr ⟨by omega, .inr ⟨by omega, .inl (slt_trans h h')⟩⟩
    | exact .inr ⟨by omega, .inr ⟨by omega, .inl (by rw [← g3]; exact h)⟩⟩
    | exact .inr ⟨by omega, .inr ⟨by omega, .inl (by rw [e3]; exact h')⟩⟩
    | exact .inr ⟨by omega, .inr ⟨by omega, .inr ⟨by rw [e3, g3], by omega⟩⟩⟩
theorem lt_tri (a b : Ent) : ltE a b = true ∨ a = b ∨ ltE b a = true := by
  rw [ltE_iff, ltE_iff]
  by_cases h1 : a.v.r < b.v.r
  · exact .inl (.inl h1)
  by_cases h2 : b.v.r < a.v.r
  · exact .inr (.inr (.inl h2))
  by_cases h3 : a.v.i < b.v.i
  · exact .inl (.inr ⟨by omega, .inl h3⟩)
  by_cases h4 : b.v.i < a.v.i
  · exact .inr (.inr (.inr ⟨by omega, .inl h4⟩))
  rcases slt_tri a.v.s b.v.s with h5 | h5 | h5
  · exact .inl (.inr ⟨by omega, .inr ⟨by omega, .inl h5⟩⟩)
  · by_cases h6 : a.n < b.n
    · exact .inl (.inr ⟨by omega, .inr ⟨by omega, .inr ⟨h5, h6⟩⟩⟩)
    by_cases h7 : b.n < a.n
    · exact .inr (.inr (.inr ⟨by omega, .inr ⟨by omega, .inr ⟨h5.symm, h7⟩⟩⟩))
    · refine .inr (.inl ?_)
      have hv : a.v = b.v := Vl.inj (by omega) (by omega) h5
      have hn : a.n = b.n := by omega
      cases a; cases b; simp at hv hn; simp [hv, hn]
  · exact .inr (.inr (.inr ⟨by omega, .inr ⟨by omega, .inl h5⟩⟩))
theorem lt_asymm {a b : Ent} (h : ltE a b = true) : ltE b a = false := by
  cases h' : ltE b a with
  | false => rfl
  | true => have := lt_trans h h'; rw [lt_irrefl] at this; cases this
theorem lt_ne {a b : Ent} (h : ltE a b = true) : a ≠ b := by
  rintro rfl
  rw [lt_irrefl] at h; cases h
theorem lt_of_le_ne {a b : Ent} (h : ltE b a = false) (hn : a ≠ b) : ltE a b = true := by
  rcases lt_tri a b with h1 | h1 | h1
  · exact h1
  · exact absurd h1 hn
  · rw [h] at h1; cases h1
theorem le_lt_trans {a b c : Ent} (h : ltE b a = false) (h' : ltE b c = true) : ltE a c = true := by
  rcases lt_tri a b with h1 | rfl | h1
  · exact lt_trans h1 h'
  · exact h'
  · rw [h] at h1; cases h1
theorem lt_le_trans {a b c : Ent} (h : ltE a b = true) (h' : ltE c b = false) : ltE a c = true := by
  rcases lt_tri b c with h1 | rfl | h1
  · exact lt_trans h h1
  · exact h
  · rw [h'] at h1; cases h1
/-! ### sorted lists -/
def Srt (es : List Ent) : Prop := es.Pairwise (fun a b => ltE a b = true)
theorem srt_ext : ∀ {xs ys : List Ent}, Srt xs → Srt ys → (∀ e, e ∈ xs ↔ e ∈ ys) → xs = ys
  | [], [], _, _, _ => rfl
  | [], y :: ys, _, _, h => by have := (h y).mpr (List.mem_cons_self ..); simp at this
  | x :: xs, [], _, _, h => by have := (h x).mp (List.mem_cons_self ..); simp at this
  | x :: xs, y :: ys, h1, h2, h => by
    obtain ⟨a1, a2⟩ := List.pairwise_cons.mp h1
    obtain ⟨b1, b2⟩ := List.pairwise_cons.mp h2
    have e : x = y := by
      rcases List.mem_cons.mp ((h x).mp (List.mem_cons_self ..)) with e | e
      · exact e
      · rcases List.mem_cons.mp ((h y).mpr (List.mem_cons_self ..)) with e' | e'
        · exact e'.symm
        · have z1 := b1 x e
          have z2 := lt_asymm (a1 y e')
          rw [z1] at z2; cases z2
    subst e
    rw [srt_ext a2 b2 fun e => ?_]
    have := h e
    constructor
    · intro he
      rcases List.mem_cons.mp (this.mp (List.mem_cons_of_mem _ he)) with rfl | h'
      · have := lt_irrefl e; rw [a1 e he] at this; cases this
      · exact h'
    · intro he
      rcases List.mem_cons.mp (this.mpr (List.mem_cons_of_mem _ he)) with rfl | h'
      · have := lt_irrefl e; rw [b1 e he] at this; cases this
      · exact h'
theorem Srt.nodup {es : List Ent} (h : Srt es) : es.Nodup := h.imp fun h => lt_ne h
/-- repeated ones dropped -/
def sel : Option Ent → List Ent → List Ent
  | _, [] => []
  | p, x :: xs => if p = some x then sel (some x) xs else x :: sel (some x) xs
theorem sel_sub : ∀ (p : Option Ent) (xs : List Ent), ∀ e ∈ sel p xs, e ∈ xs
  | _, [], e, h => h
  | p, x :: xs, e, h => by
    unfold sel at h
    split at h
    · exact List.mem_cons_of_mem _ (sel_sub _ xs e h)
    · rcases List.mem_cons.mp h with rfl | h
      · exact List.mem_cons_self ..
      · exact List.mem_cons_of_mem _ (sel_sub _ xs e h)
theorem sel_mem : ∀ (p : Option Ent) (xs : List Ent) (e : Ent), e ∈ xs → e ∈ sel p xs ∨ p = some e
  | _, [], e, h => by simp at h
  | p, x :: xs, e, h => by
    unfold sel
    by_cases hp : p = some x
    · rw [if_pos hp]
      rcases List.mem_cons.mp h with rfl | h
      · exact .inr hp
      · rcases sel_mem (some x) xs e h with h | h
        · exact .inl h
        · exact .inr (hp.trans h)
    · rw [if_neg hp]
      rcases List.mem_cons.mp h with rfl | h
      · exact .inl (List.mem_cons_self ..)
      · rcases sel_mem (some x) xs e h with h | h
        · exact .inl (List.mem_cons_of_mem _ h)
        · cases h; exact .inl (List.mem_cons_self ..)
theorem sel_srt : ∀ (q : Ent) (xs : List Ent), xs.Pairwise (fun a b => ltE b a = false) → (∀ x ∈ xs, ltE x q = false) → Srt (sel (some q) xs) ∧ ∀ x ∈ sel (some q) xs, ltE q x = true
  | q, [], _, _ => ⟨.nil, fun x h => by simp [sel] at h⟩
  | q, x :: xs, h, hq => by
    obtain ⟨a1, a2⟩ := List.pairwise_cons.mp h
    obtain ⟨i1, i2⟩ := sel_srt x xs a2 a1
    unfold sel
    by_cases e : (some q : Option Ent) = some x
    · rw [if_pos e]
      cases e
      exact ⟨i1, i2⟩
    · rw [if_neg e]
      have hl : ltE q x = true := lt_of_le_ne (hq x (List.mem_cons_self ..)) fun z => e (by rw [z])
      refine ⟨List.pairwise_cons.mpr ⟨i2, i1⟩, fun y hy => ?_⟩
      rcases List.mem_cons.mp hy with rfl | hy
      · exact hl
      · exact lt_trans hl (i2 y hy)
theorem sel_srt0 (xs : List Ent) (h : xs.Pairwise (fun a b => ltE b a = false)) : Srt (sel none xs) := by
  cases xs with
  | nil => exact .nil
  | cons x xs =>
    obtain ⟨a1, a2⟩ := List.pairwise_cons.mp h
    obtain ⟨i1, i2⟩ := sel_srt x xs a2 a1
    unfold sel
    rw [if_neg (by simp)]
    exact List.pairwise_cons.mpr ⟨i2, i1⟩
theorem sel_range (e0 : Ent) : ∀ (xs : List Ent) (p : Option Ent), ((List.range xs.length).filter fun k => decide ((if k = 0 then p else xs[k - 1]?) ≠ xs[k]?)).map (fun k => xs.getD k e0) = sel p xs
  | [], p => rfl
  | x :: xs, p => by
    have ih := sel_range e0 xs (some x)
    have e1 : (List.filter ((fun k => decide ((if k = 0 then p else (x :: xs)[k - 1]?) ≠ (x :: xs)[k]?)) ∘ Nat.succ) (List.range xs.length)) = (List.range xs.length).filter fun k => decide ((if k = 0 then some x else xs[k - 1]?) ≠ xs[k]?) := by
      refine congrArg (fun q => List.filter q (List.range xs.length)) (funext fun k => ?_)
      cases k with
      | zero => simp
      | succ k => simp
    rw [List.length_cons, List.range_succ_eq_map, List.filter_cons, List.filter_map, e1]
    have e2 : List.map (fun k => (x :: xs).getD k e0) (List.map Nat.succ ((List.range xs.length).filter fun k => decide ((if k = 0 then some x else xs[k - 1]?) ≠ xs[k]?))) = sel (some x) xs := by
      rw [List.map_map, ← ih]
      refine List.map_congr_left fun k _ => ?_
      simp
    unfold sel
    by_cases hp : p = some x
    · rw [if_pos hp, if_neg (by simp [hp]), e2]
    · rw [if_neg hp, if_pos (by simp [hp]), List.map_cons, e2]
      simp
/-! ### the order in data -/
@[simp] theorem eqD_vl (a b : Vl) : eqD a.d b.d = decide (a = b) := by
  cases a <;> cases b <;> simp [Vl.d, eqD, Bool.beq_eq_decide_eq]
@[simp] theorem eqD_ent (a b : Ent) : eqD a.d b.d = decide (a = b) := by
  obtain ⟨v, n⟩ := a
  obtain ⟨w, m⟩ := b
  simp [Ent.d, eqD, eqDs, Bool.beq_eq_decide_eq]
theorem eqDs_ents : ∀ (xs ys : List Ent), eqDs (xs.map Ent.d) (ys.map Ent.d) = decide (xs = ys)
  | [], [] => rfl
  | [], _ :: _ => rfl
  | _ :: _, [] => rfl
  | x :: xs, y :: ys => by simp [eqDs, eqDs_ents xs ys]
theorem dle_vl (n : Nat) (v : Vl) : dle n v.d = true := by cases v <;> cases n <;> rfl
theorem dle_ent (n : Nat) (e : Ent) : dle (n + 1) e.d = true := by
  show ([e.v.d, .int e.n].all (dle n)) = true
  cases n <;> simp [dle_vl, dle]
@[simp] theorem dle_ent60 (e : Ent) : dle 60 e.d = true := dle_ent 59 e
@[simp] theorem dle_vl60 (e : Vl) : dle 60 e.d = true := dle_vl 60 e
theorem dle_ents (n : Nat) (es : List Ent) : (es.map Ent.d).all (dle (n + 1)) = true := by
  rw [List.all_eq_true]
  intro x hx
  obtain ⟨e, _, rfl⟩ := List.mem_map.mp hx
  exact dle_ent n e
@[simp] theorem dle_lents (es : List Ent) : dle 60 (.lst (es.map Ent.d)) = true := dle_ents 58 es
@[simp] theorem dle_lnil : dle 60 (.lst []) = true := (rfl)
@[simp] theorem dle_tnil : dle 60 (.tup []) = true := (rfl)
theorem lexT_key (a b : Ent) : pairsOk a.key b.key = true ∧ lexT a.key b.key = ltE a b := by
  refine ⟨rfl, ?_⟩
  obtain ⟨v, n⟩ := a
  obtain ⟨w, m⟩ := b
  simp only [Ent.key, lexT, eqD, ltF, ltE, ltS]
  by_cases h1 : v.r = w.r
  · simp [h1]
    by_cases h2 : v.i = w.i
    · simp [h2]
      by_cases h3 : v.s = w.s
      · simp [h3, slt_irrefl]
        intro hn h'
        omega
      · simp [h3]
    · simp [h2]
  · simp [h1]
def pkE (e : Ent) : PyData := .tuple [.int e.v.r, .int e.v.i, .str ⟨e.v.s.toArray⟩, .int e.n]
theorem keyOf_key (e : Ent) : keyOf (.tup e.key) = some (pkE e) := rfl
theorem keysD_map : ∀ es : List Ent, keysD (es.map fun e => .tup e.key) = some (es.map pkE)
  | [] => rfl
  | e :: es => by
    rw [List.map_cons, keysD, keyOf_key, keysD_map es]
    rfl
theorem alike_pk (a b : Ent) : PySem.W.alike (pkE a) (pkE b) = true := by
  simp [pkE, PySem.W.alike, PySem.W.alikeAll]
theorem dataLt_pk (a b : Ent) : PySem.W.dataLt (pkE a) (pkE b) = ltE a b := by
  unfold pkE
  rw [PySem.W.dataLt_tuple, PySem.W.dataLt_cons (by simp [PySem.W.alike]), PySem.W.dataLt_cons (by simp [PySem.W.alike]), PySem.W.dataLt_cons (by simp [PySem.W.alike]), PySem.W.dataLt_cons (by simp [PySem.W.alike]), PySem.W.dataLt_int, PySem.W.dataLt_int, PySem.W.dataLt_int, PySem.W.dataLt_str]
  obtain ⟨v, n⟩ := a
  obtain ⟨w, m⟩ := b
  simp only [ltE, PyData.eqv]
  have hs : ((⟨v.s.toArray⟩ : Str) = ⟨w.s.toArray⟩) ↔ v.s = w.s := ⟨fun h => by simpa using h, fun h => by rw [h]⟩
  have e0 : PyProof.Rows.lexLt PyProof.Rows.itemOrd (PySem.W.keyToksAll []) (PySem.W.keyToksAll []) = false := by
    simp [PySem.W.keyToksAll, PyProof.Rows.lexLt, PyProof.Rows.itemLt]
  rw [e0]
  by_cases h1 : v.r = w.r
  · simp [h1]
    by_cases h2 : v.i = w.i
    · simp [h2]
      by_cases h3 : v.s = w.s
      · simp [h3, slt_irrefl]
        intro hn h'
        omega
      · simp [h3]
    · simp [h2]
  · simp [h1]
theorem srtD_ents (es : List Ent) : ∃ ys : List Ent, ys.Perm es ∧ ys.Pairwise (fun a b => ltE b a = false) ∧ srtD (es.map Ent.d) (es.map fun e => .tup e.key) = .ok (.lst (ys.map Ent.d)) := by
  refine ⟨es.mergeSort (PySem.W.dataLe false pkE), List.mergeSort_perm .., ?_, ?_⟩
  · refine (PySem.W.sort_pairwise (PySem.W.sortLe_total _ false _) es).imp fun {a b} h => ?_
    have h : (!PySem.W.dataLt (pkE b) (pkE a)) = true := h
    rw [dataLt_pk] at h
    simpa using h
  · unfold srtD
    rw [keysD_map]
    show req _ _ = _
    rw [req_pos]
    · congr 2
      have e1 : (es.map pkE).zip (es.map Ent.d) = es.map fun e => (pkE e, e.d) := by
        rw [List.zip_map']
      have e2 := PySem.W.sort_maps (r := PySem.W.dataLe false pkE) (s := PySem.W.dataLe false (Prod.fst : PyData × D → PyData)) (fun e : Ent => (pkE e, e.d)) (l := es) (fun a _ b _ => rfl)
      rw [e1, ← e2, List.map_map]
      rfl
    · simp [alike_pk]
theorem sel_le : ∀ (p : Option Ent) (xs : List Ent), (sel p xs).length ≤ xs.length
  | _, [] => Nat.le_refl _
  | p, x :: xs => by
    unfold sel
    have := sel_le (some x) xs
    split <;> simp <;> omega
/-- the order of values alone -/
def cmpV (a b : Vl) : Int := if ltE ⟨a, 0⟩ ⟨b, 0⟩ = true then -1 else if a = b then 0 else 1
theorem lt_cmp (a b : Ent) : ltE a b = if cmpV a.v b.v = 0 then decide (a.n < b.n) else decide (cmpV a.v b.v < 0) := by
  obtain ⟨v, n⟩ := a
  obtain ⟨w, m⟩ := b
  unfold cmpV
  by_cases h : v = w
  · subst h
    rw [lt_irrefl]
    simp [ltE, slt_irrefl]
  · rw [if_neg h]
    have h0 : ltE ⟨v, n⟩ ⟨w, m⟩ = ltE ⟨v, 0⟩ ⟨w, 0⟩ := by
      simp only [ltE]
      by_cases h1 : v.r = w.r
      · by_cases h2 : v.i = w.i
        · have h3 : ¬ v.s = w.s := fun h3 => h (Vl.inj h1 h2 h3)
          simp [h1, h2, h3]
        · simp [h1, h2]
      · simp [h1]
    simp only [h0]
    cases ltE ⟨v, 0⟩ ⟨w, 0⟩ <;> simp
def Vl.ok : Vl → Prop
  | .non => True
  | .int i => -1000000000000000000 < i ∧ i < 1000000000000000000
  | .str s => s.length ≤ 40 ∧ ∀ c ∈ s, 32 ≤ c ∧ c ≤ 126
theorem ok_str {s : List Nat} (h : (decide (s.length ≤ 40) && s.all fun c => decide (32 ≤ c) && decide (c ≤ 126)) = true) : (Vl.str s).ok := by
  simp at h
  exact h
def Ent.ok (e : Ent) : Prop := e.v.ok ∧ 1 ≤ e.n ∧ e.n ≤ 1000000000
theorem ents_of : ∀ {ys : List D}, (∀ d ∈ ys, ∃ e : Ent, e.ok ∧ d = e.d) → ∃ es : List Ent, ys = es.map Ent.d ∧ ∀ e ∈ es, e.ok
  | [], _ => ⟨[], rfl, fun _ h => by simp at h⟩
  | y :: ys, h => by
    obtain ⟨e, h1, rfl⟩ := h y (List.mem_cons_self ..)
    obtain ⟨es, rfl, h2⟩ := ents_of fun d hd => h d (List.mem_cons_of_mem _ hd)
    refine ⟨e :: es, rfl, fun x hx => ?_⟩
    rcases List.mem_cons.mp hx with rfl | hx
    · exact h1
    · exact h2 x hx
theorem frL_cons (C : Nat → List D → R (D × Bool)) (G : List D) (ts : List Nat) (b : List S) (x : D) (xs : List D) (δ : En) : frL C G ts b (x :: xs) δ = (layN ts x δ).bind fun δ1 => (exs C G b δ1).bind (loopF (frL C G ts b xs)) := forL_cons _ _ x xs δ
theorem frL_nil (C : Nat → List D → R (D × Bool)) (G : List D) (ts : List Nat) (b : List S) (δ : En) : frL C G ts b [] δ = .ok (.nx δ) := (rfl)
theorem WMAX_eq : WMAX = 100000000 := (rfl)
/-! bounds -/
def ltV (a b : Vl) : Bool := ltE ⟨a, 0⟩ ⟨b, 0⟩
theorem ltV_n (a b : Vl) (n : Int) : ltE ⟨a, n⟩ ⟨b, n⟩ = ltV a b := by
  simp [ltV, ltE]
theorem ltV_trans {a b c : Vl} (h : ltV a b = true) (h' : ltV b c = true) : ltV a c = true := lt_trans h h'
theorem ltV_irrefl (a : Vl) : ltV a a = false := lt_irrefl _
theorem ltV_asymm {a b : Vl} (h : ltV a b = true) : ltV b a = false := lt_asymm h
theorem ltV_tri (a b : Vl) : ltV a b = true ∨ a = b ∨ ltV b a = true := by
  rcases lt_tri ⟨a, 0⟩ ⟨b, 0⟩ with h | h | h
  · exact .inl h
  · exact .inr (.inl (by cases h; rfl))
  · exact .inr (.inr h)
theorem ltE_v {a b : Ent} (h : ltE a b = true) : ltV a.v b.v = true ∨ a.v = b.v := by
  rw [lt_cmp] at h
  by_cases hc : cmpV a.v b.v = 0
  · right
    unfold cmpV at hc
    split at hc
    · cases hc
    · split at hc
      · assumption
      · cases hc
  · rw [if_neg hc] at h
    left
    unfold cmpV at h hc
    split at h
    · assumption
    · split at h <;> simp at h
theorem cmpV_eq (a b : Vl) : cmpV a b = if ltV a b = true then -1 else if a = b then 0 else 1 := rfl
theorem cmpV_pos (a b : Vl) : (0 < cmpV a b) ↔ ltV b a = true := by
  rw [cmpV_eq]
  rcases ltV_tri a b with h | rfl | h
  · rw [if_pos h, ltV_asymm h]; simp
  · rw [ltV_irrefl]; simp
  · have := ltV_asymm h
    rw [h, if_neg (by rw [this]; simp), if_neg (by rintro rfl; rw [ltV_irrefl] at h; cases h)]
    simp
theorem cmpV_zero (a b : Vl) : (cmpV a b = 0) ↔ a = b := by
  rw [cmpV_eq]
  rcases ltV_tri a b with h | rfl | h
  · rw [if_pos h]
    constructor
    · intro z; cases z
    · rintro rfl; rw [ltV_irrefl] at h; cases h
  · rw [ltV_irrefl]; simp
  · have := ltV_asymm h
    rw [if_neg (by rw [this]; simp)]
    constructor
    · intro z
      split at z
      · assumption
      · cases z
    · rintro rfl; rw [ltV_irrefl] at h; cases h
theorem cmpV_neg (a b : Vl) : (cmpV a b < 0) ↔ ltV a b = true := by
  rw [cmpV_eq]
  by_cases h : ltV a b = true
  · rw [if_pos h, h]; simp
  · rw [if_neg h]
    constructor
    · intro z; split at z <;> simp at z
    · intro z; exact absurd z h
abbrev Bd := Option (Vl × Bool)
def bD : Bd → D
  | none => .tup []
  | some (v, b) => .tup [v.d, .bl b]
def aboveB (v : Vl) : Bd → Bool
  | none => true
  | some (w, b) => ltV w v || (decide (v = w) && b)
def belowB (v : Vl) : Bd → Bool
  | none => true
  | some (w, b) => ltV v w || (decide (v = w) && b)
theorem above_mono {a b : Ent} (h : ltE a b = true) (w : Bd) (ha : aboveB b.v w = false) : aboveB a.v w = false := by
  cases w with
  | none => cases ha
  | some p =>
    obtain ⟨w, c⟩ := p
    simp only [aboveB, Bool.or_eq_false_iff, Bool.and_eq_false_iff, decide_eq_false_iff_not] at ha ⊢
    obtain ⟨h1, h2⟩ := ha
    rcases ltE_v h with h3 | h3
    · refine ⟨?_, .inl ?_⟩
      · cases h4 : ltV w a.v with
        | false => rfl
        | true => rw [ltV_trans h4 h3] at h1; cases h1
      · intro h5
        rw [h5] at h3
        rw [h3] at h1; cases h1
    · rw [h3]; exact ⟨h1, h2⟩
theorem below_mono {a b : Ent} (h : ltE a b = true) (w : Bd) (ha : belowB a.v w = false) : belowB b.v w = false := by
  cases w with
  | none => cases ha
  | some p =>
    obtain ⟨w, c⟩ := p
    simp only [belowB, Bool.or_eq_false_iff, Bool.and_eq_false_iff, decide_eq_false_iff_not] at ha ⊢
    obtain ⟨h1, h2⟩ := ha
    rcases ltE_v h with h3 | h3
    · refine ⟨?_, .inl ?_⟩
      · cases h4 : ltV b.v w with
        | false => rfl
        | true => rw [ltV_trans h3 h4] at h1; cases h1
      · intro h5
        rw [h5] at h3
        rw [h3] at h1; cases h1
    · rw [← h3]; exact ⟨h1, h2⟩
theorem lexG_key (a b : Ent) : lexG a.key b.key = ltE b a := by
  obtain ⟨v, n⟩ := a
  obtain ⟨w, m⟩ := b
  simp only [Ent.key, lexG, eqD, ltF, ltE, ltS]
  by_cases h1 : v.r = w.r
  · simp [h1]
    by_cases h2 : v.i = w.i
    · simp [h2]
      by_cases h3 : v.s = w.s
      · simp [h3, slt_irrefl]
        intro hn h'
        omega
      · have h3' : ¬ w.s = v.s := fun h => h3 h.symm
        simp [h3, h3']
    · have h2' : ¬ w.i = v.i := fun h => h2 h.symm
      simp [h2, h2']
  · have h1' : ¬ w.r = v.r := fun h => h1 h.symm
    simp [h1, h1']
@[simp] theorem dle_bD (b : Bd) : dle 60 (bD b) = true := by
  cases b with
  | none => rfl
  | some p => obtain ⟨v, c⟩ := p; show ([v.d, .bl c].all (dle 59)) = true; simp [dle_vl]
theorem eqD_bD (b : Bd) : eqD (bD b) (.tup []) = b.isNone := by
  cases b with
  | none => rfl
  | some p => obtain ⟨v, c⟩ := p; rfl
end BT

/-! cells -/
namespace BT
open Fw
def leafS : List Nat := [108, 101, 97, 102]
def brS : List Nat := [98, 114, 97, 110, 99, 104]
def lfD (es : List Ent) : D := .tup [.str [108, 101, 97, 102], .tup (es.map Ent.d)]
structure Pt where
  f : Ent
  c : D
  es : List Ent
def Pt.d (p : Pt) : D := .tup [p.f.d, p.c]
def brD (ps : List Pt) : D := .tup [.str [98, 114, 97, 110, 99, 104], .tup (ps.map Pt.d)]
def flat (ps : List Pt) : List Ent := (ps.map Pt.es).flatten
@[simp] theorem flat_nil : flat [] = [] := rfl
@[simp] theorem flat_cons (p : Pt) (ps : List Pt) : flat (p :: ps) = p.es ++ flat ps := by simp [flat]
theorem flat_append (ps qs : List Pt) : flat (ps ++ qs) = flat ps ++ flat qs := by simp [flat]
/-- a cell so deep, of these entries, with so many in a leaf, so many parts, at least -/
def Ce : Nat → Nat → Nat → D → List Ent → Prop
  | a, _, 0, c, es => c = lfD es ∧ a ≤ es.length ∧ es.length ≤ 8
  | _, b, n + 1, c, es => ∃ ps : List Pt, c = brD ps ∧ es = flat ps ∧ b ≤ ps.length ∧ ps.length ≤ 8 ∧ ∀ p ∈ ps, Ce 4 4 n p.c p.es ∧ ∃ r, p.es = p.f :: r
theorem Ce.weak : ∀ {n a b a' b' : Nat} {c : D} {es : List Ent}, Ce a b n c es → a' ≤ a → b' ≤ b → Ce a' b' n c es
  | 0, _, _, _, _, _, _, ⟨h1, h2, h3⟩, ha, _ => ⟨h1, Nat.le_trans ha h2, h3⟩
  | n + 1, _, _, _, _, _, _, ⟨ps, h1, h2, h3, h4, h5⟩, _, hb => ⟨ps, h1, h2, Nat.le_trans hb h3, h4, h5⟩
theorem ce_dle : ∀ {n a b : Nat} {c : D} {es : List Ent}, Ce a b n c es → ∀ k, 3 * n + 4 ≤ k → dle k c = true
  | 0, _, _, c, es, ⟨h1, _, _⟩, k, hk => by
    obtain ⟨k, rfl⟩ : ∃ j, k = j + 3 := ⟨k - 3, by omega⟩
    subst h1
    show ([D.str [108, 101, 97, 102], .tup (es.map Ent.d)].all (dle (k + 2))) = true
    simp [dle_str]
    exact dle_ents k es
  | n + 1, _, _, c, es, ⟨ps, h1, _, _, _, h5⟩, k, hk => by
    obtain ⟨k, rfl⟩ : ∃ j, k = j + 3 := ⟨k - 3, by omega⟩
    subst h1
    show ([D.str [98, 114, 97, 110, 99, 104], .tup (ps.map Pt.d)].all (dle (k + 2))) = true
    simp [dle_str]
    show ((ps.map Pt.d).all (dle (k + 1))) = true
    rw [List.all_eq_true]
    intro x hx
    obtain ⟨p, hp, rfl⟩ := List.mem_map.mp hx
    show ([p.f.d, p.c].all (dle k)) = true
    have := ce_dle (h5 p hp).1 k (by omega)
    obtain ⟨j, rfl⟩ : ∃ j, k = j + 1 := ⟨k - 1, by omega⟩
    simp [this, dle_ent]
theorem flat_mem {ps : List Pt} {e : Ent} : e ∈ flat ps ↔ ∃ p ∈ ps, e ∈ p.es := by
  unfold flat
  rw [List.mem_flatten]
  constructor
  · rintro ⟨l, hl, he⟩
    obtain ⟨p, hp, rfl⟩ := List.mem_map.mp hl
    exact ⟨p, hp, he⟩
  · rintro ⟨p, hp, he⟩
    exact ⟨_, List.mem_map.mpr ⟨p, hp, rfl⟩, he⟩
theorem srt_part {ps : List Pt} {i : Nat} {p : Pt} (h : Srt (flat ps)) (hp : ps[i]? = some p) : Srt p.es := by
  have : p.es.Sublist (flat ps) := List.sublist_flatten_of_mem (List.mem_map.mpr ⟨p, List.mem_of_getElem? hp, rfl⟩)
  exact h.sublist this
/-- what stands in an earlier part comes ahead -/
theorem srt_parts : ∀ {ps : List Pt} {i j : Nat} {p q : Pt} {x y : Ent}, Srt (flat ps) → i < j → ps[i]? = some p → ps[j]? = some q → x ∈ p.es → y ∈ q.es → ltE x y = true
  | [], _, _, _, _, _, _, _, _, h, _, _, _ => by simp at h
  | r :: ps, 0, j + 1, p, q, x, y, h, _, hp, hq, hx, hy => by
    simp at hp
    subst hp
    rw [flat_cons, Srt, List.pairwise_append] at h
    exact h.2.2 x hx y (flat_mem.mpr ⟨q, List.mem_of_getElem? (by simpa using hq), hy⟩)
  | r :: ps, i + 1, j + 1, p, q, x, y, h, hij, hp, hq, hx, hy => by
    rw [flat_cons, Srt, List.pairwise_append] at h
    exact srt_parts (ps := ps) (i := i) (j := j) h.2.1 (by omega) (by simpa using hp) (by simpa using hq) hx hy
  | r :: ps, i, 0, _, _, _, _, _, h, _, _, _, _ => by omega
/-- the part where an entry belongs -/
def PP (ps : List Pt) (x : Ent) (a j : Nat) : Prop := a < j ∧ (a = 0 ∨ ∃ p, ps[a]? = some p ∧ ltE x p.f = false) ∧ ∀ k p, a < k → k < j → ps[k]? = some p → ltE x p.f = true
theorem pp_mem {ps : List Pt} {x : Ent} {a : Nat} {q : Pt} (h : Srt (flat ps)) (hf : ∀ p ∈ ps, ∃ r, p.es = p.f :: r) (hp : PP ps x a ps.length) (hq : ps[a]? = some q) : x ∈ flat ps ↔ x ∈ q.es := by
  constructor
  · intro hx
    obtain ⟨p, hpm, hxp⟩ := flat_mem.mp hx
    obtain ⟨i, hi⟩ := List.mem_iff_getElem?.mp hpm
    have hil := (List.getElem?_eq_some_iff.mp hi).1
    obtain ⟨r, hr⟩ := hf p hpm
    have hle : ltE x p.f = false := by
      have hs := srt_part h hi
      rw [hr] at hxp hs
      rcases List.mem_cons.mp hxp with rfl | hm
      · exact lt_irrefl _
      · exact lt_asymm ((List.pairwise_cons.mp hs).1 x hm)
    rcases Nat.lt_trichotomy i a with hl | rfl | hl
    · obtain ⟨_, hz | ⟨p', hp', hl'⟩, _⟩ := hp
      · omega
      · rw [hq] at hp'
        cases hp'
        obtain ⟨r', hr'⟩ := hf q (List.mem_of_getElem? hq)
        have := srt_parts h hl hi hq hxp (y := q.f) (by rw [hr']; exact List.mem_cons_self ..)
        rw [hl'] at this; cases this
    · rw [hq] at hi; cases hi; exact hxp
    · have := hp.2.2 i p hl hil hi
      rw [hle] at this; cases this
  · exact fun hx => flat_mem.mpr ⟨q, List.mem_of_getElem? hq, hx⟩
/-! a cut into runs -/
theorem split_map {α β : Type} (g : α → β) : ∀ (rs : List (List β)) (l : List α), rs.flatten = l.map g → ∃ ls : List (List α), ls.flatten = l ∧ rs = ls.map (List.map g)
  | [], l, h => by
    have : l = [] := by simpa using h.symm
    exact ⟨[], by simp [this], rfl⟩
  | r :: rs, l, h => by
    rw [List.flatten_cons] at h
    obtain ⟨l1, l2, rfl, h1, h2⟩ := List.map_eq_append_iff.mp h.symm
    obtain ⟨ls, h3, h4⟩ := split_map g rs l2 h2.symm
    exact ⟨l1 :: ls, by simp [h3], by simp [h1, h4]⟩
/-! a part exchanged -/
theorem part_split {ps : List Pt} {k : Nat} {p : Pt} (h : ps[k]? = some p) : ps = ps.take k ++ p :: ps.drop (k + 1) := by
  have hl := (List.getElem?_eq_some_iff.mp h).1
  have he := (List.getElem?_eq_some_iff.mp h).2
  conv => lhs; rw [← List.take_append_drop k ps, List.drop_eq_getElem_cons hl, he]
theorem flat_split {ps : List Pt} {k : Nat} {p : Pt} (h : ps[k]? = some p) : flat ps = flat (ps.take k) ++ (p.es ++ flat (ps.drop (k + 1))) := by
  conv => lhs; rw [part_split h, flat_append, flat_cons]
theorem ins_flat {ps qs : List Pt} {k : Nat} {p : Pt} {x : Ent} (hs : Srt (flat ps)) (hk : ps[k]? = some p) (hf : ∀ q ∈ ps, ∃ r, q.es = q.f :: r) (hp : PP ps x k ps.length) (hq : Srt (flat qs)) (hm : ∀ e ∈ flat qs, e ∈ p.es ∨ e = x) :
    Srt (flat (ps.take k ++ qs ++ ps.drop (k + 1))) := by
  have hs' := hs
  rw [flat_split hk, Srt, List.pairwise_append, List.pairwise_append] at hs'
  obtain ⟨sA, ⟨sP, sC, xPC⟩, xA⟩ := hs'
  rw [flat_append, flat_append, Srt, List.pairwise_append, List.pairwise_append]
  obtain ⟨r, hr⟩ := hf p (List.mem_of_getElem? hk)
  have hpf : p.f ∈ p.es := by rw [hr]; exact List.mem_cons_self ..
  refine ⟨⟨sA, hq, fun u hu e he => ?_⟩, sC, fun e he v hv => ?_⟩
  · rcases hm e he with h | rfl
    · exact xA u hu e (List.mem_append_left _ h)
    · rcases hp.2.1 with h0 | ⟨p', hp', hl⟩
      · subst h0; simp at hu
      · rw [hk] at hp'
        cases hp'
        exact lt_le_trans (xA u hu p.f (List.mem_append_left _ hpf)) hl
  · rcases List.mem_append.mp he with he | he
    · exact xA e he v (List.mem_append_right _ hv)
    · rcases hm e he with h | rfl
      · exact xPC e h v hv
      · obtain ⟨q, hq1, hq2⟩ := flat_mem.mp hv
        obtain ⟨j, hj⟩ := List.mem_iff_getElem?.mp hq1
        rw [List.getElem?_drop] at hj
        have hl := hp.2.2 (k + 1 + j) q (by omega) (List.getElem?_eq_some_iff.mp hj).1 hj
        obtain ⟨r', hr'⟩ := hf q (List.mem_of_getElem? hj)
        have sq := srt_part hs hj
        rw [hr'] at hq2 sq
        rcases List.mem_cons.mp hq2 with rfl | h2
        · exact hl
        · exact lt_trans hl ((List.pairwise_cons.mp sq).1 v h2)
theorem exch_mem {ps qs : List Pt} {k : Nat} {e : Ent} : e ∈ flat (ps.take k ++ qs ++ ps.drop (k + 1)) ↔ e ∈ flat (ps.take k) ∨ e ∈ flat qs ∨ e ∈ flat (ps.drop (k + 1)) := by
  rw [flat_append, flat_append, List.mem_append, List.mem_append, or_assoc]
theorem split_mem {ps : List Pt} {k : Nat} {p : Pt} {e : Ent} (h : ps[k]? = some p) : e ∈ flat ps ↔ e ∈ flat (ps.take k) ∨ e ∈ p.es ∨ e ∈ flat (ps.drop (k + 1)) := by
  rw [flat_split h, List.mem_append, List.mem_append]
theorem nodup_len : ∀ {xs ys : List Ent}, xs.Nodup → (∀ e ∈ xs, e ∈ ys) → xs.length ≤ ys.length
  | [], _, _, _ => Nat.zero_le _
  | x :: xs, ys, hn, h => by
    obtain ⟨h1, h2⟩ := List.nodup_cons.mp hn
    have hx := h x (List.mem_cons_self ..)
    have ih := nodup_len (ys := ys.erase x) h2 fun e he => (List.mem_erase_of_ne (by rintro rfl; exact h1 he)).mpr (h e (List.mem_cons_of_mem _ he))
    rw [List.length_erase_of_mem hx] at ih
    have : 0 < ys.length := List.length_pos_of_mem hx
    rw [List.length_cons]
    omega
end BT

namespace K26
open Fw BT
theorem r_cell (n : Nat) (ns : List Int) (k : Int) (hk : 0 ≤ k) : run law.Γ law.G (n+1) 18 [.lst (ns.map .int), .int k] = .ok (.int (ns.getD k.toNat 0), false) := by
  rw [u18]; simp [f18_t0]
  by_cases h : k < ns.length
  · have h1 : k.toNat < ns.length := by omega
    rw [if_pos h, atD_of (a := .int ns[k.toNat]) hk (by simp [h1])]
    simp [h1]
  · have h1 : ¬ k.toNat < ns.length := by omega
    rw [if_neg h, List.getElem?_eq_none (by omega)]; rfl
theorem r_rank (n : Nat) (v : Vl) : run law.Γ law.G (n+1) 0 [v.d] = .ok (.int v.r, false) := by
  rw [u0]
  cases v <;> simp [f0_t0, f0_t1, Vl.r, Vl.d]
theorem r_compare (n : Nat) (a b : Vl) : run law.Γ law.G (n+2) 1 [a.d, b.d] = .ok (.int (cmpV a b), false) := by
  rw [u1]
  have h1 := r_rank n a
  have h2 := r_rank n b
  rcases a with _ | i | s <;> rcases b with _ | j | t <;> simp [Vl.d] at h1 h2 <;> simp [f1_t0, f1_t1, f1_t2, h1, h2, Vl.r, Vl.d, cmpV, ltE, Vl.i, Vl.s]
  · by_cases h : i = j
    · simp [h]
    · by_cases h' : i < j <;> simp [h, h']
  · by_cases h : s = t
    · simp [h, slt_irrefl]
    · by_cases h' : s < t <;> simp [h, h', ltS]
theorem r_ahead (n : Nat) (a b : Ent) : run law.Γ law.G (n+3) 2 [a.d, b.d] = .ok (.bl (ltE a b), false) := by
  rw [u2, lt_cmp]
  simp [f2_t0, f2_t1, f2_t2, Ent.d, r_compare n a.v b.v]
  by_cases h : cmpV a.v b.v = 0 <;> simp [h]
theorem r_stream (n : Nat) (c m : Int) (hm : 0 ≤ m) (hm2 : m ≤ 100000) : ∃ xs : List Int, xs.length = m.toNat ∧ (∀ x ∈ xs, 0 ≤ x ∧ x < 2147483647) ∧ run law.Γ law.G (n+1) 20 [.int c, .int m] = .ok (.lst (xs.map .int), true) := by
  rw [u20]
  rw [seq_nx (δ' := [.dat (.int c), .dat (.int m), .own [], .no, .no]) (by simp), seq_nx (δ' := [.dat (.int c), .dat (.int m), .own [], .dat (.int (c % 2147483647)), .no]) (by simp [f20_t1])]
  obtain ⟨δ', hI, e⟩ := frL_at (C := run law.Γ law.G n) (G := law.G) (ts := [4]) (b := f20_b1) (fun i δ => ∃ (xs : List Int) (num : Int) (s4 : Sl), δ = [.dat (.int c), .dat (.int m), .own (xs.map .int), .dat (.int num), s4] ∧ xs.length = i ∧ (0 ≤ num ∧ num < 2147483647) ∧ ∀ x ∈ xs, 0 ≤ x ∧ x < 2147483647)
    (xs := (List.range m.toNat).map fun (k : Nat) => D.int k) (δ := [.dat (.int c), .dat (.int m), .own [], .dat (.int (c % 2147483647)), .no]) ⟨[], _, .no, rfl, rfl, ⟨by omega, by omega⟩, fun x h => by simp at h⟩ (by
      rintro i x δ hx ⟨xs, num, s4, rfl, hl, hn, hxs⟩
      have hi : i < m.toNat := by
        have := (List.getElem?_eq_some_iff.mp hx).1
        simpa using this
      have hx : x = .int i := by
        rw [List.getElem?_map, List.getElem?_range hi] at hx
        simpa using hx.symm
      subst hx
      refine ⟨_, layN_one _ _ _, [.dat (.int c), .dat (.int m), .own ((xs ++ [(num * 48271 + 11 + i) % 2147483647]).map .int), .dat (.int ((num * 48271 + 11 + i) % 2147483647)), .dat (.int i)], ⟨_, _, _, rfl, by simp [hl], ⟨by omega, by omega⟩, fun y hy => ?_⟩, .inl ?_⟩
      · rcases List.mem_append.mp hy with hy | hy
        · exact hxs y hy
        · rw [List.mem_singleton.mp hy]; exact ⟨by omega, by omega⟩
      · simp [f20_b1, f20_l0_0]
        rw [req_pos (LIM_lt (by omega))])
  obtain ⟨xs, num, s4, rfl, hl, _, hxs⟩ := hI
  refine ⟨xs, by simpa using hl, hxs, ?_⟩
  have e2 : ex (run law.Γ law.G n) law.G f20_t2 [.dat (.int c), .dat (.int m), .own [], .dat (.int (c % 2147483647)), .no] = .ok (.nx [.dat (.int c), .dat (.int m), .own (xs.map .int), .dat (.int num), s4]) := by
    simp [f20_t2]
    rw [req_pos (by omega), e]
  rw [seq_nx e2]
  simp
theorem r_value (n : Nat) (x : Int) (h0 : 0 ≤ x) (h1 : x < 1000000000000) : ∃ v : Vl, v.ok ∧ run law.Γ law.G (n+1) 21 [.int x] = .ok (v.d, false) := by
  rw [u21]
  have hw : x % 8 = 0 ∨ x % 8 = 1 ∨ x % 8 = 2 ∨ x % 8 = 3 ∨ x % 8 = 4 ∨ x % 8 = 5 ∨ x % 8 = 6 ∨ x % 8 = 7 := by omega
  have e1 : ex (run law.Γ law.G n) law.G f21_t1 [.dat (.int x), .dat (.str f21_s0), .no, .no] = .ok (.nx [.dat (.int x), .dat (.str (f21_s0 ++ f21_s1)), .no, .no]) := by
    simp [f21_t1]
    try rw [req_pos (LIM_le (by omega))]
  have e2 : ex (run law.Γ law.G n) law.G f21_t2 [.dat (.int x), .dat (.str (f21_s0 ++ f21_s1)), .no, .no] = .ok (.nx [.dat (.int x), .dat (.str (f21_s0 ++ f21_s1)), .dat (.int (x % 8)), .no]) := by
    simp [f21_t2]
  rw [seq_nx (δ' := [.dat (.int x), .dat (.str f21_s0), .no, .no]) (by simp), seq_nx e1, seq_nx e2]
  rcases hw with h | h | h | h | h | h | h | h <;> rw [h]
  · exact ⟨.non, trivial, by simp [f21_t3, Vl.d]⟩
  · exact ⟨.int (x / 8 % 7 - 3), ⟨by omega, by omega⟩, by simp [f21_t3, f21_t4, Vl.d]⟩
  · exact ⟨.int (x / 8 % 7 - 3), ⟨by omega, by omega⟩, by simp [f21_t3, f21_t4, Vl.d]⟩
  · exact ⟨.int (x / 8 % 7 - 3), ⟨by omega, by omega⟩, by simp [f21_t3, f21_t4, Vl.d]⟩
  · obtain ⟨d, ⟨v, hv, rfl⟩, e⟩ := at_in (P := fun d => ∃ v : Vl, v.ok ∧ d = v.d) (xs := [.int 999999999999999999, .int (-999999999999999999), .int 1000000000, .int (-10)]) (i := x / 8 % 4) (by
      intro d hd
      simp at hd
      rcases hd with rfl | rfl | rfl | rfl
      · exact ⟨.int 999999999999999999, ⟨by omega, by omega⟩, rfl⟩
      · exact ⟨.int (-999999999999999999), ⟨by omega, by omega⟩, rfl⟩
      · exact ⟨.int 1000000000, ⟨by omega, by omega⟩, rfl⟩
      · exact ⟨.int (-10), ⟨by omega, by omega⟩, rfl⟩) (by omega) (by simp; omega)
    exact ⟨v, hv, by simp [f21_t3, f21_t4, f21_t5, LIM_eq, e]⟩
  · refine ⟨.int (x * x * 48271 % 1999999999999999999 - 999999999999999999), ⟨by omega, by omega⟩, ?_⟩
    have h2 : smallI x ∨ smallI x := .inl (small_of (by omega))
    have h3 : smallI (x * x) ∨ smallI 48271 := .inr (small_of (by omega))
    have h4 : smallI 2 ∨ smallI 1000000000000000000 := .inl (small_of (by omega))
    simp [f21_t3, f21_t4, f21_t5, f21_t6, Vl.d]
    try rw [req_pos (small_of (by omega))]
    try rw [req_pos h3]
    try rw [req_pos h4]
  · obtain ⟨d, ⟨v, hv, rfl⟩, e⟩ := at_in (P := fun d => ∃ v : Vl, v.ok ∧ d = v.d) (xs := [.str [], .str [97], .str [97, 98], .str [98], .str [97, 66], .str [32], .str [126], .str [97, 32]]) (i := x / 8 % 8) (by
      intro d hd
      simp at hd
      rcases hd with rfl | rfl | rfl | rfl | rfl | rfl | rfl | rfl
      · exact ⟨.str [], ok_str (by decide), rfl⟩
      · exact ⟨.str [97], ok_str (by decide), rfl⟩
      · exact ⟨.str [97, 98], ok_str (by decide), rfl⟩
      · exact ⟨.str [98], ok_str (by decide), rfl⟩
      · exact ⟨.str [97, 66], ok_str (by decide), rfl⟩
      · exact ⟨.str [32], ok_str (by decide), rfl⟩
      · exact ⟨.str [126], ok_str (by decide), rfl⟩
      · exact ⟨.str [97, 32], ok_str (by decide), rfl⟩) (by omega) (by simp; omega)
    exact ⟨v, hv, by simp [f21_t3, f21_t4, f21_t5, f21_t6, f21_t7, LIM_eq, e]⟩
  · have hlen : (f21_s0 ++ f21_s1).length = 94 := rfl
    have hch : ∀ c ∈ f21_s0 ++ f21_s1, 32 ≤ c ∧ c ≤ 126 := by decide
    obtain ⟨ys, l1, l2, l3⟩ := lcF_some (C := run law.Γ law.G n) (G := law.G) (ts := [3]) (e := f21_e2) (fun k : Nat => D.int k) (fun y => ∃ c, (32 ≤ c ∧ c ≤ 126) ∧ y = .str [c]) (xs := List.range (x / 64 % 41).toNat) (δ := [.dat (.int x), .dat (.str (f21_s0 ++ f21_s1)), .dat (.int 7), .no]) (by
      intro k hk
      have hk : k < 41 := by have := List.mem_range.mp hk; omega
      obtain ⟨c, hc, e⟩ := at_in (P := fun c => 32 ≤ c ∧ c ≤ 126) (xs := f21_s0 ++ f21_s1) (i := (x / 8 / (k + 1) + k) % 94) hch (by omega) (by rw [hlen]; omega)
      refine ⟨_, _, layN_one _ _ _, ?_, c, hc, rfl⟩
      simp [f21_e2]
      rw [req_pos (by omega), e]
      rfl)
    have hly : ys.length ≤ 40 := by rw [l1, List.length_range]; omega
    obtain ⟨s, m1, m2, m3⟩ := join_one l2 (LIM_le (by omega))
    refine ⟨.str s, ⟨by omega, m2⟩, ?_⟩
    simp [f21_t3, f21_t4, f21_t5, f21_t6, f21_t7, f21_t8, Vl.d]
    rw [req_pos (by omega), l3]
    simp [m3, show ys.length < LIM from LIM_lt (by omega)]
theorem r_key (n : Nat) (e : Ent) : run law.Γ law.G (n+1) 22 [e.d] = .ok (.tup e.key, false) := by
  rw [u22]
  obtain ⟨v, k⟩ := e
  rcases v with _ | i | s <;> simp [f22_t0, f22_t1, f22_t2, Ent.d, Ent.key, Vl.d, Vl.r, Vl.i, Vl.s, LIM_eq]
theorem r_entry (n : Nat) (x : Int) (h0 : 0 ≤ x) (h1 : x < 1000000000000) : ∃ e : Ent, e.ok ∧ run law.Γ law.G (n+2) 23 [.int x] = .ok (e.d, false) := by
  obtain ⟨v, hv, e⟩ := r_value n (x / 3) (by omega) (by omega)
  obtain ⟨m, ⟨k, hk, rfl⟩, em⟩ := at_in (P := fun m => ∃ k : Int, (0 < k ∧ k ≤ 1000000000) ∧ m = D.int k) (xs := [.int 9, .int 60, .int 1000000000]) (i := x % 3) (by
    intro d hd
    simp at hd
    rcases hd with rfl | rfl | rfl
    · exact ⟨9, by omega, rfl⟩
    · exact ⟨60, by omega, rfl⟩
    · exact ⟨1000000000, by omega, rfl⟩) (by omega) (by simp; omega)
  have hb : 0 ≤ x * 69621 % 2147483647 % k ∧ x * 69621 % 2147483647 % k < k := ⟨Int.emod_nonneg _ (by omega), Int.emod_lt_of_pos _ hk.1⟩
  refine ⟨⟨v, 1 + x * 69621 % 2147483647 % k⟩, ⟨hv, by show 1 ≤ 1 + x * 69621 % 2147483647 % k; omega, by show 1 + x * 69621 % 2147483647 % k ≤ _; omega⟩, ?_⟩
  rw [u23]
  simp [e, LIM_eq, em, Ent.d]
  rw [req_pos hk.1]
theorem r_keys (n : Nat) : ∀ es : List Ent, mapC (run law.Γ law.G (n+1) 22) (es.map Ent.d) = .ok (es.map fun e => .tup e.key)
  | [] => rfl
  | e :: es => by
    rw [List.map_cons, mapC, r_key, R.bind_ok, r_keys n es]
    rfl
theorem r_once (n : Nat) (es : List Ent) (hl : es.length < LIM) : ∃ os : List Ent, Srt os ∧ (∀ e, e ∈ os ↔ e ∈ es) ∧ os.length ≤ es.length ∧ run law.Γ law.G (n+2) 24 [.lst (es.map Ent.d)] = .ok (.lst (os.map Ent.d), true) := by
  obtain ⟨ys, h1, h2, h3⟩ := srtD_ents es
  have hle : (sel none ys).length ≤ ys.length := sel_le none ys
  have hyl : ys.length = es.length := h1.length_eq
  refine ⟨sel none ys, sel_srt0 ys h2, fun e => ?_, by omega, ?_⟩
  · rw [← h1.mem_iff]
    refine ⟨sel_sub none ys e, fun h => ?_⟩
    rcases sel_mem none ys e h with h | h
    · exact h
    · cases h
  rw [u24]
  have e0 : ex (run law.Γ law.G (n+1)) law.G f24_t0 [.dat (.lst (es.map Ent.d)), .no, .no] = .ok (.nx [.dat (.lst (es.map Ent.d)), .dat (.lst (ys.map Ent.d)), .no]) := by
    simp [f24_t0, r_keys n es, h3]
  rw [seq_nx e0]
  have e1 := lcF_filter (C := run law.Γ law.G (n+1)) (G := law.G) (ts := [2]) (c := f24_c0) (e := f24_e1) (fun k : Nat => D.int k) (fun k => (ys.getD k ⟨.non, 0⟩).d) (fun k => decide ((if k = 0 then none else ys[k - 1]?) ≠ ys[k]?)) (by unfold f24_c0; exact fun z => nomatch z) (xs := List.range ys.length) (δ := [.dat (.lst (es.map Ent.d)), .dat (.lst (ys.map Ent.d)), .no]) (by
    intro k hk
    have hk := List.mem_range.mp hk
    have a1 : atD (ys.map Ent.d) (k : Int) = .ok (ys.getD k ⟨.non, 0⟩).d := atD_nat (by simp [hk])
    refine ⟨_, layN_one _ _ _, ?_, fun _ => by simp [f24_e1, a1]⟩
    cases k with
    | zero => simp [f24_c0, hk]
    | succ k =>
      have a0 : atD (ys.map Ent.d) (k : Int) = .ok (ys.getD k ⟨.non, 0⟩).d := atD_nat (by simp [show k < ys.length by omega])
      have a1 : atD (ys.map Ent.d) ((k : Int) + 1) = .ok (ys.getD (k + 1) ⟨.non, 0⟩).d := by simpa using a1
      have hne : ¬ ((k : Int) + 1 = 0) := by omega
      simp [f24_c0, a0, a1, hne, hk, show k < ys.length by omega]
      exact eq_comm)
  have e3 : ∀ l : List Nat, l.map (fun k => (ys.getD k ⟨.non, 0⟩).d) = (l.map fun k => ys.getD k ⟨.non, 0⟩).map Ent.d := fun l => by rw [List.map_map]; rfl
  rw [e3, sel_range] at e1
  simp [f24_t1]
  rw [req_pos (by have : LIM = 16777216 := rfl; omega), e1]
  simp [show (sel none ys).length < LIM by omega]
end K26

namespace K26
open Fw BT
theorem r_whole (n : Nat) (i : Int) : run law.Γ law.G (n+1) 19 [.int i] = .ok (.bl true, false) := by
  rw [u19]; simp
theorem r_same (n : Nat) (a b : Ent) : run law.Γ law.G (n+2) 25 [a.d, b.d] = .ok (.bl (decide (a = b)), false) := by
  rw [u25]
  obtain ⟨v, k⟩ := a
  obtain ⟨w, l⟩ := b
  have h1 := r_whole n k
  by_cases hk : k = l
  · subst hk
    rcases v with _ | i | s <;> rcases w with _ | j | t <;> simp [f25_t0, f25_t1, f25_t2, f25_t3, Ent.d, Vl.d, h1, r_whole n]
    · by_cases h : i = j <;> simp [h]
    · by_cases h : s = t <;> simp [h]
  · simp [f25_t0, f25_t1, f25_t2, f25_t3, Ent.d, h1, hk]
theorem r_alike (n : Nat) (xs ys : List Ent) (hx : xs.length < 16777216) (hy : ys.length < 16777216) : run law.Γ law.G (n+3) 26 [.lst (xs.map Ent.d), .lst (ys.map Ent.d)] = .ok (.bl (decide (xs = ys)), false) := by
  rw [u26]
  by_cases hl : xs.length = ys.length
  · have t0 : ex (run law.Γ law.G (n+2)) law.G f26_t0 [.dat (.lst (xs.map Ent.d)), .dat (.lst (ys.map Ent.d)), .no] = .ok (.nx [.dat (.lst (xs.map Ent.d)), .dat (.lst (ys.map Ent.d)), .no]) := by
      simp [f26_t0, hl]
    rw [seq_nx t0]
    obtain ⟨l1, l2⟩ := frL_look (C := run law.Γ law.G (n+2)) (G := law.G) (ts := [2]) (b := f26_b0) (fun k : Nat => decide (xs[k]? = ys[k]?)) (fun k : Nat => D.int k) (.bl false) false (fun δ => ∃ s, δ = [.dat (.lst (xs.map Ent.d)), .dat (.lst (ys.map Ent.d)), s]) (xs := List.range ys.length) (δ := [.dat (.lst (xs.map Ent.d)), .dat (.lst (ys.map Ent.d)), .no]) ⟨_, rfl⟩ (by
      rintro k hk δ ⟨s, rfl⟩
      have hk := List.mem_range.mp hk
      have hk' : k < xs.length := by omega
      have a1 : atD (xs.map Ent.d) (k : Int) = .ok (xs[k]).d := atD_nat (by simp [hk'])
      have a2 : atD (ys.map Ent.d) (k : Int) = .ok (ys[k]).d := atD_nat (by simp [hk])
      refine ⟨_, layN_one _ _ _, fun hp => ⟨_, ⟨.dat (.int k), rfl⟩, .inl ?_⟩, fun hp => ?_⟩
      · have hp : xs[k] = ys[k] := by simpa [hk, hk'] using hp
        simp [f26_b0, a1, a2, r_same n, hp]
      · have hp : ¬ xs[k] = ys[k] := by simpa [hk, hk'] using hp
        simp [f26_b0, a1, a2, r_same n, hp])
    have hr : (ys.length : Int) < 4611686018427387904 := by omega
    by_cases he : xs = ys
    · obtain ⟨δ', ⟨s, rfl⟩, e⟩ := l1 (by subst he; simp)
      simp [f26_t1]
      rw [req_pos hr]
      rw [e]
      simp [he]
    · have hn : ((List.range ys.length).all fun k => decide (xs[k]? = ys[k]?)) = false := by
        rw [← Bool.not_eq_true, List.all_eq_true]
        intro hall
        refine he (List.ext_getElem? fun k => ?_)
        by_cases hk : k < ys.length
        · exact of_decide_eq_true (hall k (List.mem_range.mpr hk))
        · rw [List.getElem?_eq_none (by omega), List.getElem?_eq_none (by omega)]
      have e := l2 hn
      simp [f26_t1]
      rw [req_pos hr]
      rw [e]
      simp [he]
  · have he : ¬ xs = ys := fun h => hl (by rw [h])
    have hl' : ¬ (xs.length : Int) = ys.length := by omega
    simp [f26_t0, hl', he]
end K26

namespace K26
open Fw BT
theorem ents_loop {C : Nat → List D → R (D × Bool)} : ∀ (ps : List Pt) (acc : List Ent) (c : D) (s2 s3 : Sl), (∀ p ∈ ps, C 4 [p.c] = .ok (.lst (p.es.map Ent.d), true)) → acc.length + (flat ps).length ≤ 100000 →
    ∃ s2' s3', frL C law.G [2, 3] f4_b0 (ps.map Pt.d) [.dat c, .own (acc.map Ent.d), s2, s3] = .ok (.nx [.dat c, .own ((acc ++ flat ps).map Ent.d), s2', s3'])
  | [], acc, c, s2, s3, _, _ => ⟨s2, s3, by simp [frL_nil]⟩
  | p :: ps, acc, c, s2, s3, h, hl => by
    rw [flat_cons, List.length_append] at hl
    obtain ⟨s2', s3', ih⟩ := ents_loop ps (acc ++ p.es) c (.dat p.f.d) (.dat p.c) (fun q hq => h q (List.mem_cons_of_mem _ hq)) (by rw [List.length_append]; omega)
    refine ⟨s2', s3', ?_⟩
    rw [List.map_cons, frL_cons, Pt.d, layN_two, R.bind_ok]
    have hp := h p (List.mem_cons_self ..)
    have hb : exs C law.G f4_b0 ((List.set [Sl.dat c, .own (acc.map Ent.d), s2, s3] 2 (.dat p.f.d)).set 3 (.dat p.c)) = .ok (.nx [.dat c, .own ((acc ++ p.es).map Ent.d), .dat p.f.d, .dat p.c]) := by
      simp [f4_b0, hp, show acc.length + p.es.length ≤ LIM from LIM_le (by omega)]
    rw [hb, R.bind_ok, loopF_nx]
    rw [ih, flat_cons, List.append_assoc]
theorem r_entries : ∀ (N a b : Nat) (c : D) (es : List Ent), Ce a b N c es → es.length ≤ 100000 → ∀ k, run law.Γ law.G (N + 1 + k) 4 [c] = .ok (.lst (es.map Ent.d), true)
  | 0, a, b, c, es, h, hl, k => by
    obtain ⟨rfl, _, _⟩ := h
    rw [show 0 + 1 + k = k + 1 by omega, u4]
    simp [f4_t0, lfD]
  | N + 1, a, b, c, es, h, hl, k => by
    obtain ⟨ps, rfl, rfl, _, h4, h5⟩ := h
    rw [show N + 1 + 1 + k = (N + 1 + k) + 1 by omega, u4]
    obtain ⟨s2, s3, e⟩ := ents_loop (C := run law.Γ law.G (N + 1 + k)) ps [] (brD ps) .no .no (fun p hp => by
      have hs : p.es.length ≤ (flat ps).length := List.Sublist.length_le (List.sublist_flatten_of_mem (List.mem_map.mpr ⟨p, hp, rfl⟩))
      exact r_entries N 4 4 p.c p.es (h5 p hp).1 (by omega) k) (by simpa using hl)
    have t0 : ex (run law.Γ law.G (N + 1 + k)) law.G f4_t0 [.dat (brD ps), .no, .no, .no] = .ok (.nx [.dat (brD ps), .no, .no, .no]) := by
      simp [f4_t0, brD]
    have t2 : ex (run law.Γ law.G (N + 1 + k)) law.G f4_t2 [.dat (brD ps), .own [], .no, .no] = .ok (.nx [.dat (brD ps), .own ((flat ps).map Ent.d), s2, s3]) := by
      have e' : frL (run law.Γ law.G (N + 1 + k)) law.G [2, 3] f4_b0 (ps.map Pt.d) [.dat (.tup [.str [98, 114, 97, 110, 99, 104], .tup (ps.map Pt.d)]), .own [], .no, .no] = .ok (.nx [.dat (brD ps), .own ((flat ps).map Ent.d), s2, s3]) := by simpa [brD] using e
      simp [f4_t2, brD]
      rw [e']
      rfl
    rw [seq_nx t0, seq_nx (δ' := [.dat (brD ps), .own [], .no, .no]) (by simp), seq_nx t2]
    simp
end K26

namespace K26
open Fw BT
theorem ints_map {α : Type} (f : α → Int) : ∀ xs : List α, intsD (xs.map fun x => D.int (f x)) = .ok (xs.map f)
  | [] => rfl
  | x :: xs => by
    show (intsD (xs.map fun x => D.int (f x))).bind _ = _
    rw [ints_map f xs]; rfl
theorem sum_flat : ∀ ps : List Pt, (ps.map fun p => (p.es.length : Int)).sum = (flat ps).length
  | [] => rfl
  | p :: ps => by
    rw [List.map_cons, List.sum_cons, sum_flat ps, flat_cons, List.length_append]
    omega
theorem sum_l (xs : List D) : bltD .sumOf [.lst xs] = (intsD xs).bind fun ns => .ok (.int ns.sum) := (rfl)
theorem r_many : ∀ (N a b : Nat) (c : D) (es : List Ent), Ce a b N c es → ∀ k, run law.Γ law.G (N + 1 + k) 5 [c] = .ok (.int es.length, false)
  | 0, a, b, c, es, h, k => by
    obtain ⟨rfl, _, _⟩ := h
    rw [show 0 + 1 + k = k + 1 by omega, u5]
    simp [f5_t0, lfD]
  | N + 1, a, b, c, es, h, k => by
    obtain ⟨ps, rfl, rfl, _, h4, h5⟩ := h
    rw [show N + 1 + 1 + k = (N + 1 + k) + 1 by omega, u5]
    have e := lcF_map (C := run law.Γ law.G (N + 1 + k)) (G := law.G) (ts := [1]) (e := f5_e0) Pt.d (fun p => D.int (p.es.length : Int)) (xs := ps) (δ := [.dat (.tup [.str [98, 114, 97, 110, 99, 104], .tup (ps.map Pt.d)]), .no]) (by
      intro p hp
      have := r_many N 4 4 p.c p.es (h5 p hp).1 k
      exact ⟨_, layN_one _ _ _, by simp [f5_e0, Pt.d, this]⟩)
    simp [f5_t0, f5_t1, brD]
    rw [e]
    simp [show ps.length < LIM from LIM_lt (by omega)]
    rw [sum_l, ints_map, R.bind_ok, sum_flat]
    rfl
end K26

namespace K26
open Fw BT
theorem r_place (n : Nat) (ps : List Pt) (x : Ent) (h1 : 1 ≤ ps.length) (h8 : ps.length ≤ 100000) : ∃ a : Nat, PP ps x a ps.length ∧ run law.Γ law.G (n+4) 6 [.tup (ps.map Pt.d), x.d] = .ok (.int a, false) := by
  rw [u6]
  obtain ⟨δ', hI, e⟩ := frL_at (C := run law.Γ law.G (n+3)) (G := law.G) (ts := [3]) (b := f6_b0) (fun i δ => ∃ (a : Nat) (s3 : Sl), δ = [.dat (.tup (ps.map Pt.d)), .dat x.d, .dat (.int a), s3] ∧ PP ps x a (i + 1))
    (xs := (List.range (ps.length - 1)).map fun (k : Nat) => D.int (1 + k)) (δ := [.dat (.tup (ps.map Pt.d)), .dat x.d, .dat (.int 0), .no]) ⟨0, .no, rfl, by omega, .inl rfl, fun k p h1 h2 => by omega⟩ (by
      rintro i y δ hy ⟨a, s3, rfl, p1, p2, p3⟩
      have hi : i < ps.length - 1 := by
        have := (List.getElem?_eq_some_iff.mp hy).1
        simpa using this
      have hy : y = .int (1 + i) := by
        rw [List.getElem?_map, List.getElem?_range hi] at hy
        simpa using hy.symm
      subst hy
      have hk : ps[i + 1]? = some ps[i + 1] := List.getElem?_eq_getElem (by omega)
      have a1 : atD (ps.map Pt.d) (1 + (i : Int)) = .ok (ps[i + 1]).d := by
        rw [show (1 + (i : Int)) = ((i + 1 : Nat) : Int) by omega]
        exact atD_nat (by simp [hk])
      have ha := r_ahead n x (ps[i + 1]).f
      have ha' : run law.Γ law.G (n+3) 2 [x.d, (ps[i + 1]).f.d] = .ok (.bl (ltE x (ps[i + 1]).f), false) := ha
      cases hx : ltE x (ps[i + 1]).f with
      | true =>
        rw [hx] at ha'
        refine ⟨_, layN_one _ _ _, [.dat (.tup (ps.map Pt.d)), .dat x.d, .dat (.int a), .dat (.int (1 + i))], ⟨a, _, rfl, by omega, p2, fun k p k1 k2 k3 => ?_⟩, .inl ?_⟩
        · by_cases hk2 : k < i + 1
          · exact p3 k p k1 hk2 k3
          · have : k = i + 1 := by omega
            subst this
            rw [hk] at k3
            cases k3
            exact hx
        · simp [f6_b0, a1, Pt.d, ha']
      | false =>
        rw [hx] at ha'
        refine ⟨_, layN_one _ _ _, [.dat (.tup (ps.map Pt.d)), .dat x.d, .dat (.int ((i + 1 : Nat) : Int)), .dat (.int (1 + i))], ⟨i + 1, _, rfl, by omega, .inr ⟨_, hk, hx⟩, fun k p k1 k2 => by omega⟩, .inl ?_⟩
        simp [f6_b0, a1, Pt.d, ha']
        omega)
  obtain ⟨a, s3, rfl, hp⟩ := hI
  rw [List.length_map, List.length_range, show ps.length - 1 + 1 = ps.length by omega] at hp
  refine ⟨a, hp, ?_⟩
  have t1 : ex (run law.Γ law.G (n+3)) law.G f6_t1 [.dat (.tup (ps.map Pt.d)), .dat x.d, .dat (.int 0), .no] = .ok (.nx [.dat (.tup (ps.map Pt.d)), .dat x.d, .dat (.int a), s3]) := by
    simp [f6_t1]
    rw [req_pos (by omega)]
    exact e
  rw [seq_nx (δ' := [.dat (.tup (ps.map Pt.d)), .dat x.d, .dat (.int 0), .no]) (by simp), seq_nx t1]
  simp
/-- how many come ahead -/
def LP (es : List Ent) (x : Ent) (a : Nat) : Prop := a ≤ es.length ∧ (∀ k e, k < a → es[k]? = some e → ltE e x = true) ∧ ∀ e, es[a]? = some e → ltE e x = false
theorem leaf_loop (n : Nat) (es : List Ent) (x : Ent) : ∀ (d m a : Nat), es.length - a ≤ d → d < m → a ≤ es.length → (∀ k e, k < a → es[k]? = some e → ltE e x = true) →
    ∃ a', LP es x a' ∧ whF (run law.Γ law.G (n+3)) law.G f7_c0 f7_b1 m [.dat (.tup (es.map Ent.d)), .dat x.d, .dat (.int a)] = .ok (.nx [.dat (.tup (es.map Ent.d)), .dat x.d, .dat (.int a')]) := by
  intro d
  induction d with
  | zero =>
    intro m a h1 h2 h3 h4
    obtain ⟨m, rfl⟩ : ∃ j, m = j + 1 := ⟨m - 1, by omega⟩
    refine ⟨a, ⟨h3, h4, fun e he => ?_⟩, ?_⟩
    · have := (List.getElem?_eq_some_iff.mp he).1
      omega
    · rw [whF_succ]
      have : ¬ a < es.length := by omega
      simp [f7_c0, this]
  | succ d ih =>
    intro m a h1 h2 h3 h4
    obtain ⟨m, rfl⟩ : ∃ j, m = j + 1 := ⟨m - 1, by omega⟩
    rw [whF_succ]
    by_cases ha : a < es.length
    · have hk : es[a]? = some es[a] := List.getElem?_eq_getElem ha
      have a1 : atD (es.map Ent.d) (a : Int) = .ok (es[a]).d := atD_nat (by simp [hk])
      have hr := r_ahead n es[a] x
      cases hx : ltE es[a] x with
      | true =>
        rw [hx] at hr
        obtain ⟨a', j1, j2⟩ := ih m (a + 1) (by omega) (by omega) (by omega) (fun k e k1 k2 => by
          by_cases hk2 : k < a
          · exact h4 k e hk2 k2
          · have : k = a := by omega
            subst this
            rw [hk] at k2; cases k2; exact hx)
        refine ⟨a', j1, ?_⟩
        have hc : ev (run law.Γ law.G (n+3)) law.G .test f7_c0 [.dat (.tup (es.map Ent.d)), .dat x.d, .dat (.int a)] = .ok (.bl true) := by
          simp [f7_c0, ha, a1, hr]
        have hb : exs (run law.Γ law.G (n+3)) law.G f7_b1 [.dat (.tup (es.map Ent.d)), .dat x.d, .dat (.int a)] = .ok (.nx [.dat (.tup (es.map Ent.d)), .dat x.d, .dat (.int ((a + 1 : Nat) : Int))]) := by
          simp [f7_b1]
        rw [hc, R.bind_ok, onB_bl, if_pos rfl, hb, R.bind_ok, loopF_nx]
        exact j2
      | false =>
        rw [hx] at hr
        refine ⟨a, ⟨h3, h4, fun e he => by rw [hk] at he; cases he; exact hx⟩, ?_⟩
        simp [f7_c0, ha, a1, hr]
    · refine ⟨a, ⟨h3, h4, fun e he => ?_⟩, ?_⟩
      · have := (List.getElem?_eq_some_iff.mp he).1
        omega
      · simp [f7_c0, ha]
theorem r_leaf (n : Nat) (es : List Ent) (x : Ent) (hl : es.length ≤ 100000) : ∃ a, LP es x a ∧ run law.Γ law.G (n+4) 7 [.tup (es.map Ent.d), x.d] = .ok (.int a, false) := by
  rw [u7]
  obtain ⟨a, h1, h2⟩ := leaf_loop n es x es.length WMAX 0 (by omega) (by rw [WMAX_eq]; omega) (by omega) (fun k e h => by omega)
  have e : ex (run law.Γ law.G (n+3)) law.G (.wh f7_c0 f7_b1) [.dat (.tup (es.map Ent.d)), .dat x.d, .dat (.int 0)] = .ok (.nx [.dat (.tup (es.map Ent.d)), .dat x.d, .dat (.int a)]) := by
    rw [ex_wh]; exact h2
  refine ⟨a, h1, ?_⟩
  rw [seq_nx (δ' := [.dat (.tup (es.map Ent.d)), .dat x.d, .dat (.int 0)]) (by simp), seq_nx e]
  simp
theorem lp_mem {es : List Ent} {x : Ent} {a : Nat} (hs : Srt es) (h : LP es x a) : x ∈ es ↔ ∃ e, es[a]? = some e ∧ ltE x e = false := by
  obtain ⟨h1, h2, h3⟩ := h
  constructor
  · intro hx
    obtain ⟨i, hi⟩ := List.mem_iff_getElem?.mp hx
    have hil := (List.getElem?_eq_some_iff.mp hi).1
    rcases Nat.lt_trichotomy i a with hl | rfl | hl
    · have := h2 i x hl hi
      rw [lt_irrefl] at this; cases this
    · exact ⟨x, hi, lt_irrefl x⟩
    · have hal : a < es.length := by omega
      have hp := List.pairwise_iff_getElem.mp hs a i hal hil hl
      have hxi : es[i] = x := (List.getElem?_eq_some_iff.mp hi).2
      rw [hxi, h3 es[a] (List.getElem?_eq_getElem hal)] at hp
      cases hp
  · rintro ⟨e, he, hx⟩
    have h4 := h3 e he
    rcases lt_tri x e with h5 | rfl | h5
    · rw [hx] at h5; cases h5
    · exact List.mem_of_getElem? he
    · rw [h4] at h5; cases h5
theorem r_stands (n : Nat) (es : List Ent) (x : Ent) (hs : Srt es) (hl : es.length ≤ 100000) : run law.Γ law.G (n+5) 8 [.tup (es.map Ent.d), x.d] = .ok (.bl (decide (x ∈ es)), false) := by
  rw [u8]
  obtain ⟨a, h1, h2⟩ := r_leaf n es x hl
  have h3 := lp_mem hs h1
  by_cases ha : a < es.length
  · have hk : es[a]? = some es[a] := List.getElem?_eq_getElem ha
    have a1 : atD (es.map Ent.d) (a : Int) = .ok (es[a]).d := atD_nat (by simp [hk])
    have hr := r_ahead (n+1) x es[a]
    have hd : decide (x ∈ es) = !ltE x es[a] := by
      rw [hk] at h3
      cases hx : ltE x es[a] with
      | true => simp [h3, hx]
      | false => simp [h3, hx]
    rw [hd]
    simp [f8_t0, f8_t1, h2, ha, a1, hr]
  · have hd : decide (x ∈ es) = false := by
      rw [List.getElem?_eq_none (by omega)] at h3
      simpa using h3
    rw [hd]
    simp [f8_t0, f8_t1, h2, ha]
end K26

namespace K26
open Fw BT
/-- a cell as a part -/
def mkP (c : D) (es : List Ent) : Pt := ⟨es.headD ⟨.non, 0⟩, c, es⟩
theorem mkP_ok {c : D} {es : List Ent} (h : es ≠ []) : ∃ r, (mkP c es).es = (mkP c es).f :: r := by
  cases es with
  | nil => exact absurd rfl h
  | cons e r => exact ⟨r, rfl⟩
theorem r_first (n : Nat) {N a b : Nat} {c : D} {f : Ent} {r : List Ent} (h : Ce a b N c (f :: r)) : run law.Γ law.G (n+1) 9 [c] = .ok (f.d, false) := by
  rw [u9]
  cases N with
  | zero =>
    obtain ⟨rfl, _, _⟩ := h
    simp [f9_t0, lfD]
  | succ N =>
    obtain ⟨ps, rfl, h2, _, _, h5⟩ := h
    cases ps with
    | nil => simp at h2
    | cons p ps =>
      obtain ⟨_, r', hr⟩ := h5 p (List.mem_cons_self ..)
      rw [flat_cons, hr] at h2
      have : f = p.f := by simpa using (List.cons.inj h2).1
      subst this
      simp [f9_t0, f9_t1, brD, Pt.d]
theorem r_part (n : Nat) {N a b : Nat} {p : Pt} (h : Ce a b N p.c p.es) (hr : ∃ r, p.es = p.f :: r) : run law.Γ law.G (n+2) 10 [p.c] = .ok (p.d, false) := by
  obtain ⟨r, hr⟩ := hr
  rw [hr] at h
  rw [u10]
  simp [r_first n h, Pt.d]
theorem r_cut (n : Nat) (w : List Nat) (row : List D) (hl : row.length ≤ 100000) : run law.Γ law.G (n+1) 11 [.str w, .tup row] = .ok (.lst (if row.length ≤ 8 then [.tup [.str w, .tup row]] else [.tup [.str w, .tup (row.take (row.length / 2))], .tup [.str w, .tup (row.drop (row.length / 2))]]), true) := by
  rw [u11]
  by_cases h : row.length ≤ 8
  · have h' : (row.length : Int) ≤ 8 := by omega
    simp [f11_t0, h, h']
  · have h' : ¬ (row.length : Int) ≤ 8 := by omega
    have hz : 0 ≤ (row.length : Int) / 2 := by omega
    have hn : ((row.length : Int) / 2).toNat = row.length / 2 := by omega
    simp [f11_t0, f11_t1, f11_t2, h, h', cut_take _ hz, cut_drop _ hz, hn]
theorem eqD_same : ∀ (n : Nat) (d : D), dle n d = true → eqD d d = true
  | n, .non, _ => rfl
  | n, .bl b, _ => by simp
  | n, .int i, _ => by simp
  | n, .str s, _ => by simp
  | 0, .tup xs, h => by cases h
  | 0, .lst xs, h => by cases h
  | n + 1, .tup xs, h => by
    rw [eqD_tup]
    rw [dle_tup, List.all_eq_true] at h
    induction xs with
    | nil => rfl
    | cons x xs ih => rw [eqDs_cons, eqD_same n x (h x (List.mem_cons_self ..)), ih fun y hy => h y (List.mem_cons_of_mem _ hy)]; rfl
  | n + 1, .lst xs, h => by
    rw [eqD_lst]
    rw [dle_lst, List.all_eq_true] at h
    induction xs with
    | nil => rfl
    | cons x xs ih => rw [eqDs_cons, eqD_same n x (h x (List.mem_cons_self ..)), ih fun y hy => h y (List.mem_cons_of_mem _ hy)]; rfl
  | 0, .dct _ _, h => by cases h
  | 0, .ins _ _, h => by cases h
  | n + 1, .dct _ _, h => by cases h
  | n + 1, .ins _ _, h => by cases h
theorem ce_same {N a b : Nat} {c : D} {es : List Ent} (h : Ce a b N c es) (hN : N ≤ 18) : eqD c c = true ∧ dle 60 c = true := by
  have := ce_dle h 60 (by omega)
  exact ⟨eqD_same 60 c this, this⟩
end K26

namespace K26
open Fw BT
theorem pt_eq {p q : Pt} (h1 : p.f = q.f) (h2 : p.c = q.c) : p.d = q.d := by
  simp [Pt.d, h1, h2]
theorem mem_take_lt {es : List Ent} {a : Nat} {u : Ent} (h : u ∈ es.take a) : ∃ k, k < a ∧ es[k]? = some u := by
  obtain ⟨k, hk⟩ := List.mem_iff_getElem?.mp h
  rw [List.getElem?_take] at hk
  split at hk
  · exact ⟨k, by assumption, hk⟩
  · cases hk
theorem ins_leaf {es : List Ent} {x : Ent} {a : Nat} (hs : Srt es) (h : LP es x a) (hx : x ∉ es) : Srt (es.take a ++ x :: es.drop a) := by
  obtain ⟨h1, h2, h3⟩ := h
  have hs' := hs
  rw [← List.take_append_drop a es, Srt, List.pairwise_append] at hs'
  obtain ⟨s1, s2, s3⟩ := hs'
  have hd : ∀ e ∈ es.drop a, ltE x e = true := by
    intro e he
    have hal : a < es.length := by
      rcases Nat.lt_or_ge a es.length with h | h
      · exact h
      · rw [List.drop_of_length_le h] at he; simp at he
    have hk : es[a]? = some es[a] := List.getElem?_eq_getElem hal
    have hla : ltE x es[a] = true := lt_of_le_ne (h3 _ hk) fun h => hx (by rw [h]; exact List.getElem_mem hal)
    rw [List.drop_eq_getElem_cons hal] at he s2
    rcases List.mem_cons.mp he with rfl | he
    · exact hla
    · exact lt_trans hla ((List.pairwise_cons.mp s2).1 e he)
  rw [Srt, List.pairwise_append]
  refine ⟨s1, List.pairwise_cons.mpr ⟨hd, s2⟩, fun u hu v hv => ?_⟩
  rcases List.mem_cons.mp hv with rfl | hv
  · obtain ⟨k, hk, hku⟩ := mem_take_lt hu
    exact h2 k u hk hku
  · exact s3 u hu v hv
def Good (a b N : Nat) (x : Ent) (c : D) (es : List Ent) (cs : List Pt) : Prop :=
  Srt (flat cs) ∧ (∀ e, e ∈ flat cs ↔ e ∈ es ∨ e = x) ∧ (x ∈ es → cs.map Pt.c = [c]) ∧ (∀ p ∈ cs, ∃ r, p.es = p.f :: r) ∧ ((∃ p, cs = [p] ∧ Ce a b N p.c p.es) ∨ ∃ p q, cs = [p, q] ∧ Ce 4 4 N p.c p.es ∧ Ce 4 4 N q.c q.es)
theorem Good.each {a b N : Nat} {x : Ent} {c : D} {es : List Ent} {cs : List Pt} (h : Good a b N x c es cs) : 1 ≤ cs.length ∧ cs.length ≤ 2 ∧ ∀ p ∈ cs, Ce (min a 4) (min b 4) N p.c p.es := by
  obtain ⟨_, _, _, _, ⟨p, rfl, h⟩ | ⟨p, q, rfl, h1, h2⟩⟩ := h
  · refine ⟨by simp, by simp, fun q hq => ?_⟩
    rw [List.mem_singleton.mp hq]
    exact h.weak (Nat.min_le_left ..) (Nat.min_le_left ..)
  · refine ⟨by simp, by simp, fun r hr => ?_⟩
    rcases List.mem_cons.mp hr with rfl | hr
    · exact h1.weak (Nat.min_le_right ..) (Nat.min_le_right ..)
    · rw [List.mem_singleton.mp hr]
      exact h2.weak (Nat.min_le_right ..) (Nat.min_le_right ..)
/-- a row that has become one longer at most: one cell, or two -/
theorem cut_leaf (a b : Nat) (es : List Ent) (ha : a ≤ es.length) (h0 : es ≠ []) (h9 : es.length ≤ 9) : ∃ cs : List Pt, flat cs = es ∧ (if (es.map Ent.d).length ≤ 8 then [D.tup [.str leafS, .tup (es.map Ent.d)]] else [D.tup [.str leafS, .tup ((es.map Ent.d).take ((es.map Ent.d).length / 2))], D.tup [.str leafS, .tup ((es.map Ent.d).drop ((es.map Ent.d).length / 2))]]) = cs.map Pt.c ∧ (∀ p ∈ cs, ∃ r, p.es = p.f :: r) ∧
    ((∃ p, cs = [p] ∧ Ce a b 0 p.c p.es) ∨ ∃ p q, cs = [p, q] ∧ Ce 4 4 0 p.c p.es ∧ Ce 4 4 0 q.c q.es) := by
  by_cases h8 : es.length ≤ 8
  · refine ⟨[mkP (lfD es) es], by simp [mkP], ?_, fun p hp => ?_, .inl ⟨_, rfl, rfl, ha, h8⟩⟩
    · rw [List.length_map, if_pos h8]
      rfl
    · rw [List.mem_singleton.mp hp]; exact mkP_ok h0
  · have hl : es.length = 9 := by omega
    have n1 : es.take 4 ≠ [] := by
      intro h
      have := congrArg List.length h
      rw [List.length_take, hl] at this
      simp at this
    have n2 : es.drop 4 ≠ [] := by
      intro h
      have := congrArg List.length h
      rw [List.length_drop, hl] at this
      simp at this
    refine ⟨[mkP (lfD (es.take 4)) (es.take 4), mkP (lfD (es.drop 4)) (es.drop 4)], by simp [mkP], ?_, fun p hp => ?_, .inr ⟨_, _, rfl, ⟨rfl, ?_, ?_⟩, ⟨rfl, ?_, ?_⟩⟩⟩
    · rw [List.length_map, if_neg h8, hl]
      simp [mkP, lfD, leafS, List.map_take, List.map_drop]
    · rcases List.mem_cons.mp hp with rfl | hp
      · exact mkP_ok n1
      · rw [List.mem_singleton.mp hp]; exact mkP_ok n2
    · simp [mkP]; omega
    · simp [mkP]; omega
    · simp [mkP]; omega
    · simp [mkP]; omega
theorem flat_ne {ps : List Pt} (h : 1 ≤ ps.length) (hf : ∀ p ∈ ps, ∃ r, p.es = p.f :: r) : flat ps ≠ [] := by
  cases ps with
  | nil => simp at h
  | cons p ps =>
    obtain ⟨r, hr⟩ := hf p (List.mem_cons_self ..)
    rw [flat_cons, hr]
    simp
theorem cut_br (a b N : Nat) (ps : List Pt) (hb : b ≤ ps.length) (h1 : 1 ≤ ps.length) (h9 : ps.length ≤ 9) (hc : ∀ p ∈ ps, Ce 4 4 N p.c p.es ∧ ∃ r, p.es = p.f :: r) : ∃ cs : List Pt, flat cs = flat ps ∧ (if (ps.map Pt.d).length ≤ 8 then [D.tup [.str brS, .tup (ps.map Pt.d)]] else [D.tup [.str brS, .tup ((ps.map Pt.d).take ((ps.map Pt.d).length / 2))], D.tup [.str brS, .tup ((ps.map Pt.d).drop ((ps.map Pt.d).length / 2))]]) = cs.map Pt.c ∧ (∀ p ∈ cs, ∃ r, p.es = p.f :: r) ∧
    ((∃ p, cs = [p] ∧ Ce a b (N+1) p.c p.es) ∨ ∃ p q, cs = [p, q] ∧ Ce 4 4 (N+1) p.c p.es ∧ Ce 4 4 (N+1) q.c q.es) := by
  by_cases h8 : ps.length ≤ 8
  · refine ⟨[mkP (brD ps) (flat ps)], by simp [mkP], ?_, fun p hp => ?_, .inl ⟨_, rfl, ps, rfl, rfl, hb, h8, hc⟩⟩
    · rw [List.length_map, if_pos h8]
      rfl
    · rw [List.mem_singleton.mp hp]; exact mkP_ok (flat_ne h1 fun p hp => (hc p hp).2)
  · have hl : ps.length = 9 := by omega
    have l1 : (ps.take 4).length = 4 := by rw [List.length_take]; omega
    have l2 : (ps.drop 4).length = 5 := by rw [List.length_drop]; omega
    have c1 : ∀ p ∈ ps.take 4, Ce 4 4 N p.c p.es ∧ ∃ r, p.es = p.f :: r := fun p hp => hc p (List.mem_of_mem_take hp)
    have c2 : ∀ p ∈ ps.drop 4, Ce 4 4 N p.c p.es ∧ ∃ r, p.es = p.f :: r := fun p hp => hc p (List.mem_of_mem_drop hp)
    refine ⟨[mkP (brD (ps.take 4)) (flat (ps.take 4)), mkP (brD (ps.drop 4)) (flat (ps.drop 4))], ?_, ?_, fun p hp => ?_, .inr ⟨_, _, rfl, ⟨_, rfl, rfl, by omega, by omega, c1⟩, ⟨_, rfl, rfl, by omega, by omega, c2⟩⟩⟩
    · simp [mkP]
      rw [← flat_append, List.take_append_drop]
    · rw [List.length_map, if_neg h8, hl]
      simp [mkP, brD, brS, List.map_take, List.map_drop]
    · rcases List.mem_cons.mp hp with rfl | hp
      · exact mkP_ok (flat_ne (by omega) fun p hp => (c1 p hp).2)
      · rw [List.mem_singleton.mp hp]; exact mkP_ok (flat_ne (by omega) fun p hp => (c2 p hp).2)
end K26

namespace K26
open Fw BT
theorem r_added : ∀ (N : Nat) (a b : Nat) (c : D) (es : List Ent) (x : Ent) (k : Nat), Ce a b N c es → 1 ≤ b → Srt es → ∃ cs : List Pt, Good a b N x c es cs ∧ run law.Γ law.G (N + 6 + k) 12 [c, x.d] = .ok (.lst (cs.map Pt.c), true)
  | 0, a, b, c, es, x, k, h, hb, hs => by
    obtain ⟨rfl, ha, h8⟩ := h
    rw [show 0 + 6 + k = (k + 5) + 1 by omega, u12]
    have t0 : ex (run law.Γ law.G (k + 5)) law.G (.unp [4, 5] (.var 0)) [.dat (lfD es), .dat x.d, .no, .no, .no, .no, .no] = .ok (.nx [.dat (lfD es), .dat x.d, .no, .no, .dat (.str leafS), .dat (.tup (es.map Ent.d)), .no]) := by
      simp [lfD, leafS]
    rw [seq_nx t0]
    have hst := r_stands k es x hs (by omega)
    by_cases hx : x ∈ es
    · refine ⟨[mkP (lfD es) es], ⟨by simpa [mkP] using hs, fun e => ?_, fun _ => rfl, fun p hp => ?_, .inl ⟨_, rfl, rfl, ha, h8⟩⟩, ?_⟩
      · simp [mkP]
        rintro rfl
        exact hx
      · rw [List.mem_singleton.mp hp]
        exact mkP_ok fun h => by rw [h] at hx; simp at hx
      · simp [f12_t1, leafS, hst, hx, mkP]
    · obtain ⟨q, hq, hr⟩ := r_leaf (k + 1) es x (by omega)
      have hs' := ins_leaf hs hq hx
      have hli : (es.take q ++ x :: es.drop q).length = es.length + 1 := by
        have := hq.1
        simp [List.length_take, List.length_drop]
        omega
      obtain ⟨cs, c1, c2, c3, c4⟩ := cut_leaf a b (es.take q ++ x :: es.drop q) (by omega) (by simp) (by omega)
      refine ⟨cs, ⟨by rw [c1]; exact hs', fun e => ?_, fun h => absurd h hx, c3, c4⟩, ?_⟩
      · rw [c1, List.mem_append, List.mem_cons]
        have : e ∈ es ↔ e ∈ es.take q ∨ e ∈ es.drop q := by rw [← List.mem_append, List.take_append_drop]
        rw [this]
        constructor
        · rintro (h | h | h)
          · exact .inl (.inl h)
          · exact .inr h
          · exact .inl (.inr h)
        · rintro ((h | h) | h)
          · exact .inl h
          · exact .inr (.inr h)
          · exact .inr (.inl h)
      · have hcut := r_cut (k + 4) leafS ((es.take q ++ x :: es.drop q).map Ent.d) (by rw [List.length_map]; omega)
        rw [c2] at hcut
        have hz : (0 : Int) ≤ (q : Int) := by omega
        have hl1 : ((es.map Ent.d).take q).length + [x.d].length ≤ LIM := LIM_le (by rw [List.length_take, List.length_map]; simp; omega)
        have hl2 : ((es.map Ent.d).take q ++ [x.d]).length + ((es.map Ent.d).drop q).length ≤ LIM := LIM_le (by rw [List.length_append, List.length_take, List.length_drop, List.length_map]; simp; omega)
        have hrow : (es.map Ent.d).take q ++ [x.d] ++ (es.map Ent.d).drop q = (es.take q ++ x :: es.drop q).map Ent.d := by simp [List.map_take, List.map_drop]
        have hadd : op2 .add (.tup ((es.map Ent.d).take q)) (.tup [x.d]) = .ok (.tup ((es.map Ent.d).take q ++ [x.d])) := by rw [op_addT, req_pos hl1]
        have hadd2 : op2 .add (.tup ((es.map Ent.d).take q ++ [x.d])) (.tup ((es.map Ent.d).drop q)) = .ok (.tup ((es.take q ++ x :: es.drop q).map Ent.d)) := by rw [op_addT, req_pos hl2, hrow]
        have e1 : ex (run law.Γ law.G (k + 5)) law.G (.set 2 (.call 7 [.var 5, .var 1])) [.dat (lfD es), .dat x.d, .no, .no, .dat (.str leafS), .dat (.tup (es.map Ent.d)), .no] = .ok (.nx [.dat (lfD es), .dat x.d, .dat (.int q), .no, .dat (.str leafS), .dat (.tup (es.map Ent.d)), .no]) := by
          simp [hr]
        have e2 : ex (run law.Γ law.G (k + 5)) law.G (.retF (.call 11 [.var 4, .op .add (.op .add (.sl (.var 5) .nop (.var 2)) (.tup [.var 1])) (.sl (.var 5) (.var 2) .nop)])) [.dat (lfD es), .dat x.d, .dat (.int q), .no, .dat (.str leafS), .dat (.tup (es.map Ent.d)), .no] = .ok (.rt (.lst (cs.map Pt.c)) true) := by
          have h1l : [x.d].length ≤ LIM := LIM_le (by simp)
          simp only [ex_retF, evF_call, evs_cons, evs_nil, ev_var, ev_op, ev_sl, ev_tup, evQ_nop, evQ_var, List.getElem?_cons_succ, List.getElem?_cons_zero, getV_dat, R.bind_ok, post_val', post_bor', bind_ok', partD_int, sl_tup, cut_take _ hz, post_val, post_bor, cut_drop _ hz, Int.toNat_natCast]
          rw [req_pos h1l]
          simp only [R.bind_ok, hadd, hadd2, hcut]
          rfl
        have t1 : ex (run law.Γ law.G (k + 5)) law.G f12_t1 [.dat (lfD es), .dat x.d, .no, .no, .dat (.str leafS), .dat (.tup (es.map Ent.d)), .no] = .ok (.rt (.lst (cs.map Pt.c)) true) := by
          have hc : ev (run law.Γ law.G (k + 5)) law.G .test (.cmp .eq (.var 4) (.str [108, 101, 97, 102])) [.dat (lfD es), .dat x.d, .no, .no, .dat (.str leafS), .dat (.tup (es.map Ent.d)), .no] = .ok (.bl true) := by simp [leafS]
          have h0 : ex (run law.Γ law.G (k + 5)) law.G (.ite (.call 8 [.var 5, .var 1]) [.retF (.lst [.var 0])] []) [.dat (lfD es), .dat x.d, .no, .no, .dat (.str leafS), .dat (.tup (es.map Ent.d)), .no] = .ok (.nx [.dat (lfD es), .dat x.d, .no, .no, .dat (.str leafS), .dat (.tup (es.map Ent.d)), .no]) := by
            simp [hst, hx]
          unfold f12_t1
          rw [ex_ite, hc, R.bind_ok, onB_bl, if_pos rfl, seq_nx h0, seq_nx e1, seq_rt e2]
        rw [seq_rt t1]
        rfl
  | N + 1, a, b, c, es, x, k, h, hb, hs => by
    obtain ⟨ps, rfl, rfl, hb1, h8, h5⟩ := h
    obtain ⟨q, hp, hr⟩ := r_place (N + 2 + k) ps x (by omega) (by omega)
    have hql : q < ps.length := hp.1
    have hk : ps[q]? = some ps[q] := List.getElem?_eq_getElem hql
    have a1 : atD (ps.map Pt.d) (q : Int) = .ok (ps[q]).d := atD_nat (by simp [hk])
    have hpe := h5 _ (List.getElem_mem hql)
    have hsp := srt_part hs hk
    obtain ⟨cs, hg, hcs⟩ := r_added N 4 4 (ps[q]).c (ps[q]).es x k hpe.1 (by omega) hsp
    obtain ⟨m1, m2, m3⟩ := hg.each
    obtain ⟨g1, g2, g3, g4, g5⟩ := hg
    have hfp : ∀ p ∈ ps, ∃ r, p.es = p.f :: r := fun p hp => (h5 p hp).2
    have hs' := ins_flat (x := x) hs hk hfp hp g1 (fun e he => (g2 e).mp he)
    have hlen : (ps.take q ++ cs ++ ps.drop (q + 1)).length = ps.length - 1 + cs.length := by
      simp only [List.length_append, List.length_take, List.length_drop]
      omega
    have hall : ∀ p ∈ ps.take q ++ cs ++ ps.drop (q + 1), Ce 4 4 N p.c p.es ∧ ∃ r, p.es = p.f :: r := by
      intro p hp
      rcases List.mem_append.mp hp with hp | hp
      · rcases List.mem_append.mp hp with hp | hp
        · exact h5 p (List.mem_of_mem_take hp)
        · exact ⟨m3 p hp, g4 p hp⟩
      · exact h5 p (List.mem_of_mem_drop hp)
    obtain ⟨out, c1, c2, c3, c4⟩ := cut_br a b N (ps.take q ++ cs ++ ps.drop (q + 1)) (by omega) (by omega) (by omega) hall
    have hmem : ∀ e, e ∈ flat (ps.take q ++ cs ++ ps.drop (q + 1)) ↔ e ∈ flat ps ∨ e = x := by
      intro e
      rw [exch_mem, split_mem hk, g2 e]
      constructor
      · rintro (h | (h | h) | h)
        · exact .inl (.inl h)
        · exact .inl (.inr (.inl h))
        · exact .inr h
        · exact .inl (.inr (.inr h))
      · rintro ((h | h | h) | h)
        · exact .inl h
        · exact .inr (.inl (.inl h))
        · exact .inr (.inr h)
        · exact .inr (.inl (.inr h))
    refine ⟨out, ⟨by rw [c1]; exact hs', fun e => by rw [c1]; exact hmem e, fun hx => ?_, c3, c4⟩, ?_⟩
    · have hxp := (pp_mem hs hfp hp hk).mp hx
      have h6 := g3 hxp
      obtain ⟨r, rfl⟩ : ∃ r, cs = [r] := by
        cases cs with
        | nil => simp at h6
        | cons r cs =>
          cases cs with
          | nil => exact ⟨r, rfl⟩
          | cons _ _ => simp at h6
      have hrc : r.c = (ps[q]).c := by simpa using h6
      have hre : r.es = (ps[q]).es := by
        have z1 : Srt r.es := by simpa using g1
        refine srt_ext z1 hsp fun e => ?_
        have := g2 e
        simp at this
        rw [this]
        constructor
        · rintro (h | rfl)
          · exact h
          · exact hxp
        · exact .inl
      have hrf : r.f = (ps[q]).f := by
        obtain ⟨u, hu⟩ := g4 r (List.mem_singleton.mpr rfl)
        obtain ⟨v, hv⟩ := hpe.2
        rw [hre, hv] at hu
        exact (List.cons.inj hu).1.symm
      have hd : (ps.take q ++ [r] ++ ps.drop (q + 1)).map Pt.d = ps.map Pt.d := by
        refine Eq.trans ?_ (congrArg (List.map Pt.d) (part_split hk)).symm
        rw [List.map_append, List.map_append, List.map_append, List.map_cons, List.map_cons, List.map_nil, pt_eq hrf hrc, List.append_assoc]
        rfl
      rw [hd, List.length_map, if_pos h8] at c2
      exact c2.symm
    · rw [show N + 1 + 6 + k = (N + 6 + k) + 1 by omega, u12]
      have t0 : ex (run law.Γ law.G (N + 6 + k)) law.G (.unp [4, 5] (.var 0)) [.dat (brD ps), .dat x.d, .no, .no, .no, .no, .no] = .ok (.nx [.dat (brD ps), .dat x.d, .no, .no, .dat (.str brS), .dat (.tup (ps.map Pt.d)), .no]) := by
        simp [brD, brS]
      have t1 : ex (run law.Γ law.G (N + 6 + k)) law.G f12_t1 [.dat (brD ps), .dat x.d, .no, .no, .dat (.str brS), .dat (.tup (ps.map Pt.d)), .no] = .ok (.nx [.dat (brD ps), .dat x.d, .no, .no, .dat (.str brS), .dat (.tup (ps.map Pt.d)), .no]) := by
        simp [f12_t1, brS]
      rw [show N + 2 + k + 4 = N + 6 + k by omega] at hr
      have t2 : ex (run law.Γ law.G (N + 6 + k)) law.G f12_t2 [.dat (brD ps), .dat x.d, .no, .no, .dat (.str brS), .dat (.tup (ps.map Pt.d)), .no] = .ok (.nx [.dat (brD ps), .dat x.d, .dat (.int q), .no, .dat (.str brS), .dat (.tup (ps.map Pt.d)), .no]) := by
        simp [f12_t2, hr]
      have hlc := lcF_map (C := run law.Γ law.G (N + 6 + k)) (G := law.G) (ts := [6]) (e := f12_e0) Pt.c Pt.d (xs := cs) (δ := [.dat (brD ps), .dat x.d, .dat (.int q), .no, .dat (.str brS), .dat (.tup (ps.map Pt.d)), .no]) (by
        intro p hp
        have := r_part (N + 4 + k) (m3 p hp) (g4 p hp)
        rw [show N + 4 + k + 2 = N + 6 + k by omega] at this
        exact ⟨_, layN_one _ _ _, by simp [f12_e0, this]⟩)
      have hix : ixD (ps[q]).d (.int 1) = .ok (ps[q]).c := by simp [Pt.d]
      have t3 : ex (run law.Γ law.G (N + 6 + k)) law.G f12_t3 [.dat (brD ps), .dat x.d, .dat (.int q), .no, .dat (.str brS), .dat (.tup (ps.map Pt.d)), .no] = .ok (.nx [.dat (brD ps), .dat x.d, .dat (.int q), .dat (.lst (cs.map Pt.d)), .dat (.str brS), .dat (.tup (ps.map Pt.d)), .no]) := by
        simp [f12_t3, a1, hix, hcs]
        rw [hlc]
        simp [show cs.length < LIM from LIM_lt (by omega)]
      have hz : (0 : Int) ≤ (q : Int) := by omega
      have hz1 : (0 : Int) ≤ (q : Int) + 1 := by omega
      have hcut := r_cut (N + 5 + k) brS ((ps.take q ++ cs ++ ps.drop (q + 1)).map Pt.d) (by rw [List.length_map]; omega)
      rw [c2, show N + 5 + k + 1 = N + 6 + k by omega] at hcut
      have hrow : (ps.map Pt.d).take q ++ cs.map Pt.d ++ (ps.map Pt.d).drop (q + 1) = (ps.take q ++ cs ++ ps.drop (q + 1)).map Pt.d := by simp [List.map_take, List.map_drop]
      have hl1 : ((ps.map Pt.d).take q).length + (cs.map Pt.d).length ≤ LIM := LIM_le (by rw [List.length_take, List.length_map, List.length_map]; omega)
      have hl2 : ((ps.map Pt.d).take q ++ cs.map Pt.d).length + ((ps.map Pt.d).drop (q + 1)).length ≤ LIM := LIM_le (by rw [List.length_append, List.length_take, List.length_drop, List.length_map, List.length_map]; omega)
      have hadd : op2 .add (.tup ((ps.map Pt.d).take q)) (.tup (cs.map Pt.d)) = .ok (.tup ((ps.map Pt.d).take q ++ cs.map Pt.d)) := by rw [op_addT, req_pos hl1]
      have hadd2 : op2 .add (.tup ((ps.map Pt.d).take q ++ cs.map Pt.d)) (.tup ((ps.map Pt.d).drop (q + 1))) = .ok (.tup ((ps.take q ++ cs ++ ps.drop (q + 1)).map Pt.d)) := by rw [op_addT, req_pos hl2, hrow]
      have t4 : ex (run law.Γ law.G (N + 6 + k)) law.G f12_t4 [.dat (brD ps), .dat x.d, .dat (.int q), .dat (.lst (cs.map Pt.d)), .dat (.str brS), .dat (.tup (ps.map Pt.d)), .no] = .ok (.rt (.lst (out.map Pt.c)) true) := by
        have ht : ((q : Int) + 1).toNat = q + 1 := by omega
        unfold f12_t4
        simp only [ex_retF, evF_call, evs_cons, evs_nil, ev_var, ev_op, ev_sl, ev_blt, evb_cons, evb_nil, evQ_nop, evQ_var, evQ_op, List.getElem?_cons_succ, List.getElem?_cons_zero, getV_dat, R.bind_ok, post_val', post_bor', bind_ok', partD_int, sl_tup, cut_take _ hz, blt_tup_lst, op_addI, ev_int, post_val, post_bor, cut_drop _ hz1, Int.toNat_natCast, ht, hadd, hadd2, hcut]
        rfl
      rw [seq_nx t0, seq_nx t1, seq_nx t2, seq_nx t3, seq_rt t4]
      rfl
theorem r_with (n : Nat) (x : Ent) {N : Nat} {c : D} {es : List Ent} (h : Ce 0 2 N c es) (hs : Srt es) : ∃ (c' : D) (N' : Nat) (es' : List Ent), Ce 0 2 N' c' es' ∧ N' ≤ N + 1 ∧ Srt es' ∧ (∀ e, e ∈ es' ↔ e ∈ es ∨ e = x) ∧ (x ∈ es → c' = c) ∧ run law.Γ law.G (N + 7 + n) 13 [c, x.v.d, .int x.n] = .ok (c', false) := by
  obtain ⟨cs, hg, hr⟩ := r_added N 0 2 c es x n h (by omega) hs
  rw [show N + 7 + n = (N + 6 + n) + 1 by omega, u13]
  have t0 : ex (run law.Γ law.G (N + 6 + n)) law.G f13_t0 [.dat c, .dat x.v.d, .dat (.int x.n), .no, .no] = .ok (.nx [.dat c, .dat x.v.d, .dat (.int x.n), .dat (.lst (cs.map Pt.c)), .no]) := by
    have : (D.tup [x.v.d, .int x.n]) = x.d := rfl
    simp [f13_t0, this, hr]
  rw [seq_nx t0]
  obtain ⟨g1, g2, g3, g4, ⟨p, rfl, hc⟩ | ⟨p, q, rfl, hc1, hc2⟩⟩ := hg
  · refine ⟨p.c, N, p.es, hc, by omega, by simpa using g1, fun e => by simpa using g2 e, fun hx => by simpa using g3 hx, ?_⟩
    simp [f13_t1]
  · refine ⟨brD [p, q], N + 1, p.es ++ q.es, ⟨[p, q], rfl, by simp, by simp, by simp, fun r hr => ?_⟩, by omega, by simpa using g1, fun e => by simpa using g2 e, fun hx => by have := g3 hx; simp at this, ?_⟩
    · rcases List.mem_cons.mp hr with rfl | hr'
      · exact ⟨hc1, g4 _ hr⟩
      · rw [List.mem_singleton.mp hr']
        exact ⟨hc2, g4 q (by simp)⟩
    · have e1 := r_part (N + 4 + n) hc1 (g4 p (by simp))
      have e2 := r_part (N + 4 + n) hc2 (g4 q (by simp))
      rw [show N + 4 + n + 2 = N + 6 + n by omega] at e1 e2
      have hlc := lcF_map (C := run law.Γ law.G (N + 6 + n)) (G := law.G) (ts := [4]) (e := f13_e0) Pt.c Pt.d (xs := [p, q]) (δ := [.dat c, .dat x.v.d, .dat (.int x.n), .dat (.lst ([p, q].map Pt.c)), .no]) (by
        intro r hr
        refine ⟨_, layN_one _ _ _, ?_⟩
        rcases List.mem_cons.mp hr with rfl | hr
        · simp [f13_e0, e1]
        · rw [List.mem_singleton.mp hr]
          simp [f13_e0, e2])
      simp at hlc
      simp [f13_t1, f13_t2, hlc, brD, show 2 < LIM from LIM_lt (by omega)]
end K26

namespace K26
open Fw BT
/-! rows of cells -/
def wd : Nat → List Nat
  | 0 => leafS
  | _ + 1 => brS
def Rw : Nat → List D → List Ent → Prop
  | 0, row, es => row = es.map Ent.d
  | N + 1, row, es => ∃ ps : List Pt, row = ps.map Pt.d ∧ es = flat ps ∧ ∀ p ∈ ps, Ce 4 4 N p.c p.es ∧ ∃ r, p.es = p.f :: r
def cD (N : Nat) (row : List D) : D := .tup [.str (wd N), .tup row]
def mn (a b : Nat) : Nat → Nat
  | 0 => a
  | _ + 1 => b
theorem ce_row : ∀ {N a b : Nat} {c : D} {es : List Ent}, Ce a b N c es → ∃ row, c = cD N row ∧ Rw N row es ∧ mn a b N ≤ row.length ∧ row.length ≤ 8
  | 0, _, _, _, es, ⟨h1, h2, h3⟩ => ⟨es.map Ent.d, h1, rfl, by rw [List.length_map]; exact h2, by rw [List.length_map]; exact h3⟩
  | N + 1, _, _, _, _, ⟨ps, h1, h2, h3, h4, h5⟩ => ⟨ps.map Pt.d, h1, ⟨ps, rfl, h2, h5⟩, by rw [List.length_map]; exact h3, by rw [List.length_map]; exact h4⟩
theorem row_ce : ∀ {N a b : Nat} {row : List D} {es : List Ent}, Rw N row es → mn a b N ≤ row.length → row.length ≤ 8 → Ce a b N (cD N row) es
  | 0, _, _, _, es, h, h2, h3 => by
    cases h
    rw [List.length_map] at h2 h3
    exact ⟨rfl, h2, h3⟩
  | N + 1, _, _, _, _, ⟨ps, h1, h2, h5⟩, h3, h4 => by
    subst h1
    rw [List.length_map] at h3 h4
    exact ⟨ps, rfl, h2, h3, h4, h5⟩
theorem rw_append : ∀ {N : Nat} {r1 r2 : List D} {e1 e2 : List Ent}, Rw N r1 e1 → Rw N r2 e2 → Rw N (r1 ++ r2) (e1 ++ e2)
  | 0, _, _, _, _, h1, h2 => by
    cases h1; cases h2
    show _ = _
    rw [List.map_append]
  | N + 1, _, _, _, _, ⟨ps, h1, h2, h3⟩, ⟨qs, g1, g2, g3⟩ => by
    refine ⟨ps ++ qs, by rw [h1, g1, List.map_append], by rw [h2, g2, flat_append], fun p hp => ?_⟩
    rcases List.mem_append.mp hp with hp | hp
    · exact h3 p hp
    · exact g3 p hp
theorem rw_split : ∀ {N : Nat} {row : List D} {es : List Ent} (j : Nat), Rw N row es → ∃ e1 e2, e1 ++ e2 = es ∧ Rw N (row.take j) e1 ∧ Rw N (row.drop j) e2
  | 0, _, es, j, h => by
    cases h
    exact ⟨es.take j, es.drop j, List.take_append_drop j es, by show _ = _; rw [List.map_take], by show _ = _; rw [List.map_drop]⟩
  | N + 1, _, _, j, ⟨ps, h1, h2, h3⟩ => by
    subst h1
    refine ⟨flat (ps.take j), flat (ps.drop j), by rw [← flat_append, List.take_append_drop, h2], ⟨ps.take j, by rw [List.map_take], rfl, fun p hp => h3 p (List.mem_of_mem_take hp)⟩, ⟨ps.drop j, by rw [List.map_drop], rfl, fun p hp => h3 p (List.mem_of_mem_drop hp)⟩⟩
theorem rw_ne : ∀ {N : Nat} {row : List D} {es : List Ent}, Rw N row es → 1 ≤ row.length → es ≠ []
  | 0, _, es, h, hl => by
    cases h
    rintro rfl
    simp at hl
  | N + 1, _, _, ⟨ps, h1, h2, h3⟩, hl => by
    subst h1
    rw [h2]
    exact flat_ne (by simpa using hl) fun p hp => (h3 p hp).2
/-- a row of four to sixteen, cut where it is too long -/
theorem cut_row {N : Nat} {row : List D} {es : List Ent} (h : Rw N row es) (h4 : 4 ≤ row.length) (h16 : row.length ≤ 16) : ∃ cs : List Pt, flat cs = es ∧ 1 ≤ cs.length ∧ cs.length ≤ 2 ∧ (if row.length ≤ 8 then [D.tup [.str (wd N), .tup row]] else [D.tup [.str (wd N), .tup (row.take (row.length / 2))], D.tup [.str (wd N), .tup (row.drop (row.length / 2))]]) = cs.map Pt.c ∧
    ∀ p ∈ cs, Ce 4 4 N p.c p.es ∧ ∃ r, p.es = p.f :: r := by
  have hmn : ∀ N, mn 4 4 N = 4 := fun N => by cases N <;> rfl
  by_cases h8 : row.length ≤ 8
  · refine ⟨[mkP (cD N row) es], by simp [mkP], by simp, by simp, by rw [if_pos h8]; rfl, fun p hp => ?_⟩
    rw [List.mem_singleton.mp hp]
    exact ⟨row_ce h (by rw [hmn]; exact h4) h8, mkP_ok (rw_ne h (by omega))⟩
  · obtain ⟨e1, e2, he, r1, r2⟩ := rw_split (row.length / 2) h
    have l1 : (row.take (row.length / 2)).length = row.length / 2 := by rw [List.length_take]; omega
    have l2 : (row.drop (row.length / 2)).length = row.length - row.length / 2 := by rw [List.length_drop]
    refine ⟨[mkP (cD N (row.take (row.length / 2))) e1, mkP (cD N (row.drop (row.length / 2))) e2], by simpa [mkP] using he, by simp, by simp, by rw [if_neg h8]; rfl, fun p hp => ?_⟩
    rcases List.mem_cons.mp hp with rfl | hp
    · exact ⟨row_ce r1 (by rw [hmn]; omega) (by omega), mkP_ok (rw_ne r1 (by omega))⟩
    · rw [List.mem_singleton.mp hp]
      exact ⟨row_ce r2 (by rw [hmn]; omega) (by omega), mkP_ok (rw_ne r2 (by omega))⟩
theorem set_flat {ps : List Pt} {k : Nat} (P : Pt) (h : k < ps.length) : ps.set k P = ps.take k ++ [P] ++ ps.drop (k + 1) := by
  rw [List.set_eq_take_append_cons_drop, if_pos h, List.append_assoc]
  rfl
theorem two_split {qs : List Pt} {j : Nat} {u v : Pt} (hu : qs[j]? = some u) (hv : qs[j + 1]? = some v) : flat qs = flat (qs.take j) ++ (u.es ++ v.es) ++ flat (qs.drop (j + 2)) := by
  rw [flat_split hu]
  have h1 : (qs.drop (j + 1))[0]? = some v := by rw [List.getElem?_drop]; exact hv
  rw [flat_split h1]
  simp [List.drop_drop]
theorem set_0 (δ : En) (d a b : D) : setD 4 δ d (.int 0) (some (.own [a, b])) = .ok (.nx (δ.set 4 (.own [d, b]))) := setD_at δ (i := 4) (k := 0) (z := 0) (xs := [a, b]) rfl
theorem set_1 (δ : En) (d a b : D) : setD 4 δ d (.int 1) (some (.own [a, b])) = .ok (.nx (δ.set 4 (.own [a, d]))) := setD_at δ (i := 4) (k := 1) (z := 1) (xs := [a, b]) rfl
theorem r_filled (n : Nat) {N : Nat} {ps : List Pt} {k : Nat} {P : Pt} (hps : ∀ p ∈ ps, Ce 4 4 N p.c p.es ∧ ∃ r, p.es = p.f :: r) (hk : k < ps.length) (h2 : 2 ≤ ps.length) (h8 : ps.length ≤ 8) (hP : Ce 3 3 N P.c P.es) (hPr : ∃ r, P.es = P.f :: r) :
    ∃ qs : List Pt, flat qs = flat (ps.set k P) ∧ ps.length ≤ qs.length + 1 ∧ qs.length ≤ 8 ∧ (∀ p ∈ qs, Ce 4 4 N p.c p.es ∧ ∃ r, p.es = p.f :: r) ∧ (Ce 4 4 N P.c P.es → qs = ps.set k P) ∧
      run law.Γ law.G (n + 3) 14 [.tup (ps.map Pt.d), .int k, P.c] = .ok (.tup (qs.map Pt.d), false) := by
  rw [u14]
  obtain ⟨row, hc, hrw, hm, hl8⟩ := ce_row hP
  have hmn : mn 3 3 N = 3 := by cases N <;> rfl
  rw [hmn] at hm
  have hix : ixD P.c (.int 1) = .ok (.tup row) := by rw [hc]; simp [cD]
  have hix0 : ixD P.c (.int 0) = .ok (.str (wd N)) := by rw [hc]; simp [cD]
  have hz : (0 : Int) ≤ (k : Int) := by omega
  by_cases h4 : 4 ≤ row.length
  · have hP4 : Ce 4 4 N P.c P.es := by
      rw [hc]
      exact row_ce hrw (by cases N <;> exact h4) hl8
    refine ⟨ps.set k P, rfl, by rw [List.length_set]; omega, by rw [List.length_set]; exact h8, fun p hp => ?_, fun _ => rfl, ?_⟩
    · rcases List.mem_or_eq_of_mem_set hp with hp | rfl
      · exact hps p hp
      · exact ⟨hP4, hPr⟩
    · have hp := r_part n hP hPr
      have h4' : (4 : Int) ≤ row.length := by omega
      have hz1 : (0 : Int) ≤ (k : Int) + 1 := by omega
      have ht : ((k : Int) + 1).toNat = k + 1 := by omega
      have hrow : (ps.map Pt.d).take k ++ [P.d] ++ (ps.map Pt.d).drop (k + 1) = (ps.set k P).map Pt.d := by rw [set_flat P hk]; simp [List.map_take, List.map_drop]
      have hl1 : ((ps.map Pt.d).take k).length + [P.d].length ≤ LIM := LIM_le (by rw [List.length_take, List.length_map]; simp; omega)
      have hl2 : ((ps.map Pt.d).take k ++ [P.d]).length + ((ps.map Pt.d).drop (k + 1)).length ≤ LIM := LIM_le (by rw [List.length_append, List.length_take, List.length_drop, List.length_map]; simp; omega)
      have hadd : op2 .add (.tup ((ps.map Pt.d).take k)) (.tup [P.d]) = .ok (.tup ((ps.map Pt.d).take k ++ [P.d])) := by rw [op_addT, req_pos hl1]
      have hadd2 : op2 .add (.tup ((ps.map Pt.d).take k ++ [P.d])) (.tup ((ps.map Pt.d).drop (k + 1))) = .ok (.tup ((ps.set k P).map Pt.d)) := by rw [op_addT, req_pos hl2, hrow]
      have t0 : ex (run law.Γ law.G (n + 2)) law.G f14_t0 [.dat (.tup (ps.map Pt.d)), .dat (.int k), .dat P.c, .no, .no, .no, .no] = .ok (.rt (.tup ((ps.set k P).map Pt.d)) false) := by
        have hb : exs (run law.Γ law.G (n + 2)) law.G [.ret (.op .add (.op .add (.sl (.var 0) .nop (.var 1)) (.tup [.call 10 [.var 2]])) (.sl (.var 0) (.op .add (.var 1) (.int 1)) .nop))] [.dat (.tup (ps.map Pt.d)), .dat (.int k), .dat P.c, .no, .no, .no, .no] = .ok (.rt (.tup ((ps.set k P).map Pt.d)) false) := by
          have h1l : [P.d].length ≤ LIM := LIM_le (by simp)
          refine seq_rt ?_
          simp only [ex_ret, ev_call, evs_cons, evs_nil, ev_var, ev_op, ev_sl, ev_tup, ev_int, evQ_nop, evQ_var, evQ_op, List.getElem?_cons_succ, List.getElem?_cons_zero, getV_dat, R.bind_ok, post_val', post_bor', bind_ok', partD_int, sl_tup, cut_take _ hz, post_val, post_bor, op_addI, cut_drop _ hz1, Int.toNat_natCast, ht, hp]
          rw [req_pos h1l]
          simp only [R.bind_ok, hadd, hadd2]
        unfold f14_t0
        rw [ex_ite]
        have hc1 : ev (run law.Γ law.G (n + 2)) law.G .test (.cmp .ge (.blt .len [.ix (.var 2) (.int 1)]) (.glob 0)) [.dat (.tup (ps.map Pt.d)), .dat (.int k), .dat P.c, .no, .no, .no, .no] = .ok (.bl true) := by
          simp [hix, h4']
        rw [hc1, R.bind_ok, onB_bl, if_pos rfl, hb]
      rw [seq_rt t0]
      rfl
  · have hl3 : row.length = 3 := by omega
    have h4' : ¬ (4 : Int) ≤ row.length := by omega
    have t0 : ex (run law.Γ law.G (n + 2)) law.G f14_t0 [.dat (.tup (ps.map Pt.d)), .dat (.int k), .dat P.c, .no, .no, .no, .no] = .ok (.nx [.dat (.tup (ps.map Pt.d)), .dat (.int k), .dat P.c, .no, .no, .no, .no]) := by
      simp [f14_t0, hix, h4']
    obtain ⟨j, hj1, hj2, t1⟩ : ∃ j : Nat, (j = k ∨ j + 1 = k) ∧ j + 1 < ps.length ∧ ex (run law.Γ law.G (n + 2)) law.G f14_t1 [.dat (.tup (ps.map Pt.d)), .dat (.int k), .dat P.c, .no, .no, .no, .no] = .ok (.nx [.dat (.tup (ps.map Pt.d)), .dat (.int k), .dat P.c, .dat (.int j), .no, .no, .no]) := by
      cases k with
      | zero => exact ⟨0, .inl rfl, by omega, by simp [f14_t1]⟩
      | succ k =>
        refine ⟨k, .inr rfl, hk, ?_⟩
        have : ((if (0 : Int) < ((k + 1 : Nat) : Int) - 1 then ((k + 1 : Nat) : Int) - 1 else 0) : Int) = k := by split <;> omega
        simp [f14_t1]
        intro h
        omega
    have hu : (ps.set k P)[j]? = some ((ps.set k P)[j]'(by rw [List.length_set]; omega)) := List.getElem?_eq_getElem _
    have hv : (ps.set k P)[j + 1]? = some ((ps.set k P)[j + 1]'(by rw [List.length_set]; omega)) := List.getElem?_eq_getElem _
    generalize hue : (ps.set k P)[j]'(by rw [List.length_set]; omega) = u at hu
    generalize hve : (ps.set k P)[j + 1]'(by rw [List.length_set]; omega) = v at hv
    have a1 : atD (ps.map Pt.d) (j : Int) = .ok (ps[j]).d := atD_nat (by rw [List.getElem?_map, List.getElem?_eq_getElem (by omega)]; rfl)
    have a2 : atD (ps.map Pt.d) ((j : Int) + 1) = .ok (ps[j + 1]).d := by
      rw [show (j : Int) + 1 = ((j + 1 : Nat) : Int) by omega]
      exact atD_nat (by rw [List.getElem?_map, List.getElem?_eq_getElem (by omega)]; rfl)
    have p1 : ∀ q : Pt, ixD q.d (.int 1) = .ok q.c := fun q => by simp [Pt.d]
    have t2 : ex (run law.Γ law.G (n + 2)) law.G f14_t2 [.dat (.tup (ps.map Pt.d)), .dat (.int k), .dat P.c, .dat (.int j), .no, .no, .no] = .ok (.nx [.dat (.tup (ps.map Pt.d)), .dat (.int k), .dat P.c, .dat (.int j), .own [(ps[j]).c, (ps[j + 1]).c], .no, .no]) := by
      simp [f14_t2, a1, a2, p1]
    have t3 : ex (run law.Γ law.G (n + 2)) law.G f14_t3 [.dat (.tup (ps.map Pt.d)), .dat (.int k), .dat P.c, .dat (.int j), .own [(ps[j]).c, (ps[j + 1]).c], .no, .no] = .ok (.nx [.dat (.tup (ps.map Pt.d)), .dat (.int k), .dat P.c, .dat (.int j), .own [u.c, v.c], .no, .no]) := by
      rcases hj1 with rfl | rfl
      · have e1 : u = P := by rw [← hue]; simp
        have e2 : v = ps[j + 1] := by rw [← hve]; exact List.getElem_set_ne (by omega) _
        subst e1; subst e2
        have hz : (j : Int) - j = 0 := by omega
        simp [f14_t3]
        rw [set_0]
        rfl
      · have e1 : u = ps[j] := by rw [← hue]; exact List.getElem_set_ne (by omega) _
        have e2 : v = P := by rw [← hve]; simp
        subst e1; subst e2
        have hz : ((j + 1 : Nat) : Int) - j = 1 := by omega
        simp [f14_t3]
        rw [show (j : Int) + 1 - j = 1 by omega, set_1]
        rfl
    obtain ⟨ru, hru, hrwu, hrul, hru8⟩ : ∃ ru, u.c = cD N ru ∧ Rw N ru u.es ∧ 3 ≤ ru.length ∧ ru.length ≤ 8 := by
      have : Ce 3 3 N u.c u.es := by
        rcases List.mem_or_eq_of_mem_set (List.mem_of_getElem? hu) with h | h
        · exact (hps u h).1.weak (by omega) (by omega)
        · rw [h]; exact hP
      obtain ⟨r, z1, z2, z3, z4⟩ := ce_row this
      rw [hmn] at z3
      exact ⟨r, z1, z2, z3, z4⟩
    obtain ⟨rv, hrv, hrwv, hrvl, hrv8⟩ : ∃ ru, v.c = cD N ru ∧ Rw N ru v.es ∧ 3 ≤ ru.length ∧ ru.length ≤ 8 := by
      have : Ce 3 3 N v.c v.es := by
        rcases List.mem_or_eq_of_mem_set (List.mem_of_getElem? hv) with h | h
        · exact (hps v h).1.weak (by omega) (by omega)
        · rw [h]; exact hP
      obtain ⟨r, z1, z2, z3, z4⟩ := ce_row this
      rw [hmn] at z3
      exact ⟨r, z1, z2, z3, z4⟩
    obtain ⟨cs, c1, c2, c3, c4, c5⟩ := cut_row (rw_append hrwu hrwv) (by rw [List.length_append]; omega) (by rw [List.length_append]; omega)
    have hcut := r_cut (n + 1) (wd N) (ru ++ rv) (by rw [List.length_append]; omega)
    rw [c4] at hcut
    have hlc := lcF_map (C := run law.Γ law.G (n + 2)) (G := law.G) (ts := [6]) (e := f14_e0) Pt.c Pt.d (xs := cs) (δ := [.dat (.tup (ps.map Pt.d)), .dat (.int k), .dat P.c, .dat (.int j), .own [u.c, v.c], .no, .no]) (by
      intro p hp
      have := r_part n (c5 p hp).1 (c5 p hp).2
      exact ⟨_, layN_one _ _ _, by simp [f14_e0, this]⟩)
    have hiu : ixD u.c (.int 1) = .ok (.tup ru) := by rw [hru]; simp [cD]
    have hiv : ixD v.c (.int 1) = .ok (.tup rv) := by rw [hrv]; simp [cD]
    have t4 : ex (run law.Γ law.G (n + 2)) law.G f14_t4 [.dat (.tup (ps.map Pt.d)), .dat (.int k), .dat P.c, .dat (.int j), .own [u.c, v.c], .no, .no] = .ok (.nx [.dat (.tup (ps.map Pt.d)), .dat (.int k), .dat P.c, .dat (.int j), .own [u.c, v.c], .dat (.lst (cs.map Pt.d)), .no]) := by
      simp [f14_t4, hix0, hiu, hiv, show ru.length + rv.length ≤ LIM from LIM_le (by omega), hcut]
      rw [hlc]
      simp [show cs.length < LIM from LIM_lt (by omega)]
    have hset : ∀ i, i < j → (ps.set k P)[i]? = ps[i]? := fun i hi => List.getElem?_set_ne (by omega)
    have htk : (ps.set k P).take j = ps.take j := by rw [List.take_set_of_le (by omega)]
    have hdr : (ps.set k P).drop (j + 2) = ps.drop (j + 2) := by rw [List.drop_set_of_lt (by omega)]
    have hfl : flat (ps.take j ++ cs ++ ps.drop (j + 2)) = flat (ps.set k P) := by
      rw [two_split hu hv, htk, hdr, flat_append, flat_append, c1]
    have hlen : (ps.take j ++ cs ++ ps.drop (j + 2)).length = ps.length - 2 + cs.length := by
      simp only [List.length_append, List.length_take, List.length_drop]
      omega
    refine ⟨ps.take j ++ cs ++ ps.drop (j + 2), hfl, by omega, by omega, fun p hp => ?_, fun hP4 => ?_, ?_⟩
    · rcases List.mem_append.mp hp with hp | hp
      · rcases List.mem_append.mp hp with hp | hp
        · exact hps p (List.mem_of_mem_take hp)
        · exact c5 p hp
      · exact hps p (List.mem_of_mem_drop hp)
    · exfalso
      obtain ⟨r', z1, z2, z3, z4⟩ := ce_row hP4
      rw [hc] at z1
      have : row = r' := by
        simp [cD] at z1
        exact z1
      subst this
      have : mn 4 4 N = 4 := by cases N <;> rfl
      omega
    · have hz : (0 : Int) ≤ (j : Int) := by omega
      have hz2 : (0 : Int) ≤ (j : Int) + 2 := by omega
      have ht : ((j : Int) + 2).toNat = j + 2 := by omega
      have hrow : (ps.map Pt.d).take j ++ cs.map Pt.d ++ (ps.map Pt.d).drop (j + 2) = (ps.take j ++ cs ++ ps.drop (j + 2)).map Pt.d := by simp [List.map_take, List.map_drop]
      have hl1 : ((ps.map Pt.d).take j).length + (cs.map Pt.d).length ≤ LIM := LIM_le (by rw [List.length_take, List.length_map, List.length_map]; omega)
      have hl2 : ((ps.map Pt.d).take j ++ cs.map Pt.d).length + ((ps.map Pt.d).drop (j + 2)).length ≤ LIM := LIM_le (by rw [List.length_append, List.length_take, List.length_drop, List.length_map, List.length_map]; omega)
      have hadd : op2 .add (.tup ((ps.map Pt.d).take j)) (.tup (cs.map Pt.d)) = .ok (.tup ((ps.map Pt.d).take j ++ cs.map Pt.d)) := by rw [op_addT, req_pos hl1]
      have hadd2 : op2 .add (.tup ((ps.map Pt.d).take j ++ cs.map Pt.d)) (.tup ((ps.map Pt.d).drop (j + 2))) = .ok (.tup ((ps.take j ++ cs ++ ps.drop (j + 2)).map Pt.d)) := by rw [op_addT, req_pos hl2, hrow]
      have t5 : ex (run law.Γ law.G (n + 2)) law.G f14_t5 [.dat (.tup (ps.map Pt.d)), .dat (.int k), .dat P.c, .dat (.int j), .own [u.c, v.c], .dat (.lst (cs.map Pt.d)), .no] = .ok (.rt (.tup ((ps.take j ++ cs ++ ps.drop (j + 2)).map Pt.d)) false) := by
        unfold f14_t5
        simp only [ex_ret, ev_blt, evb_cons, evb_nil, ev_var, ev_op, ev_sl, ev_int, evQ_nop, evQ_var, evQ_op, List.getElem?_cons_succ, List.getElem?_cons_zero, getV_dat, R.bind_ok, post_val', post_bor', bind_ok', partD_int, sl_tup, cut_take _ hz, post_val, post_bor, op_addI, cut_drop _ hz2, Int.toNat_natCast, ht, blt_tup_lst, hadd, hadd2]
      rw [seq_nx t0, seq_nx t1, seq_nx t2, seq_nx t3, seq_nx t4, seq_rt t5]
      rfl
end K26

namespace K26
open Fw BT
theorem mem_sub {ps : List Pt} {p : Pt} (hp : p ∈ ps) : p.es.length ≤ (flat ps).length := List.Sublist.length_le (List.sublist_flatten_of_mem (List.mem_map.mpr ⟨p, hp, rfl⟩))
theorem r_taken : ∀ (N : Nat) (a b : Nat) (c : D) (es : List Ent) (x : Ent) (k : Nat), Ce a b N c es → 2 ≤ b → Srt es → ∃ (c' : D) (es' : List Ent), Ce (a - 1) (b - 1) N c' es' ∧ Srt es' ∧ (∀ e, e ∈ es' ↔ e ∈ es ∧ e ≠ x) ∧ (x ∉ es → c' = c) ∧ run law.Γ law.G (N + 6 + k) 15 [c, x.d] = .ok (c', false)
  | 0, a, b, c, es, x, k, h, hb, hs => by
    obtain ⟨rfl, ha, h8⟩ := h
    rw [show 0 + 6 + k = (k + 5) + 1 by omega, u15]
    have t0 : ex (run law.Γ law.G (k + 5)) law.G (.unp [3, 4] (.var 0)) [.dat (lfD es), .dat x.d, .no, .no, .no] = .ok (.nx [.dat (lfD es), .dat x.d, .no, .dat (.str leafS), .dat (.tup (es.map Ent.d))]) := by
      simp [lfD, leafS]
    rw [seq_nx t0]
    have hst := r_stands k es x hs (by omega)
    by_cases hx : x ∈ es
    · obtain ⟨q, hq, hr⟩ := r_leaf (k + 1) es x (by omega)
      have hqe : es[q]? = some x := by
        obtain ⟨e, he, hl⟩ := (lp_mem hs hq).mp hx
        have h4 := hq.2.2 e he
        rcases lt_tri x e with h5 | rfl | h5
        · rw [hl] at h5; cases h5
        · exact he
        · rw [h4] at h5; cases h5
      have hql := (List.getElem?_eq_some_iff.mp hqe).1
      have hqx := (List.getElem?_eq_some_iff.mp hqe).2
      have hsplit : es = es.take q ++ x :: es.drop (q + 1) := by
        conv => lhs; rw [← List.take_append_drop q es, List.drop_eq_getElem_cons hql, hqx]
      have hs2 := hs
      rw [hsplit, Srt, List.pairwise_append, List.pairwise_cons] at hs2
      obtain ⟨s1, ⟨s2, s3⟩, s4⟩ := hs2
      have hs' : Srt (es.take q ++ es.drop (q + 1)) := by
        rw [Srt, List.pairwise_append]
        exact ⟨s1, s3, fun u hu v hv => s4 u hu v (List.mem_cons_of_mem _ hv)⟩
      have hlen : (es.take q ++ es.drop (q + 1)).length + 1 = es.length := by
        rw [List.length_append, List.length_take, List.length_drop]; omega
      refine ⟨lfD (es.take q ++ es.drop (q + 1)), _, ⟨rfl, by omega, by omega⟩, hs', fun e => ?_, fun h => absurd hx h, ?_⟩
      · rw [List.mem_append]
        constructor
        · rintro (h | h)
          · exact ⟨List.mem_of_mem_take h, fun z => by have := lt_ne (s4 e h x (List.mem_cons_self ..)); exact this z⟩
          · exact ⟨List.mem_of_mem_drop h, fun z => by have := lt_ne (s2 e h); exact this z.symm⟩
        · rintro ⟨h, hn⟩
          rw [hsplit] at h
          rcases List.mem_append.mp h with h | h
          · exact .inl h
          · rcases List.mem_cons.mp h with h | h
            · exact absurd h hn
            · exact .inr h
      · have hz : (0 : Int) ≤ (q : Int) := by omega
        have hz1 : (0 : Int) ≤ (q : Int) + 1 := by omega
        have ht : ((q : Int) + 1).toNat = q + 1 := by omega
        have hl1 : ((es.map Ent.d).take q).length + ((es.map Ent.d).drop (q + 1)).length ≤ LIM := LIM_le (by rw [List.length_take, List.length_drop, List.length_map]; omega)
        have hrow : (es.map Ent.d).take q ++ (es.map Ent.d).drop (q + 1) = (es.take q ++ es.drop (q + 1)).map Ent.d := by simp [List.map_take, List.map_drop]
        have hadd : op2 .add (.tup ((es.map Ent.d).take q)) (.tup ((es.map Ent.d).drop (q + 1))) = .ok (.tup ((es.take q ++ es.drop (q + 1)).map Ent.d)) := by rw [op_addT, req_pos hl1, hrow]
        have e1 : ex (run law.Γ law.G (k + 5)) law.G (.set 2 (.call 7 [.var 4, .var 1])) [.dat (lfD es), .dat x.d, .no, .dat (.str leafS), .dat (.tup (es.map Ent.d))] = .ok (.nx [.dat (lfD es), .dat x.d, .dat (.int q), .dat (.str leafS), .dat (.tup (es.map Ent.d))]) := by
          simp [hr]
        have e2 : ex (run law.Γ law.G (k + 5)) law.G (.ret (.tup [.var 3, .op .add (.sl (.var 4) .nop (.var 2)) (.sl (.var 4) (.op .add (.var 2) (.int 1)) .nop)])) [.dat (lfD es), .dat x.d, .dat (.int q), .dat (.str leafS), .dat (.tup (es.map Ent.d))] = .ok (.rt (lfD (es.take q ++ es.drop (q + 1))) false) := by
          simp only [ex_ret, evs_cons, evs_nil, ev_var, ev_op, ev_sl, ev_tup, ev_int, evQ_nop, evQ_var, evQ_op, List.getElem?_cons_succ, List.getElem?_cons_zero, getV_dat, R.bind_ok, post_val', post_bor', bind_ok', partD_int, sl_tup, cut_take _ hz, post_val, post_bor, op_addI, cut_drop _ hz1, Int.toNat_natCast, ht, hadd]
          rw [req_pos (LIM_le (by simp))]
          rfl
        have t1 : ex (run law.Γ law.G (k + 5)) law.G f15_t1 [.dat (lfD es), .dat x.d, .no, .dat (.str leafS), .dat (.tup (es.map Ent.d))] = .ok (.rt (lfD (es.take q ++ es.drop (q + 1))) false) := by
          have hc : ev (run law.Γ law.G (k + 5)) law.G .test (.cmp .eq (.var 3) (.str [108, 101, 97, 102])) [.dat (lfD es), .dat x.d, .no, .dat (.str leafS), .dat (.tup (es.map Ent.d))] = .ok (.bl true) := by simp [leafS]
          have h0 : ex (run law.Γ law.G (k + 5)) law.G (.ite (.not (.call 8 [.var 4, .var 1])) [.ret (.var 0)] []) [.dat (lfD es), .dat x.d, .no, .dat (.str leafS), .dat (.tup (es.map Ent.d))] = .ok (.nx [.dat (lfD es), .dat x.d, .no, .dat (.str leafS), .dat (.tup (es.map Ent.d))]) := by
            simp [hst, hx]
          unfold f15_t1
          rw [ex_ite, hc, R.bind_ok, onB_bl, if_pos rfl, seq_nx h0, seq_nx e1, seq_rt e2]
        rw [seq_rt t1]
        rfl
    · refine ⟨lfD es, es, ⟨rfl, by omega, h8⟩, hs, fun e => ⟨fun h => ⟨h, fun z => hx (by rw [← z]; exact h)⟩, fun h => h.1⟩, fun _ => rfl, ?_⟩
      simp [f15_t1, leafS, hst, hx]
  | N + 1, a, b, c, es, x, k, h, hb, hs => by
    obtain ⟨ps, rfl, rfl, hb1, h8, h5⟩ := h
    obtain ⟨q, hp, hr⟩ := r_place (N + 2 + k) ps x (by omega) (by omega)
    have hql : q < ps.length := hp.1
    have hk : ps[q]? = some ps[q] := List.getElem?_eq_getElem hql
    have a1 : atD (ps.map Pt.d) (q : Int) = .ok (ps[q]).d := atD_nat (by simp [hk])
    have hpe := h5 _ (List.getElem_mem hql)
    have hsp := srt_part hs hk
    have hfp : ∀ p ∈ ps, ∃ r, p.es = p.f :: r := fun p hp => (h5 p hp).2
    obtain ⟨c1, es1, k1, k2, k3, k4, k5⟩ := r_taken N 4 4 (ps[q]).c (ps[q]).es x k hpe.1 (by omega) hsp
    have hne : es1 ≠ [] := by
      obtain ⟨row, _, z2, z3, _⟩ := ce_row k1
      refine rw_ne z2 ?_
      have : mn (4 - 1) (4 - 1) N = 3 := by cases N <;> rfl
      omega
    obtain ⟨qs, f1, f2, f3, f4, f5, f6⟩ := r_filled (N + 3 + k) (k := q) (P := mkP c1 es1) h5 hql (by omega) h8 k1 (mkP_ok hne)
    have hs' : Srt (flat (ps.set q (mkP c1 es1))) := by
      rw [set_flat _ hql]
      refine ins_flat (x := x) hs hk hfp hp (by simpa [mkP] using k2) (fun e he => .inl ?_)
      have : e ∈ es1 := by simpa [mkP] using he
      exact ((k3 e).mp this).1
    have hmem : ∀ e, e ∈ flat (ps.set q (mkP c1 es1)) ↔ e ∈ flat ps ∧ e ≠ x := by
      intro e
      have hfl : e ∈ flat [mkP c1 es1] ↔ e ∈ (ps[q]).es ∧ e ≠ x := by
        rw [← k3 e]
        simp [mkP]
      have hxA : ∀ e, e ∈ flat (ps.take q) ∨ e ∈ flat (ps.drop (q + 1)) → e ≠ x := by
        rintro e hAC rfl
        have hx : e ∈ flat ps := (split_mem hk).mpr (hAC.elim .inl fun h => .inr (.inr h))
        have hx2 := (pp_mem hs hfp hp hk).mp hx
        have hs2 := hs
        rw [flat_split hk, Srt, List.pairwise_append, List.pairwise_append] at hs2
        rcases hAC with h | h
        · exact lt_ne (hs2.2.2 e h e (List.mem_append_left _ hx2)) rfl
        · exact lt_ne (hs2.2.1.2.2 e hx2 e h) rfl
      rw [set_flat _ hql, exch_mem, split_mem hk, hfl]
      constructor
      · rintro (h | h | h)
        · exact ⟨.inl h, hxA e (.inl h)⟩
        · exact ⟨.inr (.inl h.1), h.2⟩
        · exact ⟨.inr (.inr h), hxA e (.inr h)⟩
      · rintro ⟨h | h | h, hn⟩
        · exact .inl h
        · exact .inr (.inl ⟨h, hn⟩)
        · exact .inr (.inr h)
    refine ⟨brD qs, flat qs, ⟨qs, rfl, rfl, by omega, f3, f4⟩, by rw [f1]; exact hs', fun e => by rw [f1]; exact hmem e, fun hx => ?_, ?_⟩
    · have hxp : x ∉ (ps[q]).es := fun h => hx ((split_mem hk).mpr (.inr (.inl h)))
      have hc1 := k4 hxp
      have he1 : es1 = (ps[q]).es := srt_ext k2 hsp fun e => by
        rw [k3]
        exact ⟨fun h => h.1, fun h => ⟨h, fun z => hxp (by rw [← z]; exact h)⟩⟩
      have hq := f5 (by show Ce 4 4 N c1 es1; rw [hc1, he1]; exact hpe.1)
      have hf : (mkP c1 es1).f = (ps[q]).f := by
        obtain ⟨r, hr⟩ := hpe.2
        rw [he1]
        show List.headD (ps[q]).es _ = _
        rw [hr]
        rfl
      have hd : (ps.set q (mkP c1 es1)).map Pt.d = ps.map Pt.d := by
        refine Eq.trans ?_ (congrArg (List.map Pt.d) (part_split hk)).symm
        rw [set_flat _ hql, List.map_append, List.map_append, List.map_append, List.map_cons, List.map_cons, List.map_nil, pt_eq hf (by exact hc1), List.append_assoc]
        rfl
      show D.tup [.str _, .tup (qs.map Pt.d)] = D.tup [.str _, .tup (ps.map Pt.d)]
      rw [hq, hd]
    · rw [show N + 1 + 6 + k = (N + 6 + k) + 1 by omega, u15]
      rw [show N + 2 + k + 4 = N + 6 + k by omega] at hr
      rw [show N + 3 + k + 3 = N + 6 + k by omega] at f6
      have t0 : ex (run law.Γ law.G (N + 6 + k)) law.G (.unp [3, 4] (.var 0)) [.dat (brD ps), .dat x.d, .no, .no, .no] = .ok (.nx [.dat (brD ps), .dat x.d, .no, .dat (.str brS), .dat (.tup (ps.map Pt.d))]) := by
        simp [brD, brS]
      have t1 : ex (run law.Γ law.G (N + 6 + k)) law.G f15_t1 [.dat (brD ps), .dat x.d, .no, .dat (.str brS), .dat (.tup (ps.map Pt.d))] = .ok (.nx [.dat (brD ps), .dat x.d, .no, .dat (.str brS), .dat (.tup (ps.map Pt.d))]) := by
        simp [f15_t1, brS]
      have t2 : ex (run law.Γ law.G (N + 6 + k)) law.G f15_t2 [.dat (brD ps), .dat x.d, .no, .dat (.str brS), .dat (.tup (ps.map Pt.d))] = .ok (.nx [.dat (brD ps), .dat x.d, .dat (.int q), .dat (.str brS), .dat (.tup (ps.map Pt.d))]) := by
        simp [f15_t2, hr]
      have hix : ixD (ps[q]).d (.int 1) = .ok (ps[q]).c := by simp [Pt.d]
      have f6' : run law.Γ law.G (N + 6 + k) 14 [.tup (ps.map Pt.d), .int q, c1] = .ok (.tup (qs.map Pt.d), false) := f6
      have t3 : ex (run law.Γ law.G (N + 6 + k)) law.G f15_t3 [.dat (brD ps), .dat x.d, .dat (.int q), .dat (.str brS), .dat (.tup (ps.map Pt.d))] = .ok (.rt (brD qs) false) := by
        simp [f15_t3, a1, hix, k5, f6', brD, brS]
      rw [seq_nx t0, seq_nx t1, seq_nx t2, seq_rt t3]
      rfl
theorem r_without (n : Nat) (x : Ent) {N : Nat} {c : D} {es : List Ent} (h : Ce 0 2 N c es) (hs : Srt es) : ∃ (c' : D) (N' : Nat) (es' : List Ent), Ce 0 2 N' c' es' ∧ N' ≤ N ∧ Srt es' ∧ (∀ e, e ∈ es' ↔ e ∈ es ∧ e ≠ x) ∧ (x ∉ es → c' = c) ∧ run law.Γ law.G (N + 7 + n) 16 [c, x.v.d, .int x.n] = .ok (c', false) := by
  obtain ⟨c1, es1, k1, k2, k3, k4, k5⟩ := r_taken N 0 2 c es x n h (by omega) hs
  rw [show N + 7 + n = (N + 6 + n) + 1 by omega, u16]
  have hxd : (D.tup [x.v.d, .int x.n]) = x.d := rfl
  have t0 : ex (run law.Γ law.G (N + 6 + n)) law.G f16_t0 [.dat c, .dat x.v.d, .dat (.int x.n), .no] = .ok (.nx [.dat c, .dat x.v.d, .dat (.int x.n), .dat c1]) := by
    simp [f16_t0, hxd, k5]
  rw [seq_nx t0]
  cases N with
  | zero =>
    obtain ⟨rfl, _, h8⟩ := k1
    refine ⟨lfD es1, 0, es1, ⟨rfl, Nat.zero_le _, h8⟩, Nat.le_refl _, k2, k3, k4, ?_⟩
    simp [f16_t1, lfD]
  | succ N =>
    obtain ⟨ps, rfl, rfl, hb, h8, h5⟩ := k1
    by_cases h1 : ps.length = 1
    · obtain ⟨p, rfl⟩ := List.length_eq_one_iff.mp h1
      have hp := h5 p (List.mem_singleton.mpr rfl)
      refine ⟨p.c, N, p.es, hp.1.weak (by omega) (by omega), by omega, by simpa using k2, fun e => by simpa using k3 e, fun hx => ?_, ?_⟩
      · exfalso
        have hcc := k4 hx
        obtain ⟨qs, g1, _, g3, _⟩ := h
        rw [g1] at hcc
        have : ([p].map Pt.d) = qs.map Pt.d := by simpa [brD] using hcc
        have := congrArg List.length this
        simp at this
        omega
      · simp [f16_t1, brD, Pt.d]
    · refine ⟨brD ps, N + 1, flat ps, ⟨ps, rfl, rfl, by omega, h8, h5⟩, Nat.le_refl _, k2, k3, k4, ?_⟩
      have h1' : ¬ ((ps.length : Int) = 1) := by omega
      simp [f16_t1, brD, h1, h1']
end K26

namespace K26
open Fw BT
def lvD (N : Nat) (l : List Ent) : D := .tup [.int N, .lst (l.map Ent.d)]
theorem dle_lv (k N : Nat) (l : List Ent) : dle (k + 3) (lvD N l) = true := by
  show ([D.int N, .lst (l.map Ent.d)].all (dle (k + 2))) = true
  simp [dle_int]
  exact dle_ents k l
theorem dle_lvs (N : Nat) (lv : List (List Ent)) : dle 60 (.lst (lv.map (lvD N))) = true := by
  show ((lv.map (lvD N)).all (dle 59)) = true
  rw [List.all_eq_true]
  intro x hx
  obtain ⟨l, _, rfl⟩ := List.mem_map.mp hx
  exact dle_lv 56 N l
theorem len_flat {α : Type} : ∀ lv : List (List α), (∀ l ∈ lv, l ≠ []) → lv.length ≤ lv.flatten.length
  | [], _ => by simp
  | l :: lv, h => by
    have h1 := h l (List.mem_cons_self ..)
    have h2 := len_flat lv fun r hr => h r (List.mem_cons_of_mem _ hr)
    have h3 : 1 ≤ l.length := by
      cases l with
      | nil => exact absurd rfl h1
      | cons => simp
    rw [List.flatten_cons, List.length_append, List.length_cons]
    omega
theorem cells_in {C : Nat → List D → R (D × Bool)} (N : Nat) : ∀ (lv acc : List (List Ent)) (s0 s1 s3 s4 s5 s6 : Sl), acc.length + lv.length ≤ 100000 →
    ∃ s5' s6', frL C law.G [5, 6] f27_b2 (lv.map (lvD N)) [s0, s1, .own (acc.map (lvD (N + 1))), s3, s4, s5, s6] = .ok (.nx [s0, s1, .own ((acc ++ lv).map (lvD (N + 1))), s3, s4, s5', s6'])
  | [], acc, s0, s1, s3, s4, s5, s6, _ => ⟨s5, s6, by simp [frL_nil]⟩
  | l :: lv, acc, s0, s1, s3, s4, s5, s6, hl => by
    rw [List.length_cons] at hl
    obtain ⟨s5', s6', ih⟩ := cells_in N lv (acc ++ [l]) s0 s1 s3 s4 (.dat (.int N)) (.dat (.lst (l.map Ent.d))) (by rw [List.length_append, List.length_singleton]; omega)
    refine ⟨s5', s6', ?_⟩
    have hn : (N : Int) + 1 = ((N + 1 : Nat) : Int) := by omega
    have hb : exs C law.G f27_b2 ((List.set [s0, s1, .own (acc.map (lvD (N + 1))), s3, s4, s5, s6] 5 (.dat (.int N))).set 6 (.dat (.lst (l.map Ent.d)))) = .ok (.nx [s0, s1, .own ((acc ++ [l]).map (lvD (N + 1))), s3, s4, .dat (.int N), .dat (.lst (l.map Ent.d))]) := by
      have t1 : ex C law.G f27_l0x_0 [s0, s1, .own (acc.map (lvD (N + 1))), s3, s4, .dat (.int N), .dat (.lst (l.map Ent.d))] = .ok (.nx [s0, s1, .own (acc.map (lvD (N + 1))), s3, s4, .dat (.int N), .dat (.lst (l.map Ent.d))]) := by
        have hd := dle_lvs (N + 1) acc
        cases acc with
        | nil => simp [f27_l0x_0]
        | cons a acc =>
          have hix : ixD (lvD (N + 1) a) (.int 0) = .ok (.int ((N + 1 : Nat) : Int)) := by simp [lvD]
          simp only [List.map_cons] at hd
          simp [f27_l0x_0, hd, hix]
      have hd : lvD (N + 1) l = .tup [.int ((N : Int) + 1), .lst (l.map Ent.d)] := by rw [lvD, hn]
      show exs C law.G f27_b2 [s0, s1, .own (acc.map (lvD (N + 1))), s3, s4, .dat (.int N), .dat (.lst (l.map Ent.d))] = _
      unfold f27_b2
      rw [seq_nx t1]
      simp [f27_l0x_1, hd, show acc.length < LIM from LIM_lt (by omega)]
    rw [List.map_cons, frL_cons]
    show ((layN [5, 6] (.tup [.int N, .lst (l.map Ent.d)]) _).bind _) = _
    rw [layN_two, R.bind_ok, hb, R.bind_ok, loopF_nx, ih, List.append_assoc]
    rfl
def Bn (C : Nat → List D → R (D × Bool)) (N : Nat) (p : Pt) : Prop := ∃ lv : List (List Ent), lv.flatten = p.es ∧ (∀ l ∈ lv, l ≠ []) ∧ C 27 [p.c, .bl false] = .ok (.lst (lv.map (lvD N)), false)
theorem cells_out {C : Nat → List D → R (D × Bool)} (hsame : ∀ a b : Ent, C 25 [a.d, b.d] = .ok (.bl (decide (a = b)), false)) (N : Nat) : ∀ (ps : List Pt) (acc : List (List Ent)) (s0 s1 s3 s4 s5 s6 : Sl), (∀ p ∈ ps, Bn C N p ∧ ∃ r, p.es = p.f :: r) → acc.length + (flat ps).length ≤ 100000 →
    ∃ (lvs : List (List Ent)) (s3' s4' s5' s6' : Sl), lvs.flatten = flat ps ∧ (∀ l ∈ lvs, l ≠ []) ∧ frL C law.G [3] f27_b6 (ps.map Pt.d) [s0, s1, .own (acc.map (lvD (N + 1))), s3, s4, s5, s6] = .ok (.nx [s0, s1, .own ((acc ++ lvs).map (lvD (N + 1))), s3', s4', s5', s6'])
  | [], acc, s0, s1, s3, s4, s5, s6, _, _ => ⟨[], s3, s4, s5, s6, rfl, fun _ h => by simp at h, by simp [frL_nil]⟩
  | p :: ps, acc, s0, s1, s3, s4, s5, s6, h, hl => by
    rw [flat_cons, List.length_append] at hl
    obtain ⟨⟨lv, v1, v2, v3⟩, r, hr⟩ := h p (List.mem_cons_self ..)
    have hlv := len_flat lv v2
    rw [v1] at hlv
    obtain ⟨s5', s6', hin⟩ := cells_in (C := C) N lv acc s0 s1 (.dat p.d) (.dat (.lst (lv.map (lvD N)))) s5 s6 (by omega)
    obtain ⟨lvs, s3'', s4'', s5'', s6'', w1, w2, w3⟩ := cells_out hsame N ps (acc ++ lv) s0 s1 (.dat p.d) (.dat (.lst (lv.map (lvD N)))) s5' s6' (fun q hq => h q (List.mem_cons_of_mem _ hq)) (by rw [List.length_append]; omega)
    refine ⟨lv ++ lvs, s3'', s4'', s5'', s6'', by rw [List.flatten_append, v1, w1, flat_cons], fun l hl => ?_, ?_⟩
    · rcases List.mem_append.mp hl with hl | hl
      · exact v2 l hl
      · exact w2 l hl
    · have t0 : ex C law.G (.set 4 .non) [s0, s1, .own (acc.map (lvD (N + 1))), .dat p.d, s4, s5, s6] = .ok (.nx [s0, s1, .own (acc.map (lvD (N + 1))), .dat p.d, .dat .non, s5, s6]) := by simp
      have t1 : ex C law.G f27_l0_1 [s0, s1, .own (acc.map (lvD (N + 1))), .dat p.d, .dat .non, s5, s6] = .ok (.nx [s0, s1, .own (acc.map (lvD (N + 1))), .dat p.d, .dat (.lst (lv.map (lvD N))), s5, s6]) := by
        simp [f27_l0_1, Pt.d, v3]
      have t2 : ex C law.G f27_l0_2 [s0, s1, .own (acc.map (lvD (N + 1))), .dat p.d, .dat (.lst (lv.map (lvD N))), s5, s6] = .ok (.nx [s0, s1, .own (acc.map (lvD (N + 1))), .dat p.d, .dat (.lst (lv.map (lvD N))), s5, s6]) := by
        cases lv with
        | nil => rw [hr] at v1; simp at v1
        | cons l lv =>
          cases l with
          | nil => exact absurd rfl (v2 [] (List.mem_cons_self ..))
          | cons e l =>
            rw [hr] at v1
            have he : e = p.f := by simpa using (List.cons.inj v1).1
            subst he
            simp [f27_l0_2, Pt.d, lvD, hsame]
      have t3 : ex C law.G f27_l0_3 [s0, s1, .own (acc.map (lvD (N + 1))), .dat p.d, .dat (.lst (lv.map (lvD N))), s5, s6] = .ok (.nx [s0, s1, .own ((acc ++ lv).map (lvD (N + 1))), .dat p.d, .dat (.lst (lv.map (lvD N))), s5', s6']) := by
        unfold f27_l0_3
        rw [ex_fr]
        simp only [evI_var, ev_var, List.getElem?_cons_succ, List.getElem?_cons_zero, getV_dat, R.bind_ok, post_val, itemsD_lst, hin]
      rw [List.map_cons, frL_cons, layN_one, R.bind_ok]
      show ((exs C law.G f27_b6 [s0, s1, .own (acc.map (lvD (N + 1))), .dat p.d, s4, s5, s6]).bind _) = _
      unfold f27_b6 at w3 ⊢
      rw [seq_nx t0, seq_nx t1, seq_nx t2, seq_nx t3, exs_nil, R.bind_ok, loopF_nx, w3, List.append_assoc]
theorem r_cells : ∀ (N : Nat) (c : D) (es : List Ent) (root : Bool) (k : Nat), Ce (if root = true then 0 else 4) (if root = true then 2 else 4) N c es → es.length ≤ 100000 → ∃ lv : List (List Ent), lv.flatten = es ∧ (es ≠ [] → ∀ l ∈ lv, l ≠ []) ∧ run law.Γ law.G (N + 3 + k) 27 [c, .bl root] = .ok (.lst (lv.map (lvD N)), false)
  | 0, c, es, root, k, h, hl => by
    obtain ⟨rfl, ha, h8⟩ := h
    rw [show 0 + 3 + k = (k + 2) + 1 by omega, u27]
    refine ⟨[es], by simp, fun h l hl => by rw [List.mem_singleton.mp hl]; exact h, ?_⟩
    have t0 : ex (run law.Γ law.G (k + 2)) law.G f27_t0 [.dat (lfD es), .dat (.bl root), .no, .no, .no, .no, .no] = .ok (.nx [.dat (lfD es), .dat (.bl root), .no, .no, .no, .no, .no]) := by
      have : ¬ (8 : Int) < es.length := by omega
      simp [f27_t0, lfD, this]
    rw [seq_nx t0]
    cases root with
    | true => simp [f27_t1, lfD, lvD]
    | false =>
      have : (3 : Int) < es.length := by simp at ha; omega
      simp [f27_t1, lfD, lvD, this]
  | N + 1, c, es, root, k, h, hl => by
    obtain ⟨ps, rfl, rfl, hb, h8, h5⟩ := h
    rw [show N + 1 + 3 + k = (N + 3 + k) + 1 by omega, u27]
    generalize hC : run law.Γ law.G (N + 3 + k) = C
    have hsame : ∀ a b : Ent, C 25 [a.d, b.d] = .ok (.bl (decide (a = b)), false) := fun a b => by
      rw [← hC, show N + 3 + k = (N + 1 + k) + 2 by omega]
      exact r_same (N + 1 + k) a b
    have hB : ∀ p ∈ ps, Bn C N p ∧ ∃ r, p.es = p.f :: r := by
      intro p hp
      obtain ⟨h6, r, hr⟩ := h5 p hp
      have hs : p.es.length ≤ (flat ps).length := List.Sublist.length_le (List.sublist_flatten_of_mem (List.mem_map.mpr ⟨p, hp, rfl⟩))
      obtain ⟨lv, v1, v2, v3⟩ := r_cells N p.c p.es false k h6 (by omega)
      refine ⟨⟨lv, v1, v2 (by rw [hr]; simp), ?_⟩, r, hr⟩
      rw [← hC]
      exact v3
    obtain ⟨lvs, s3, s4, s5, s6, w1, w2, w3⟩ := cells_out hsame N ps [] (.dat (brD ps)) (.dat (.bl root)) .no .no .no .no hB (by simpa using hl)
    refine ⟨lvs, w1, fun _ => w2, ?_⟩
    have t0 : ex C law.G f27_t0 [.dat (brD ps), .dat (.bl root), .no, .no, .no, .no, .no] = .ok (.nx [.dat (brD ps), .dat (.bl root), .no, .no, .no, .no, .no]) := by
      have : ¬ (8 : Int) < ps.length := by omega
      simp [f27_t0, brD, this]
    have t1 : ex C law.G f27_t1 [.dat (brD ps), .dat (.bl root), .no, .no, .no, .no, .no] = .ok (.nx [.dat (brD ps), .dat (.bl root), .no, .no, .no, .no, .no]) := by
      simp [f27_t1, brD]
    have t2 : ex C law.G f27_t2 [.dat (brD ps), .dat (.bl root), .no, .no, .no, .no, .no] = .ok (.nx [.dat (brD ps), .dat (.bl root), .no, .no, .no, .no, .no]) := by
      cases root with
      | true =>
        have : ¬ (ps.length : Int) < 2 := by simp at hb; omega
        simp [f27_t2, brD, this]
      | false =>
        have : ¬ (ps.length : Int) < 4 := by simp at hb; omega
        simp [f27_t2, brD, this]
    have t4 : ex C law.G f27_t4 [.dat (brD ps), .dat (.bl root), .own [], .no, .no, .no, .no] = .ok (.nx [.dat (brD ps), .dat (.bl root), .own (lvs.map (lvD (N + 1))), s3, s4, s5, s6]) := by
      have hi : ixD (brD ps) (.int 1) = .ok (.tup (ps.map Pt.d)) := by simp [brD]
      unfold f27_t4
      rw [ex_fr]
      simp only [evI_ix, ev_ix, ev_var, ev_int, List.getElem?_cons_succ, List.getElem?_cons_zero, getV_dat, R.bind_ok, post_val, post_bor, post_val', bind_ok', hi, itemsD_tup]
      simpa using w3
    rw [seq_nx t0, seq_nx t1, seq_nx t2, seq_nx (δ' := [.dat (brD ps), .dat (.bl root), .own [], .no, .no, .no, .no]) (by simp), seq_nx t4]
    simp
theorem has_in {C : Nat → List D → R (D × Bool)} (N : Nat) : ∀ (lv : List (List Ent)) (acc : List Ent) (s0 s1 s2 s4 s5 : Sl), acc.length + lv.flatten.length ≤ 100000 →
    ∃ s4' s5', frL C law.G [4, 5] f28_b0 (lv.map (lvD N)) [s0, s1, s2, .dat (.lst (acc.map Ent.d)), s4, s5] = .ok (.nx [s0, s1, s2, .dat (.lst ((acc ++ lv.flatten).map Ent.d)), s4', s5'])
  | [], acc, s0, s1, s2, s4, s5, _ => ⟨s4, s5, by simp [frL_nil]⟩
  | l :: lv, acc, s0, s1, s2, s4, s5, hl => by
    rw [List.flatten_cons, List.length_append] at hl
    obtain ⟨s4', s5', ih⟩ := has_in N lv (acc ++ l) s0 s1 s2 (.dat (.int N)) (.dat (.lst (l.map Ent.d))) (by rw [List.length_append]; omega)
    refine ⟨s4', s5', ?_⟩
    rw [List.map_cons, frL_cons]
    show ((layN [4, 5] (.tup [.int N, .lst (l.map Ent.d)]) _).bind _) = _
    rw [layN_two, R.bind_ok]
    have hb : exs C law.G f28_b0 ((List.set [s0, s1, s2, .dat (.lst (acc.map Ent.d)), s4, s5] 4 (.dat (.int N))).set 5 (.dat (.lst (l.map Ent.d)))) = .ok (.nx [s0, s1, s2, .dat (.lst ((acc ++ l).map Ent.d)), .dat (.int N), .dat (.lst (l.map Ent.d))]) := by
      simp [f28_b0, show acc.length + l.length ≤ LIM from LIM_le (by omega)]
    rw [hb, R.bind_ok, loopF_nx, ih, List.flatten_cons, List.append_assoc]
theorem r_hasl (n : Nat) {N : Nat} {c : D} {es : List Ent} (due : List Ent) (h : Ce 0 2 N c es) (hl : es.length ≤ 100000) (hd : due.length ≤ 100000) : run law.Γ law.G (N + 5 + n) 28 [c, .lst (due.map Ent.d)] = .ok (.bl (decide (es = due)), false) := by
  rw [show N + 5 + n = (N + 4 + n) + 1 by omega, u28]
  obtain ⟨lv, v1, v2, v3⟩ := r_cells N c es true (n + 1) h hl
  rw [show N + 3 + (n + 1) = N + 4 + n by omega] at v3
  have ha := r_alike (N + 1 + n) es due (by omega) (by omega)
  rw [show N + 1 + n + 3 = N + 4 + n by omega] at ha
  generalize run law.Γ law.G (N + 4 + n) = C at *
  have t0 : ex C law.G f28_t0 [.dat c, .dat (.lst (due.map Ent.d)), .no, .no, .no, .no] = .ok (.nx [.dat c, .dat (.lst (due.map Ent.d)), .dat (.lst (lv.map (lvD N))), .no, .no, .no]) := by
    simp [f28_t0, v3]
  have t1 : ex C law.G f28_t1 [.dat c, .dat (.lst (due.map Ent.d)), .dat (.lst (lv.map (lvD N))), .no, .no, .no] = .ok (.nx [.dat c, .dat (.lst (due.map Ent.d)), .dat (.lst (lv.map (lvD N))), .no, .no, .no]) := by
    simp [f28_t1]
  obtain ⟨s4, s5, e⟩ := has_in (C := C) N lv [] (.dat c) (.dat (.lst (due.map Ent.d))) (.dat (.lst (lv.map (lvD N)))) .no .no (by rw [v1]; simpa using hl)
  rw [v1] at e
  have t3 : ex C law.G f28_t3 [.dat c, .dat (.lst (due.map Ent.d)), .dat (.lst (lv.map (lvD N))), .dat (.lst []), .no, .no] = .ok (.nx [.dat c, .dat (.lst (due.map Ent.d)), .dat (.lst (lv.map (lvD N))), .dat (.lst (es.map Ent.d)), s4, s5]) := by
    unfold f28_t3
    rw [ex_fr]
    simp only [evI_var, ev_var, List.getElem?_cons_succ, List.getElem?_cons_zero, getV_dat, R.bind_ok, post_val, itemsD_lst]
    simpa using e
  rw [seq_nx t0, seq_nx t1, seq_nx (δ' := [.dat c, .dat (.lst (due.map Ent.d)), .dat (.lst (lv.map (lvD N))), .dat (.lst []), .no, .no]) (by simp), seq_nx t3]
  simp [f28_t4, ha]
end K26

namespace K26
open Fw BT
theorem ce_min : ∀ (n : Nat) (c : D) (es : List Ent), Ce 4 4 n c es → 4 ^ (n + 1) ≤ es.length
  | 0, c, es, h => h.2.1
  | n + 1, c, es, h => by
    obtain ⟨ps, rfl, rfl, h1, _, hp⟩ := h
    have key : ∀ qs : List Pt, (∀ p ∈ qs, Ce 4 4 n p.c p.es ∧ ∃ r, p.es = p.f :: r) → qs.length * 4 ^ (n + 1) ≤ (flat qs).length := by
      intro qs
      induction qs with
      | nil => intro _; simp
      | cons q qs ih =>
        intro hq
        have h2 := ce_min n q.c q.es (hq q (List.mem_cons_self ..)).1
        have h3 := ih fun p hp => hq p (List.mem_cons_of_mem _ hp)
        rw [flat_cons, List.length_append, List.length_cons, Nat.succ_mul]
        omega
    have h2 := key ps hp
    have h3 : 4 * 4 ^ (n + 1) ≤ ps.length * 4 ^ (n + 1) := Nat.mul_le_mul_right _ h1
    rw [Nat.pow_succ 4 (n + 1), Nat.mul_comm]
    omega
theorem ce_root {N : Nat} {c : D} {es : List Ent} (h : Ce 0 2 N c es) (hl : es.length ≤ 400) : N ≤ 3 := by
  cases N with
  | zero => omega
  | succ n =>
    obtain ⟨ps, rfl, rfl, h1, _, hp⟩ := h
    have key : ∀ qs : List Pt, (∀ p ∈ qs, Ce 4 4 n p.c p.es ∧ ∃ r, p.es = p.f :: r) → qs.length * 4 ^ (n + 1) ≤ (flat qs).length := by
      intro qs
      induction qs with
      | nil => intro _; simp
      | cons q qs ih =>
        intro hq
        have h2 := ce_min n q.c q.es (hq q (List.mem_cons_self ..)).1
        have h3 := ih fun p hp => hq p (List.mem_cons_of_mem _ hp)
        rw [flat_cons, List.length_append, List.length_cons, Nat.succ_mul]
        omega
    have h2 := key ps hp
    have h3 : 2 * 4 ^ (n + 1) ≤ ps.length * 4 ^ (n + 1) := Nat.mul_le_mul_right _ h1
    rcases Nat.lt_or_ge n 3 with h | h
    · omega
    · have : 4 ^ 4 ≤ 4 ^ (n + 1) := Nat.pow_le_pow_right (by decide) (by omega)
      have h4 : (4 : Nat) ^ 4 = 256 := by decide
      omega
theorem noL_ents : ∀ es : List Ent, noLs (es.map Ent.d) = true
  | [] => rfl
  | e :: es => by
    have h : noL e.d = true := by
      obtain ⟨v, n⟩ := e
      cases v <;> rfl
    show (noL e.d && noLs (es.map Ent.d)) = true
    rw [h, noL_ents es]; rfl
theorem noL_ent (e : Ent) : noL e.d = true := by
  obtain ⟨v, n⟩ := e
  cases v <;> rfl
theorem noLs_mem : ∀ {ds : List D}, (∀ d ∈ ds, noL d = true) → noLs ds = true
  | [], _ => rfl
  | d :: ds, h => by
    show (noL d && noLs ds) = true
    rw [h d (List.mem_cons_self ..), noLs_mem fun x hx => h x (List.mem_cons_of_mem _ hx)]; rfl
theorem ce_noL : ∀ {N a b : Nat} {c : D} {es : List Ent}, Ce a b N c es → noL c = true
  | 0, _, _, c, es, h => by
    rw [h.1]
    show (true && (noLs (es.map Ent.d) && true)) = true
    rw [noL_ents]; rfl
  | n + 1, _, _, c, es, h => by
    obtain ⟨ps, rfl, _, _, _, hp⟩ := h
    have h1 : noLs (ps.map Pt.d) = true := noLs_mem fun d hd => by
      obtain ⟨p, hpm, rfl⟩ := List.mem_map.mp hd
      show (noL p.f.d && (noL p.c && true)) = true
      rw [noL_ent, ce_noL (hp p hpm).1]; rfl
    show (true && (noLs (ps.map Pt.d) && true)) = true
    rw [h1]; rfl
/-- an index of these entries -/
def Ix (c : D) (es : List Ent) : Prop := Srt es ∧ ∃ N, Ce 0 2 N c es
theorem ix_new : Ix (.tup [.str [108, 101, 97, 102], .tup []]) [] := ⟨List.Pairwise.nil, 0, rfl, Nat.le_refl _, by simp⟩
theorem ix_with (n : Nat) (x : Ent) {c : D} {es : List Ent} (h : Ix c es) (hl : es.length ≤ 400) : ∃ (c' : D) (es' : List Ent), Ix c' es' ∧ (∀ e, e ∈ es' ↔ e ∈ es ∨ e = x) ∧ run law.Γ law.G (n + 14) 13 [c, x.v.d, .int x.n] = .ok (c', false) := by
  obtain ⟨hs, N, hN⟩ := h
  have h3 := ce_root hN hl
  obtain ⟨c', N', es', h1, h2, h4, h5, _, h6⟩ := r_with (n + 7 - N) x hN hs
  rw [show N + 7 + (n + 7 - N) = n + 14 by omega] at h6
  exact ⟨c', es', ⟨h4, N', h1⟩, h5, h6⟩
theorem ix_without (n : Nat) (x : Ent) {c : D} {es : List Ent} (h : Ix c es) (hl : es.length ≤ 400) : ∃ (c' : D) (es' : List Ent), Ix c' es' ∧ (∀ e, e ∈ es' ↔ e ∈ es ∧ e ≠ x) ∧ run law.Γ law.G (n + 14) 16 [c, x.v.d, .int x.n] = .ok (c', false) := by
  obtain ⟨hs, N, hN⟩ := h
  have h3 := ce_root hN hl
  obtain ⟨c', N', es', h1, h2, h4, h5, _, h6⟩ := r_without (n + 7 - N) x hN hs
  rw [show N + 7 + (n + 7 - N) = n + 14 by omega] at h6
  exact ⟨c', es', ⟨h4, N', h1⟩, h5, h6⟩
theorem ix_entries (n : Nat) {c : D} {es : List Ent} (h : Ix c es) (hl : es.length ≤ 400) : run law.Γ law.G (n + 14) 4 [c] = .ok (.lst (es.map Ent.d), true) := by
  obtain ⟨hs, N, hN⟩ := h
  have h3 := ce_root hN hl
  have := r_entries N 0 2 c es hN (by omega) (n + 13 - N)
  rwa [show N + 1 + (n + 13 - N) = n + 14 by omega] at this
theorem ix_many (n : Nat) {c : D} {es : List Ent} (h : Ix c es) (hl : es.length ≤ 400) : run law.Γ law.G (n + 14) 5 [c] = .ok (.int es.length, false) := by
  obtain ⟨hs, N, hN⟩ := h
  have h3 := ce_root hN hl
  have := r_many N 0 2 c es hN (n + 13 - N)
  rwa [show N + 1 + (n + 13 - N) = n + 14 by omega] at this
theorem ix_has (n : Nat) {c : D} {es : List Ent} (due : List Ent) (h : Ix c es) (hl : es.length ≤ 400) (hd : due.length ≤ 400) : run law.Γ law.G (n + 14) 28 [c, .lst (due.map Ent.d)] = .ok (.bl (decide (es = due)), false) := by
  obtain ⟨hs, N, hN⟩ := h
  have h3 := ce_root hN hl
  have := r_hasl (n + 9 - N) due hN (by omega) (by omega)
  rwa [show N + 5 + (n + 9 - N) = n + 14 by omega] at this
theorem nodup_len {xs ys : List Ent} (hx : Srt xs) (h : ∀ e, e ∈ xs → e ∈ ys) : xs.length ≤ ys.length := BT.nodup_len hx.nodup fun e he => h e he
theorem from_loop (n : Nat) (s0 : Sl) : ∀ (es : List Ent) (c : D) (fs : List Ent) (s2 s3 : Sl), Ix c fs → fs.length + es.length ≤ 400 → ∃ (c' : D) (fs' : List Ent) (s2' s3' : Sl), Ix c' fs' ∧ fs'.length ≤ fs.length + es.length ∧ (∀ e, e ∈ fs' ↔ e ∈ fs ∨ e ∈ es) ∧ frL (run law.Γ law.G (n+14)) law.G [2, 3] f17_b0 (es.map Ent.d) [s0, .dat c, s2, s3] = .ok (.nx [s0, .dat c', s2', s3'])
  | [], c, fs, s2, s3, h, _ => ⟨c, fs, s2, s3, h, by simp, by simp, by simp [frL_nil]⟩
  | x :: es, c, fs, s2, s3, h, hl => by
    simp only [List.length_cons] at hl
    obtain ⟨c1, fs1, h1, h2, h3⟩ := ix_with n x h (by omega)
    have hle : fs1.length ≤ fs.length + 1 := by
      have := nodup_len (ys := x :: fs) h1.1 fun e he => by
        rcases (h2 e).mp he with he | he
        · exact List.mem_cons_of_mem _ he
        · rw [he]; exact List.mem_cons_self ..
      simpa using this
    obtain ⟨c', fs', s2', s3', h4, h5, h6, h7⟩ := from_loop n s0 es c1 fs1 (.dat x.v.d) (.dat (.int x.n)) h1 (by omega)
    refine ⟨c', fs', s2', s3', h4, by simp; omega, fun e => ?_, ?_⟩
    · rw [h6, h2]
      simp only [List.mem_cons]
      constructor
      · rintro ((h | h) | h)
        · exact .inl h
        · exact .inr (.inl h)
        · exact .inr (.inr h)
      · rintro (h | h | h)
        · exact .inl (.inl h)
        · exact .inl (.inr h)
        · exact .inr h
    · rw [List.map_cons, frL_cons]
      show ((layN [2, 3] (.tup [x.v.d, .int x.n]) [s0, .dat c, s2, s3]).bind _) = _
      rw [layN_two, R.bind_ok]
      show ((exs (run law.Γ law.G (n+14)) law.G f17_b0 [s0, .dat c, .dat x.v.d, .dat (.int x.n)]).bind _) = _
      have hb : exs (run law.Γ law.G (n+14)) law.G f17_b0 [s0, .dat c, .dat x.v.d, .dat (.int x.n)] = .ok (.nx [s0, .dat c1, .dat x.v.d, .dat (.int x.n)]) := by
        simp [f17_b0, h3]
      rw [hb, R.bind_ok, loopF_nx]
      exact h7
theorem ix_from (n : Nat) (es : List Ent) (hl : es.length ≤ 400) : ∃ (c : D) (fs : List Ent), Ix c fs ∧ fs.length ≤ es.length ∧ (∀ e, e ∈ fs ↔ e ∈ es) ∧ run law.Γ law.G (n + 15) 17 [.lst (es.map Ent.d)] = .ok (c, false) := by
  obtain ⟨c, fs, s2, s3, h1, h2, h3, h4⟩ := from_loop n (.dat (.lst (es.map Ent.d))) es _ [] .no .no ix_new (by simpa using hl)
  refine ⟨c, fs, h1, by simpa using h2, by simpa using h3, ?_⟩
  rw [u17]
  have e3 := u3 (n + 13)
  simp at e3
  rw [seq_nx (δ' := [.dat (.lst (es.map Ent.d)), .dat (.tup [.str [108, 101, 97, 102], .tup []]), .no, .no]) (by simp [e3])]
  have e4 : ex (run law.Γ law.G (n+14)) law.G f17_t1 [.dat (.lst (es.map Ent.d)), .dat (.tup [.str [108, 101, 97, 102], .tup []]), .no, .no] = .ok (.nx [.dat (.lst (es.map Ent.d)), .dat c, s2, s3]) := by
    simp [f17_t1]
    exact h4
  rw [seq_nx e4]
  simp
theorem r_list (n : Nat) (c : Int) (h0 : 0 ≤ c) (h1 : c < 1000000000000) : ∃ es : List Ent, es.length ≤ 122 ∧ ∃ b, run law.Γ law.G (n + 3) 29 [.int c] = .ok (.lst (es.map Ent.d), b) := by
  rw [u29]
  generalize hC : run law.Γ law.G (n+2) = C
  obtain ⟨m, hm0, hm1, t1⟩ : ∃ m : Int, 0 ≤ m ∧ m ≤ 119 ∧ ex C law.G f29_t1 [.dat (.int c), .dat (.int (c % 20)), .no, .no] = .ok (.nx [.dat (.int c), .dat (.int m), .no, .no]) := by
    by_cases h : c / 20 % 3 = 1
    · exact ⟨20 + c / 60 % 100, by omega, by omega, by simp [f29_t1, h]⟩
    · exact ⟨c % 20, by omega, by omega, by simp [f29_t1, h]⟩
  have t0 : ex C law.G f29_t0 [.dat (.int c), .no, .no, .no] = .ok (.nx [.dat (.int c), .dat (.int (c % 20)), .no, .no]) := by simp [f29_t0]
  obtain ⟨xs, x1, x2, x3⟩ := r_stream (n+1) c m hm0 (by omega)
  obtain ⟨ys, y1, y2, y3⟩ := lcF_some (C := C) (G := law.G) (ts := [3]) (e := f29_e0) (fun i : Int => D.int i) (fun d => ∃ e : Ent, e.ok ∧ d = e.d) (xs := xs) (δ := [.dat (.int c), .dat (.int m), .no, .no]) (by
    intro x hx
    obtain ⟨h2, h3⟩ := x2 x hx
    obtain ⟨e, he, er⟩ := r_entry n x h2 (by omega)
    rw [hC] at er
    exact ⟨_, e.d, layN_one _ _ _, by simp [f29_e0, er], e, he, rfl⟩)
  obtain ⟨es, rfl, _⟩ := ents_of y2
  rw [List.length_map] at y1
  rw [hC] at x3
  have t2 : ex C law.G f29_t2 [.dat (.int c), .dat (.int m), .no, .no] = .ok (.nx [.dat (.int c), .dat (.int m), .dat (.lst (es.map Ent.d)), .no]) := by
    simp [f29_t2, x3]
    rw [y3]
    simp [show es.length < LIM from LIM_lt (by omega)]
  have c1 := cut_take (es.map Ent.d) (show (0 : Int) ≤ c % 3 by omega)
  refine ⟨es ++ es.take (c % 3).toNat, by simp; omega, false, ?_⟩
  rw [seq_nx t0, seq_nx t1, seq_nx t2]
  simp [f29_t3, c1]
  rw [req_pos (LIM_le (by omega))]
end K26

namespace K26
open Fw BT
theorem srt_cut {es : List Ent} {k : Nat} (hs : Srt es) (hk : k < es.length) : Srt (es.take k ++ es.drop (k + 1)) ∧ ∀ e, e ∈ es.take k ++ es.drop (k + 1) ↔ e ∈ es ∧ e ≠ es[k] := by
  have he : es = es.take k ++ es[k] :: es.drop (k + 1) := by
    rw [← List.drop_eq_getElem_cons hk, List.take_append_drop]
  have hs' := hs
  rw [he] at hs'
  obtain ⟨h1, h2, h3⟩ := List.pairwise_append.mp hs'
  obtain ⟨h4, h5⟩ := List.pairwise_cons.mp h2
  refine ⟨List.pairwise_append.mpr ⟨h1, h5, fun a ha b hb => h3 a ha b (List.mem_cons_of_mem _ hb)⟩, fun e => ?_⟩
  have hm : e ∈ es ↔ e ∈ es.take k ∨ e = es[k] ∨ e ∈ es.drop (k + 1) := by
    constructor
    · intro h
      rw [he] at h
      rcases List.mem_append.mp h with h | h
      · exact .inl h
      · rcases List.mem_cons.mp h with h | h
        · exact .inr (.inl h)
        · exact .inr (.inr h)
    · rintro (h | h | h)
      · exact List.mem_of_mem_take h
      · rw [h]; exact List.getElem_mem _
      · exact List.mem_of_mem_drop h
  rw [List.mem_append, hm]
  constructor
  · rintro (h | h)
    · exact ⟨.inl h, lt_ne (h3 e h _ (List.mem_cons_self ..))⟩
    · exact ⟨.inr (.inr h), fun z => lt_ne (h4 e h) z.symm⟩
  · rintro ⟨h | h | h, hn⟩
    · exact .inl h
    · exact absurd h hn
    · exact .inr h
theorem thin_loop (n : Nat) (x : Int) (m : Nat) : ∀ (d i : Nat) (c : D) (es : List Ent) (s3 s4 : Sl), Ix c es → es.length ≤ 400 → i + d = m → d ≤ es.length → ∃ (c' : D) (es' : List Ent) (s3' s4' : Sl), Ix c' es' ∧ es'.length ≤ es.length ∧ frL (run law.Γ law.G (n+14)) law.G [3] f30_b3 ((List.range d).map fun j => D.int ((i + j : Nat) : Int)) [.dat c, .dat (.lst (es.map Ent.d)), .dat (.int x), s3, s4] = .ok (.nx [.dat c', .dat (.lst (es'.map Ent.d)), .dat (.int x), s3', s4'])
  | 0, i, c, es, s3, s4, h, hl, hi, hd => ⟨c, es, s3, s4, h, Nat.le_refl _, by simp [frL_nil]⟩
  | d + 1, i, c, es, s3, s4, h, hl, hi, hd => by
    obtain ⟨at', hat, hatl, ea⟩ : ∃ k : Nat, True ∧ k < es.length ∧ atD [D.int 0, D.int (((es.length : Int) - 1) * ((i : Int) % 2)), D.int ((es.length : Int) / 2)] (x % 3) = .ok (D.int k) := by
      obtain ⟨v, ⟨k, hk, rfl⟩, ev⟩ := at_in (P := fun v => ∃ k : Nat, k < es.length ∧ v = D.int k) (xs := [.int 0, .int (((es.length : Int) - 1) * ((i : Int) % 2)), .int ((es.length : Int) / 2)]) (i := x % 3) (by
        intro v hv
        simp at hv
        rcases hv with rfl | rfl | rfl
        · exact ⟨0, by omega, rfl⟩
        · rcases (show (i : Int) % 2 = 0 ∨ (i : Int) % 2 = 1 by omega) with h2 | h2
          · exact ⟨0, by omega, by rw [h2]; simp⟩
          · refine ⟨es.length - 1, by omega, ?_⟩
            rw [h2]
            congr 1
            omega
        · exact ⟨es.length / 2, by omega, by congr 1⟩) (by omega) (by show _ < ((3 : Nat) : Int); omega)
      exact ⟨k, trivial, hk, ev⟩
    obtain ⟨c1, es1, h1, h2, h3⟩ := ix_without n (es[at']) h hl
    obtain ⟨h4, h5⟩ := srt_cut h.1 hatl
    have he : es1 = es.take at' ++ es.drop (at' + 1) := srt_ext h1.1 h4 fun e => by rw [h2, h5]
    subst he
    have hlen : (es.take at' ++ es.drop (at' + 1)).length + 1 = es.length := by
      rw [List.length_append, List.length_take, List.length_drop]; omega
    obtain ⟨c', es', s3', s4', k1, k2, k3⟩ := thin_loop n x m d (i + 1) c1 _ (.dat (.int i)) (.dat (.int at')) h1 (by omega) (by omega) (by omega)
    refine ⟨c', es', s3', s4', k1, by omega, ?_⟩
    have hrange : (List.range (d + 1)).map (fun j => D.int ((i + j : Nat) : Int)) = D.int i :: (List.range d).map (fun j => D.int ((i + 1 + j : Nat) : Int)) := by
      rw [List.range_succ_eq_map, List.map_cons, List.map_map]
      congr 1
      refine List.map_congr_left fun j _ => ?_
      show D.int ((i + (j + 1) : Nat) : Int) = _
      congr 1
      omega
    have ak : atD (es.map Ent.d) (at' : Int) = .ok (es[at']).d := atD_nat (by simp [hatl])
    have c1' := cut_take (es.map Ent.d) (show (0 : Int) ≤ (at' : Nat) by omega)
    have c2' := cut_drop (es.map Ent.d) (show (0 : Int) ≤ (at' : Nat) + 1 by omega)
    rw [show ((at' : Nat) : Int).toNat = at' by omega] at c1'
    rw [show (((at' : Nat) : Int) + 1).toNat = at' + 1 by omega] at c2'
    rw [hrange, frL_cons, layN_one, R.bind_ok]
    show ((exs (run law.Γ law.G (n+14)) law.G f30_b3 [.dat c, .dat (.lst (es.map Ent.d)), .dat (.int x), .dat (.int i), s4]).bind _) = _
    have b0 : ex (run law.Γ law.G (n+14)) law.G f30_l0_0 [.dat c, .dat (.lst (es.map Ent.d)), .dat (.int x), .dat (.int i), s4] = .ok (.nx [.dat c, .dat (.lst (es.map Ent.d)), .dat (.int x), .dat (.int i), .dat (.int at')]) := by
      simp [f30_l0_0]
      rw [req_pos (.inl (small_of (by omega)))]
      rw [ea]
      rfl
    have b1 : ex (run law.Γ law.G (n+14)) law.G f30_l0_1 [.dat c, .dat (.lst (es.map Ent.d)), .dat (.int x), .dat (.int i), .dat (.int at')] = .ok (.nx [.dat c1, .dat (.lst (es.map Ent.d)), .dat (.int x), .dat (.int i), .dat (.int at')]) := by
      simp [f30_l0_1, ak, Ent.d]
      rw [h3]
      rfl
    have b2 : ex (run law.Γ law.G (n+14)) law.G f30_l0_2 [.dat c1, .dat (.lst (es.map Ent.d)), .dat (.int x), .dat (.int i), .dat (.int at')] = .ok (.nx [.dat c1, .dat (.lst ((es.take at' ++ es.drop (at' + 1)).map Ent.d)), .dat (.int x), .dat (.int i), .dat (.int at')]) := by
      simp [f30_l0_2, c1', c2']
      rw [req_pos (LIM_le (by omega))]
    unfold f30_b3
    rw [seq_nx b0, seq_nx b1, seq_nx b2, exs_nil, R.bind_ok, loopF_nx]
    exact k3
theorem r_thinned (n : Nat) (x : Int) {c : D} {es : List Ent} (h : Ix c es) (hl : es.length ≤ 400) : ∃ (c' : D) (es' : List Ent), Ix c' es' ∧ es'.length ≤ es.length ∧ run law.Γ law.G (n + 15) 30 [c, .lst (es.map Ent.d), .int x] = .ok (.tup [c', .lst (es'.map Ent.d)], false) := by
  rw [u30]
  obtain ⟨c', es', s3', s4', k1, k2, k3⟩ := thin_loop n x ((es.length : Int) - x / 3 % 9).toNat ((es.length : Int) - x / 3 % 9).toNat 0 c es .no .no h hl (by omega) (by omega)
  refine ⟨c', es', k1, k2, ?_⟩
  have e : ex (run law.Γ law.G (n+14)) law.G f30_t0 [.dat c, .dat (.lst (es.map Ent.d)), .dat (.int x), .no, .no] = .ok (.nx [.dat c', .dat (.lst (es'.map Ent.d)), .dat (.int x), s3', s4']) := by
    simp [f30_t0]
    rw [req_pos (by omega)]
    simpa using k3
  rw [seq_nx e]
  simp [f30_t1]
theorem r_deed (n : Nat) (x : Int) (rows gone : List Ent) (h0 : 0 ≤ x) (h1 : x < 2147483647) (hr : rows.length ≤ 400) (hg : gone.length ≤ 400) : ∃ (less : Bool) (e : Ent), run law.Γ law.G (n + 3) 31 [.int x, .lst (rows.map Ent.d), .lst (gone.map Ent.d)] = .ok (.tup [.bl less, e.d], false) := by
  rw [u31]
  obtain ⟨e0, _, e0r⟩ := r_entry n (x / 8) (by omega) (by omega)
  generalize hC : run law.Γ law.G (n+2) = C
  rw [hC] at e0r
  have t0 : ex C law.G f31_t0 [.dat (.int x), .dat (.lst (rows.map Ent.d)), .dat (.lst (gone.map Ent.d)), .no, .no] = .ok (.nx [.dat (.int x), .dat (.lst (rows.map Ent.d)), .dat (.lst (gone.map Ent.d)), .dat e0.d, .no]) := by
    simp [f31_t0, e0r]
  have hd1 : dle 60 (.lst (rows.map Ent.d)) = true := dle_lents rows
  have hd2 : dle 60 (.lst (gone.map Ent.d)) = true := dle_lents gone
  have z1 := eqDs_emp (rows.map Ent.d)
  have z2 := eqDs_emp (gone.map Ent.d)
  obtain ⟨e1, s4, t1⟩ : ∃ (e1 : Ent) (s4 : Sl), ex C law.G f31_t1 [.dat (.int x), .dat (.lst (rows.map Ent.d)), .dat (.lst (gone.map Ent.d)), .dat e0.d, .no] = .ok (.nx [.dat (.int x), .dat (.lst (rows.map Ent.d)), .dat (.lst (gone.map Ent.d)), .dat e1.d, s4]) := by
    cases rows with
    | nil => exact ⟨e0, .no, by simp [f31_t1]⟩
    | cons r rs =>
      by_cases hx : 2 < x % 8
      · obtain ⟨k, hk, hk2⟩ : ∃ k : Nat, (k : Int) = x / 8 % ((r :: rs).length : Int) ∧ k < (r :: rs).length := by
          have h5 := Int.emod_nonneg (x / 8) (show ((r :: rs).length : Int) ≠ 0 by simp only [List.length_cons]; omega)
          have h6 := Int.emod_lt_of_pos (x / 8) (show 0 < ((r :: rs).length : Int) by simp only [List.length_cons]; omega)
          exact ⟨(x / 8 % ((r :: rs).length : Int)).toNat, by omega, by omega⟩
        have ak : atD ((r :: rs).map Ent.d) (k : Int) = .ok ((r :: rs)[k]).d := atD_nat (by rw [List.getElem?_map, List.getElem?_eq_getElem hk2]; rfl)
        have hL : ((r :: rs).map Ent.d).length = (r :: rs).length := by simp
        have hz : eqDs ((r :: rs).map Ent.d) [] = false := rfl
        generalize (r :: rs)[k] = q at *
        obtain ⟨qv, qn⟩ := q
        obtain ⟨v0, n0⟩ := e0
        obtain ⟨z, ⟨e1, rfl⟩, ez⟩ := at_in (P := fun d => ∃ e : Ent, d = e.d) (xs := [.tup [v0.d, .int qn], .tup [qv.d, .int n0], .tup [qv.d, .int qn], .tup [qv.d, .int qn], .tup [qv.d, .int qn]]) (i := x % 8 - 3) (by
          intro d hd
          simp at hd
          rcases hd with rfl | rfl | rfl
          · exact ⟨⟨v0, qn⟩, rfl⟩
          · exact ⟨⟨qv, n0⟩, rfl⟩
          · exact ⟨⟨qv, qn⟩, rfl⟩) (by omega) (by show _ < ((5 : Nat) : Int); omega)
        refine ⟨e1, .dat (.tup [qv.d, .int qn]), ?_⟩
        have hpos : 0 < ((r :: rs).length : Int) := by simp only [List.length_cons]; omega
        generalize (r :: rs).map Ent.d = L at *
        simp [f31_t1, hd1, hz, hx, hL, Ent.d]
        simp at hk
        rw [← hk]
        simp only [Ent.d] at ak ez
        simp [ak, ez]
      · exact ⟨e0, .no, by simp at hd1; simp [f31_t1, hd1, hx]⟩
  obtain ⟨e2, t2⟩ : ∃ (e2 : Ent), ex C law.G f31_t2 [.dat (.int x), .dat (.lst (rows.map Ent.d)), .dat (.lst (gone.map Ent.d)), .dat e1.d, s4] = .ok (.nx [.dat (.int x), .dat (.lst (rows.map Ent.d)), .dat (.lst (gone.map Ent.d)), .dat e2.d, s4]) := by
    cases gone with
    | nil => exact ⟨e1, by simp [f31_t2]⟩
    | cons r rs =>
      by_cases hx : x % 8 = 2
      · obtain ⟨k, hk, hk2⟩ : ∃ k : Nat, (k : Int) = x / 8 % ((r :: rs).length : Int) ∧ k < (r :: rs).length := by
          have h5 := Int.emod_nonneg (x / 8) (show ((r :: rs).length : Int) ≠ 0 by simp only [List.length_cons]; omega)
          have h6 := Int.emod_lt_of_pos (x / 8) (show 0 < ((r :: rs).length : Int) by simp only [List.length_cons]; omega)
          exact ⟨(x / 8 % ((r :: rs).length : Int)).toNat, by omega, by omega⟩
        have ak : atD ((r :: rs).map Ent.d) (k : Int) = .ok ((r :: rs)[k]).d := atD_nat (by rw [List.getElem?_map, List.getElem?_eq_getElem hk2]; rfl)
        have hL : ((r :: rs).map Ent.d).length = (r :: rs).length := by simp
        have hz : eqDs ((r :: rs).map Ent.d) [] = false := rfl
        refine ⟨(r :: rs)[k], ?_⟩
        have hpos : 0 < ((r :: rs).length : Int) := by simp only [List.length_cons]; omega
        generalize (r :: rs)[k] = q at *
        generalize (r :: rs).map Ent.d = L at *
        simp [f31_t2, hd2, hz, hx, hL]
        simp at hk
        rw [← hk, ak]
        rfl
      · exact ⟨e1, by simp at hd2; simp [f31_t2, hd2, hx]⟩
  refine ⟨decide (4 < x % 8) || decide (x % 8 = 1), e2, ?_⟩
  rw [seq_nx t0, seq_nx t1, seq_nx t2]
  by_cases h4 : 4 < x % 8
  · simp [f31_t3, h4]
  · by_cases h5 : x % 8 = 1 <;> simp [f31_t3, h4, h5]
theorem r_behind (n : Nat) (rows : List Ent) (less : Bool) (e : Ent) (hs : Srt rows) (hl : rows.length ≤ 400) : ∃ os : List Ent, Srt os ∧ os.length ≤ rows.length + 1 ∧ (∀ x, x ∈ os ↔ if less = true then x ∈ rows ∧ x ≠ e else x ∈ rows ∨ x = e) ∧ ∃ b, run law.Γ law.G (n + 4) 32 [.lst (rows.map Ent.d), .bl less, e.d] = .ok (.lst (os.map Ent.d), b) := by
  rw [u32]
  cases less with
  | true =>
    have hlc := lcF_filter (C := run law.Γ law.G (n+3)) (G := law.G) (ts := [3]) (c := f32_c0) (e := f32_e1) (fun x : Ent => x.d) (fun x : Ent => x.d) (fun x => !decide (x = e)) (by unfold f32_c0; exact fun z => nomatch z) (xs := rows) (δ := [.dat (.lst (rows.map Ent.d)), .dat (.bl true), .dat e.d, .no]) (by
      intro x hx
      refine ⟨_, layN_one _ _ _, ?_, fun _ => by simp [f32_e1]⟩
      simp [f32_c0, r_same (n+1)])
    have hfl : (rows.filter fun x => !decide (x = e)).length ≤ rows.length := List.length_filter_le ..
    refine ⟨rows.filter fun x => !decide (x = e), hs.filter _, by omega, fun x => by simp [List.mem_filter], true, ?_⟩
    have hm : ((rows.filter fun x => !decide (x = e)).map fun x : Ent => x.d) = (rows.filter fun x => !decide (x = e)).map Ent.d := rfl
    generalize rows.filter (fun x => !decide (x = e)) = fl at *
    simp [f32_t0]
    rw [hlc]
    simp [show fl.length < LIM from LIM_lt (by omega)]
  | false =>
    obtain ⟨os, o1, o2, o3, o4⟩ := r_once (n+1) (rows ++ [e]) (LIM_lt (by rw [List.length_append, List.length_singleton]; omega))
    refine ⟨os, o1, by simpa using o3, fun x => by rw [o2]; simp, true, ?_⟩
    simp at o4
    simp [f32_t0, f32_t1, show rows.length + 1 ≤ LIM from LIM_le (by omega), o4]
end K26

namespace K26
open Fw BT
theorem setD_w (δ : En) (i w : Nat) (d : D) (xs : List D) (h : xs.length = 2) (hw : w < 2) : setD i δ d (.int w) (some (.own xs)) = .ok (.nx (δ.set i (.own (xs.set w d)))) := by
  refine setD_at δ (k := w) ?_
  rw [h]
  rcases (show w = 0 ∨ w = 1 by omega) with rfl | rfl <;> rfl
def kpD (p : D × List Ent) : D := .tup [p.1, .lst (p.2.map Ent.d)]
def hlD (l : List Ent) : D := .tup [.lst (l.map Ent.d), .lst (l.map Ent.d)]
theorem noL_tup2 (b : Bool) (e : Ent) : noL (.tup [.bl b, e.d]) = true := by
  show (true && (noL e.d && true)) = true
  rw [noL_ent]; rfl

theorem turn_ok (n i w : Nat) (z : Int) (sc en : D) (hd L3 L4 : List D) (kept : List (D × List Ent)) (held : List (List Ent)) (gone : List Ent) (s10 s11 s12 s13 s14 s15 : Sl) {c : D} {es : List Ent}
    (hw : (w : Int) = z % 3 / 2) (hw2 : w < 2) (l3 : L3.length = 2) (l4 : L4.length = 2) (e3 : L3[w]? = some c) (e4 : L4[w]? = some (.lst (es.map Ent.d))) (hx : Ix c es) (hl : es.length ≤ 300) (hi : i ≤ 100) (hg : gone.length ≤ 300) (hk : kept.length ≤ 300) (hh : held.length ≤ 300) :
    ∃ (c' : D) (es' : List Ent) (kept' : List (D × List Ent)) (gone' : List Ent) (t10 t11 t14 t15 : Sl), Ix c' es' ∧ es'.length ≤ es.length + 1 ∧ gone'.length ≤ gone.length + 1 ∧ (kept' = kept ∨ kept' = kept ++ [(c', es')]) ∧
      exs (run law.Γ law.G (n+15)) law.G f33_b8 [.dat sc, .dat en, .own hd, .own L3, .own L4, .own (kept.map kpD), .own (held.map hlD), .own (gone.map Ent.d), .dat (.int i), .dat (.int z), s10, s11, s12, s13, s14, s15] = .ok (.nx [.dat sc, .dat en, .own hd, .own (L3.set w c'), .own (L4.set w (.lst (es'.map Ent.d))), .own (kept'.map kpD), .own ((held ++ [es']).map hlD), .own (gone'.map Ent.d), .dat (.int i), .dat (.int z), t10, t11, s12, s13, t14, t15]) := by
  obtain ⟨less, e, hr⟩ := r_deed (n+12) ((z / 3 * 48271 + 11 * i) % 2147483647) es gone (by omega) (by omega) (by omega) (by omega)
  have a4 : atD L4 (w : Int) = .ok (.lst (es.map Ent.d)) := atD_nat e4
  have a3 : atD L3 (w : Int) = .ok c := atD_nat e3
  have b0 : ex (run law.Γ law.G (n+15)) law.G f33_l0_0 [.dat sc, .dat en, .own hd, .own L3, .own L4, .own (kept.map kpD), .own (held.map hlD), .own (gone.map Ent.d), .dat (.int i), .dat (.int z), s10, s11, s12, s13, s14, s15] = .ok (.nx [.dat sc, .dat en, .own hd, .own L3, .own L4, .own (kept.map kpD), .own (held.map hlD), .own (gone.map Ent.d), .dat (.int i), .dat (.int z), .dat (.int w), s11, s12, s13, s14, s15]) := by
    simp [f33_l0_0, hw]
  have hsm : smallI 11 := by decide
  have b1 : ex (run law.Γ law.G (n+15)) law.G f33_l0_1 [.dat sc, .dat en, .own hd, .own L3, .own L4, .own (kept.map kpD), .own (held.map hlD), .own (gone.map Ent.d), .dat (.int i), .dat (.int z), .dat (.int w), s11, s12, s13, s14, s15] = .ok (.nx [.dat sc, .dat en, .own hd, .own L3, .own L4, .own (kept.map kpD), .own (held.map hlD), .own (gone.map Ent.d), .dat (.int i), .dat (.int z), .dat (.int w), s11, s12, s13, .dat (.bl less), .dat e.d]) := by
    simp [f33_l0_1, a4, noL_tup2, hr]
  obtain ⟨c', es', hc', hlen, hm, hrun⟩ : ∃ (c' : D) (es' : List Ent), Ix c' es' ∧ es'.length ≤ es.length + 1 ∧ (∀ x, x ∈ es' ↔ if less = true then x ∈ es ∧ x ≠ e else x ∈ es ∨ x = e) ∧ (if less = true then run law.Γ law.G (n + 15) 16 [c, e.v.d, .int e.n] = .ok (c', false) else run law.Γ law.G (n + 15) 13 [c, e.v.d, .int e.n] = .ok (c', false)) := by
    cases less with
    | true =>
      obtain ⟨c', es', h1, h2, h3⟩ := ix_without (n+1) e hx (by omega)
      refine ⟨c', es', h1, ?_, by simpa using h2, by simpa using h3⟩
      have := nodup_len (ys := es) h1.1 fun x hx => ((h2 x).mp hx).1
      omega
    | false =>
      obtain ⟨c', es', h1, h2, h3⟩ := ix_with (n+1) e hx (by omega)
      refine ⟨c', es', h1, ?_, by simpa using h2, by simpa using h3⟩
      have := nodup_len (ys := e :: es) h1.1 fun x hx => by
        rcases (h2 x).mp hx with h | h
        · exact List.mem_cons_of_mem _ h
        · rw [h]; exact List.mem_cons_self ..
      simpa using this
  obtain ⟨os, o1, o2, o3, b', o4⟩ := r_behind (n+11) es less e hx.1 (by omega)
  have ho : os = es' := srt_ext o1 hc'.1 fun x => by rw [o3, hm]
  subst ho
  obtain ⟨gone', hgl, b2⟩ : ∃ gone' : List Ent, gone'.length ≤ gone.length + 1 ∧ ex (run law.Γ law.G (n+15)) law.G f33_l0_2 [.dat sc, .dat en, .own hd, .own L3, .own L4, .own (kept.map kpD), .own (held.map hlD), .own (gone.map Ent.d), .dat (.int i), .dat (.int z), .dat (.int w), s11, s12, s13, .dat (.bl less), .dat e.d] = .ok (.nx [.dat sc, .dat en, .own hd, .own (L3.set w c'), .own L4, .own (kept.map kpD), .own (held.map hlD), .own (gone'.map Ent.d), .dat (.int i), .dat (.int z), .dat (.int w), s11, s12, s13, .dat (.bl less), .dat e.d]) := by
    have hgL : gone.length < LIM := LIM_lt (by omega)
    cases less with
    | true =>
      rw [if_pos rfl] at hrun
      refine ⟨gone ++ [e], by simp, ?_⟩
      simp only [Ent.d] at hrun ⊢
      simp [f33_l0_2, hgL, a3, hrun, setD_w _ _ _ _ _ l3 hw2]
      rfl
    | false =>
      rw [if_neg (by simp)] at hrun
      refine ⟨gone, by omega, ?_⟩
      simp only [Ent.d] at hrun ⊢
      simp [f33_l0_2, hgL, a3, hrun, setD_w _ _ _ _ _ l3 hw2]
  have b3 : ex (run law.Γ law.G (n+15)) law.G f33_l0_3 [.dat sc, .dat en, .own hd, .own (L3.set w c'), .own L4, .own (kept.map kpD), .own (held.map hlD), .own (gone'.map Ent.d), .dat (.int i), .dat (.int z), .dat (.int w), s11, s12, s13, .dat (.bl less), .dat e.d] = .ok (.nx [.dat sc, .dat en, .own hd, .own (L3.set w c'), .own (L4.set w (.lst (os.map Ent.d))), .own (kept.map kpD), .own (held.map hlD), .own (gone'.map Ent.d), .dat (.int i), .dat (.int z), .dat (.int w), s11, s12, s13, .dat (.bl less), .dat e.d]) := by
    simp [f33_l0_3, a4, o4, setD_w _ _ _ _ _ l4 hw2]
  have a3' : atD (L3.set w c') (w : Int) = .ok c' := atD_nat (by rw [List.getElem?_set_self (by omega)])
  have a4' : atD (L4.set w (.lst (os.map Ent.d))) (w : Int) = .ok (.lst (os.map Ent.d)) := atD_nat (by rw [List.getElem?_set_self (by omega)])
  have k4 := ix_entries (n+1) hc' (by omega)
  have k5 := ix_many (n+1) hc' (by omega)
  have k6 := r_alike (n+12) os os (by omega) (by omega)
  have b4 : ex (run law.Γ law.G (n+15)) law.G f33_l0_4 [.dat sc, .dat en, .own hd, .own (L3.set w c'), .own (L4.set w (.lst (os.map Ent.d))), .own (kept.map kpD), .own (held.map hlD), .own (gone'.map Ent.d), .dat (.int i), .dat (.int z), .dat (.int w), s11, s12, s13, .dat (.bl less), .dat e.d] = .ok (.nx [.dat sc, .dat en, .own hd, .own (L3.set w c'), .own (L4.set w (.lst (os.map Ent.d))), .own (kept.map kpD), .own (held.map hlD), .own (gone'.map Ent.d), .dat (.int i), .dat (.int z), .dat (.int w), .dat (.lst (os.map Ent.d)), s12, s13, .dat (.bl less), .dat e.d]) := by
    simp [f33_l0_4, a3', k4]
  have hhL : held.length < LIM := LIM_lt (by omega)
  have hkL : kept.length < LIM := LIM_lt (by omega)
  have b5 : ex (run law.Γ law.G (n+15)) law.G f33_l0_5 [.dat sc, .dat en, .own hd, .own (L3.set w c'), .own (L4.set w (.lst (os.map Ent.d))), .own (kept.map kpD), .own (held.map hlD), .own (gone'.map Ent.d), .dat (.int i), .dat (.int z), .dat (.int w), .dat (.lst (os.map Ent.d)), s12, s13, .dat (.bl less), .dat e.d] = .ok (.nx [.dat sc, .dat en, .own hd, .own (L3.set w c'), .own (L4.set w (.lst (os.map Ent.d))), .own (kept.map kpD), .own ((held ++ [os]).map hlD), .own (gone'.map Ent.d), .dat (.int i), .dat (.int z), .dat (.int w), .dat (.lst (os.map Ent.d)), s12, s13, .dat (.bl less), .dat e.d]) := by
    simp [f33_l0_5, a4', hhL, hlD]
  have b6 : ex (run law.Γ law.G (n+15)) law.G f33_l0_6 [.dat sc, .dat en, .own hd, .own (L3.set w c'), .own (L4.set w (.lst (os.map Ent.d))), .own (kept.map kpD), .own ((held ++ [os]).map hlD), .own (gone'.map Ent.d), .dat (.int i), .dat (.int z), .dat (.int w), .dat (.lst (os.map Ent.d)), s12, s13, .dat (.bl less), .dat e.d] = .ok (.nx [.dat sc, .dat en, .own hd, .own (L3.set w c'), .own (L4.set w (.lst (os.map Ent.d))), .own (kept.map kpD), .own ((held ++ [os]).map hlD), .own (gone'.map Ent.d), .dat (.int i), .dat (.int z), .dat (.int w), .dat (.lst (os.map Ent.d)), s12, s13, .dat (.bl less), .dat e.d]) := by
    simp at k6
    simp [f33_l0_6, a3', a4', k5, k6]
  obtain ⟨kept', hkk, b7⟩ : ∃ kept' : List (D × List Ent), (kept' = kept ∨ kept' = kept ++ [(c', os)]) ∧ ex (run law.Γ law.G (n+15)) law.G f33_l0_7 [.dat sc, .dat en, .own hd, .own (L3.set w c'), .own (L4.set w (.lst (os.map Ent.d))), .own (kept.map kpD), .own ((held ++ [os]).map hlD), .own (gone'.map Ent.d), .dat (.int i), .dat (.int z), .dat (.int w), .dat (.lst (os.map Ent.d)), s12, s13, .dat (.bl less), .dat e.d] = .ok (.nx [.dat sc, .dat en, .own hd, .own (L3.set w c'), .own (L4.set w (.lst (os.map Ent.d))), .own (kept'.map kpD), .own ((held ++ [os]).map hlD), .own (gone'.map Ent.d), .dat (.int i), .dat (.int z), .dat (.int w), .dat (.lst (os.map Ent.d)), s12, s13, .dat (.bl less), .dat e.d]) := by
    by_cases h3 : (i : Int) % 3 = 0
    · exact ⟨_, .inr rfl, by simp [f33_l0_7, h3, a3', a4', hkL, kpD]⟩
    · exact ⟨_, .inl rfl, by simp [f33_l0_7, h3]⟩
  refine ⟨c', os, kept', gone', .dat (.int w), .dat (.lst (os.map Ent.d)), .dat (.bl less), .dat e.d, hc', hlen, hgl, hkk, ?_⟩
  unfold f33_b8
  rw [seq_nx b0, seq_nx b1, seq_nx b2, seq_nx b3, seq_nx b4, seq_nx b5, seq_nx b6, seq_nx b7, exs_nil]
end K26

namespace K26
open Fw BT
structure Inv (i : Nat) (L3 L4 : List D) (kept : List (D × List Ent)) (held : List (List Ent)) (gone : List Ent) : Prop where
  l3 : L3.length = 2
  l4 : L4.length = 2
  ix : ∀ w, w < 2 → ∃ c es, L3[w]? = some c ∧ L4[w]? = some (.lst (es.map Ent.d)) ∧ Ix c es ∧ es.length ≤ 122 + i
  gn : gone.length ≤ i
  kl : kept.length ≤ i
  hl : held.length ≤ i
  kp : ∀ p ∈ kept, Ix p.1 p.2 ∧ p.2.length ≤ 300
  hd : ∀ l ∈ held, l.length ≤ 300
theorem turns (n : Nat) (sc en : D) (hd : List D) (s12 s13 : Sl) : ∀ (zs : List Int) (i : Nat) (L3 L4 : List D) (kept : List (D × List Ent)) (held : List (List Ent)) (gone : List Ent) (s8 s9 s10 s11 s14 s15 : Sl), Inv i L3 L4 kept held gone → i + zs.length ≤ 61 →
    ∃ (L3' L4' : List D) (kept' : List (D × List Ent)) (held' : List (List Ent)) (gone' : List Ent) (s8' s9' s10' s11' s14' s15' : Sl), Inv 61 L3' L4' kept' held' gone' ∧
      frL (run law.Γ law.G (n+15)) law.G [8, 9] f33_b8 (enumD i (zs.map .int)) [.dat sc, .dat en, .own hd, .own L3, .own L4, .own (kept.map kpD), .own (held.map hlD), .own (gone.map Ent.d), s8, s9, s10, s11, s12, s13, s14, s15] = .ok (.nx [.dat sc, .dat en, .own hd, .own L3', .own L4', .own (kept'.map kpD), .own (held'.map hlD), .own (gone'.map Ent.d), s8', s9', s10', s11', s12, s13, s14', s15'])
  | [], i, L3, L4, kept, held, gone, s8, s9, s10, s11, s14, s15, h, hi => by
    simp at hi
    refine ⟨L3, L4, kept, held, gone, s8, s9, s10, s11, s14, s15, ⟨h.l3, h.l4, fun w hw => ?_, by have := h.gn; omega, by have := h.kl; omega, by have := h.hl; omega, h.kp, h.hd⟩, by simp [frL_nil, enumD]⟩
    obtain ⟨c, es, h1, h2, h3, h4⟩ := h.ix w hw
    exact ⟨c, es, h1, h2, h3, by omega⟩
  | z :: zs, i, L3, L4, kept, held, gone, s8, s9, s10, s11, s14, s15, h, hi => by
    simp only [List.length_cons] at hi
    obtain ⟨w, hw, hw2⟩ : ∃ w : Nat, (w : Int) = z % 3 / 2 ∧ w < 2 := ⟨(z % 3 / 2).toNat, by omega, by omega⟩
    obtain ⟨c, es, h1, h2, h3, h4⟩ := h.ix w hw2
    have hg := h.gn
    have hk := h.kl
    have hh := h.hl
    obtain ⟨c', es', kept1, gone1, s10', s11', s14', s15', j1, j2, j3, j4, j5⟩ := turn_ok n i w z sc en hd L3 L4 kept held gone s10 s11 s12 s13 s14 s15 hw hw2 h.l3 h.l4 h1 h2 h3 (by omega) (by omega) (by omega) (by omega) (by omega)
    have hinv : Inv (i + 1) (L3.set w c') (L4.set w (.lst (es'.map Ent.d))) kept1 (held ++ [es']) gone1 := by
      have l3 := h.l3
      have l4 := h.l4
      refine ⟨by simp [l3], by simp [l4], fun v hv => ?_, by omega, ?_, by simp; omega, fun p hp => ?_, fun l hl => ?_⟩
      · by_cases hvw : w = v
        · subst hvw
          exact ⟨c', es', List.getElem?_set_self (by omega), List.getElem?_set_self (by omega), j1, by omega⟩
        · obtain ⟨c2, es2, q1, q2, q3, q4⟩ := h.ix v hv
          exact ⟨c2, es2, by rw [List.getElem?_set_ne hvw, q1], by rw [List.getElem?_set_ne hvw, q2], q3, by omega⟩
      · rcases j4 with rfl | rfl
        · omega
        · simp; omega
      · rcases j4 with rfl | rfl
        · exact h.kp p hp
        · rcases List.mem_append.mp hp with hp | hp
          · exact h.kp p hp
          · rw [List.mem_singleton.mp hp]; exact ⟨j1, by show es'.length ≤ 300; omega⟩
      · rcases List.mem_append.mp hl with hl | hl
        · exact h.hd l hl
        · rw [List.mem_singleton.mp hl]; omega
    obtain ⟨L3', L4', kept', held', gone', t8, t9, t10, t11, t14, t15, k1, k2⟩ := turns n sc en hd s12 s13 zs (i + 1) _ _ kept1 (held ++ [es']) gone1 (.dat (.int i)) (.dat (.int z)) s10' s11' s14' s15' hinv (by omega)
    refine ⟨L3', L4', kept', held', gone', t8, t9, t10, t11, t14, t15, k1, ?_⟩
    rw [List.map_cons]
    show frL _ _ _ _ (.tup [.int (i : Nat), .int z] :: enumD (i + 1) (zs.map .int)) _ = _
    rw [frL_cons, layN_two, R.bind_ok]
    show ((exs (run law.Γ law.G (n+15)) law.G f33_b8 [.dat sc, .dat en, .own hd, .own L3, .own L4, .own (kept.map kpD), .own (held.map hlD), .own (gone.map Ent.d), .dat (.int i), .dat (.int z), s10, s11, s12, s13, s14, s15]).bind _) = _
    rw [j5, R.bind_ok, loopF_nx]
    exact k2
theorem held_loop (n : Nat) (δ0 : List Sl) (h0 : δ0.length = 11) (tl : List Sl) : ∀ (held : List (List Ent)) (s11 s12 : Sl), (∀ l ∈ held, l.length ≤ 300) → ∃ s11' s12', frL (run law.Γ law.G (n+15)) law.G [11, 12] f33_b9 (held.map hlD) (δ0 ++ s11 :: s12 :: tl) = .ok (.nx (δ0 ++ s11' :: s12' :: tl))
  | [], s11, s12, _ => ⟨s11, s12, by simp [frL_nil]⟩
  | l :: held, s11, s12, h => by
    have hl := h l (List.mem_cons_self ..)
    have k := r_alike (n+12) l l (by omega) (by omega)
    simp at k
    obtain ⟨a, b, e⟩ := held_loop n δ0 h0 tl held (.dat (.lst (l.map Ent.d))) (.dat (.lst (l.map Ent.d))) fun x hx => h x (List.mem_cons_of_mem _ hx)
    refine ⟨a, b, ?_⟩
    rw [List.map_cons, frL_cons]
    show ((layN [11, 12] (.tup [.lst (l.map Ent.d), .lst (l.map Ent.d)]) _).bind _) = _
    have hset : ((δ0 ++ s11 :: s12 :: tl).set 11 (.dat (.lst (l.map Ent.d)))).set 12 (.dat (.lst (l.map Ent.d))) = δ0 ++ .dat (.lst (l.map Ent.d)) :: .dat (.lst (l.map Ent.d)) :: tl := by
      rw [List.set_append_right _ _ (by omega), List.set_append_right _ _ (by omega), h0]
      rfl
    rw [layN_two, R.bind_ok, hset]
    have g1 : (δ0 ++ .dat (.lst (l.map Ent.d)) :: .dat (.lst (l.map Ent.d)) :: tl)[11]? = some (.dat (.lst (l.map Ent.d))) := by
      rw [List.getElem?_append_right (by omega), h0]; rfl
    have g2 : (δ0 ++ .dat (.lst (l.map Ent.d)) :: .dat (.lst (l.map Ent.d)) :: tl)[12]? = some (.dat (.lst (l.map Ent.d))) := by
      rw [List.getElem?_append_right (by omega), h0]; rfl
    have hb : exs (run law.Γ law.G (n+15)) law.G f33_b9 (δ0 ++ .dat (.lst (l.map Ent.d)) :: .dat (.lst (l.map Ent.d)) :: tl) = .ok (.nx (δ0 ++ .dat (.lst (l.map Ent.d)) :: .dat (.lst (l.map Ent.d)) :: tl)) := by
      simp [f33_b9, g1, g2, k]
    rw [hb, R.bind_ok, loopF_nx]
    exact e
theorem kept_loop (n : Nat) (δ0 : List Sl) (h0 : δ0.length = 12) (tl : List Sl) : ∀ (kept : List (D × List Ent)) (s12 s13 : Sl), (∀ p ∈ kept, Ix p.1 p.2 ∧ p.2.length ≤ 300) → ∃ s12' s13', frL (run law.Γ law.G (n+15)) law.G [13, 12] f33_b10 (kept.map kpD) (δ0 ++ s12 :: s13 :: tl) = .ok (.nx (δ0 ++ s12' :: s13' :: tl))
  | [], s12, s13, _ => ⟨s12, s13, by simp [frL_nil]⟩
  | (c, es) :: kept, s12, s13, h => by
    obtain ⟨hx, hl⟩ := h _ (List.mem_cons_self ..)
    have hx : Ix c es := hx
    have hl : es.length ≤ 300 := hl
    have k := r_alike (n+12) es es (by omega) (by omega)
    have k2 := ix_has (n+1) es hx (by omega) (by omega)
    have k3 := ix_entries (n+1) hx (by omega)
    simp at k k2
    obtain ⟨a, b, e⟩ := kept_loop n δ0 h0 tl kept (.dat (.lst (es.map Ent.d))) (.dat c) fun x hx => h x (List.mem_cons_of_mem _ hx)
    refine ⟨a, b, ?_⟩
    rw [List.map_cons, frL_cons]
    show ((layN [13, 12] (.tup [c, .lst (es.map Ent.d)]) _).bind _) = _
    have hset : ((δ0 ++ s12 :: s13 :: tl).set 13 (.dat c)).set 12 (.dat (.lst (es.map Ent.d))) = δ0 ++ .dat (.lst (es.map Ent.d)) :: .dat c :: tl := by
      rw [List.set_append_right _ _ (by omega), List.set_append_right _ _ (by omega), h0]
      rfl
    rw [layN_two, R.bind_ok, hset]
    have g1 : (δ0 ++ .dat (.lst (es.map Ent.d)) :: .dat c :: tl)[12]? = some (.dat (.lst (es.map Ent.d))) := by
      rw [List.getElem?_append_right (by omega), h0]; rfl
    have g2 : (δ0 ++ .dat (.lst (es.map Ent.d)) :: .dat c :: tl)[13]? = some (.dat c) := by
      rw [List.getElem?_append_right (by omega), h0]; rfl
    have hb : exs (run law.Γ law.G (n+15)) law.G f33_b10 (δ0 ++ .dat (.lst (es.map Ent.d)) :: .dat c :: tl) = .ok (.nx (δ0 ++ .dat (.lst (es.map Ent.d)) :: .dat c :: tl)) := by
      simp [f33_b10, g1, g2, k, k2, k3]
    rw [hb, R.bind_ok, loopF_nx]
    exact e
theorem holds (ns : List Int) (hn : ns.length ≤ 63) : ∃ b : Bool, run law.Γ law.G 60 33 [.lst (ns.map .int)] = .ok (.bl true, b) := by
  refine ⟨false, ?_⟩
  rw [u33]
  have c0 := r_cell 58 ns 0 (by decide)
  have c1 := r_cell 58 ns 1 (by decide)
  simp at c0 c1
  obtain ⟨es, hl, b, er⟩ := r_list 56 (ns.getD 0 0 % 1000000000000) (by omega) (by omega)
  simp at er
  obtain ⟨cc, fs, hx, hfl, hfm, ef⟩ := ix_from 44 es (by omega)
  obtain ⟨os, o1, o2, o3, o4⟩ := r_once 57 es (LIM_lt (by omega))
  have hos : os = fs := srt_ext o1 hx.1 fun e => by rw [o2, hfm]
  subst hos
  have hd : dle 60 (.lst (es.map Ent.d)) = true := dle_lents es
  have hq : eqDs (es.map Ent.d) (es.map Ent.d) = true := by rw [eqDs_ents]; simp
  have k0 := ix_has 45 os hx (by omega) (by omega)
  have k1 := ix_entries 45 hx (by omega)
  have k2 := r_alike 56 os os (by omega) (by omega)
  have e0 := ix_from 44 [] (by simp)
  obtain ⟨cz, fz, hz, hzl, _, ez⟩ := e0
  have hfz : fz = [] := List.length_eq_zero_iff.mp (by simpa using hzl)
  subst hfz
  simp at k0 k2 ez
  obtain ⟨N, hN⟩ := hx.2
  have hnl := ce_noL hN
  generalize hC : run law.Γ law.G 59 = C
  have hC' : run law.Γ law.G (44 + 15) = C := hC
  rw [hC] at c0 c1 er ef o4 k0 k1 k2 ez
  generalize hS : (ns.map D.int) = S at *
  have t0 : ex C law.G f33_t0 ([.dat (.lst S)] ++ List.replicate 15 .no) = .ok (.nx ([.dat (.lst S), .dat (.lst (es.map Ent.d))] ++ List.replicate 14 .no)) := by
    simp [f33_t0, c0, er]
  have t1 : ex C law.G f33_t1 ([.dat (.lst S), .dat (.lst (es.map Ent.d))] ++ List.replicate 14 .no) = .ok (.nx ([.dat (.lst S), .dat (.lst (es.map Ent.d)), .own (es.map Ent.d)] ++ List.replicate 13 .no)) := by
    simp [f33_t1]
  have t2 : ex C law.G f33_t2 ([.dat (.lst S), .dat (.lst (es.map Ent.d)), .own (es.map Ent.d)] ++ List.replicate 13 .no) = .ok (.nx ([.dat (.lst S), .dat (.lst (es.map Ent.d)), .own (es.map Ent.d), .own [cc, cz]] ++ List.replicate 12 .no)) := by
    simp [f33_t2, ef, hnl, ez]
  have t3 : ex C law.G f33_t3 ([.dat (.lst S), .dat (.lst (es.map Ent.d)), .own (es.map Ent.d), .own [cc, cz]] ++ List.replicate 12 .no) = .ok (.nx ([.dat (.lst S), .dat (.lst (es.map Ent.d)), .own (es.map Ent.d), .own [cc, cz], .own [.lst (os.map Ent.d), .lst []]] ++ List.replicate 11 .no)) := by
    simp [f33_t3, o4]
  have t4 : ex C law.G f33_t4 ([.dat (.lst S), .dat (.lst (es.map Ent.d)), .own (es.map Ent.d), .own [cc, cz], .own [.lst (os.map Ent.d), .lst []]] ++ List.replicate 11 .no) = .ok (.nx ([.dat (.lst S), .dat (.lst (es.map Ent.d)), .own (es.map Ent.d), .own [cc, cz], .own [.lst (os.map Ent.d), .lst []]] ++ List.replicate 11 .no)) := by
    simp [f33_t4, hd, hq, k0]
  have t6 : ex C law.G f33_t6 ([.dat (.lst S), .dat (.lst (es.map Ent.d)), .own [], .own [cc, cz], .own [.lst (os.map Ent.d), .lst []]] ++ List.replicate 11 .no) = .ok (.nx ([.dat (.lst S), .dat (.lst (es.map Ent.d)), .own [], .own [cc, cz], .own [.lst (os.map Ent.d), .lst []]] ++ List.replicate 11 .no)) := by
    simp [f33_t6, k1, k2]
  obtain ⟨c7, r7, hx7, hl7, t7⟩ : ∃ (c7 : D) (r7 : List Ent), Ix c7 r7 ∧ r7.length ≤ 122 ∧ ex C law.G f33_t7 ([.dat (.lst S), .dat (.lst (es.map Ent.d)), .own [], .own [cc, cz], .own [.lst (os.map Ent.d), .lst []]] ++ List.replicate 11 .no) = .ok (.nx ([.dat (.lst S), .dat (.lst (es.map Ent.d)), .own [], .own [c7, cz], .own [.lst (r7.map Ent.d), .lst []]] ++ List.replicate 11 .no)) := by
    by_cases h1 : ns[1]?.getD 0 % 3 = 1
    · obtain ⟨c7, r7, h2, h3, h4⟩ := r_thinned 44 (ns[1]?.getD 0 / 3 % 1000000000) hx (by omega)
      rw [hC'] at h4
      refine ⟨c7, r7, h2, by omega, ?_⟩
      have u := fun δ' => @unp2D_ok δ' 3 4 0 0
      simp [f33_t7, c1, h1, h4]
      rw [unp2D_ok (δ1 := [.dat (.lst S), .dat (.lst (es.map Ent.d)), .own [], .own [c7, cz], .own [.lst (os.map Ent.d), .lst []]] ++ List.replicate 11 .no) (δ2 := [.dat (.lst S), .dat (.lst (es.map Ent.d)), .own [], .own [c7, cz], .own [.lst (r7.map Ent.d), .lst []]] ++ List.replicate 11 .no)]
      · rfl
      · exact setD_w _ 3 0 _ _ rfl (by decide)
      · exact setD_w _ 4 0 _ _ rfl (by decide)
    · exact ⟨cc, os, hx, by omega, by simp [f33_t7, c1, h1]⟩
  have hIx : ∀ w, w < 2 → ∃ c es, [c7, cz][w]? = some c ∧ [D.lst (r7.map Ent.d), D.lst []][w]? = some (.lst (es.map Ent.d)) ∧ Ix c es ∧ es.length ≤ 122 + 0 := by
    intro w hw
    rcases (show w = 0 ∨ w = 1 by omega) with rfl | rfl
    · exact ⟨c7, r7, rfl, rfl, hx7, by omega⟩
    · exact ⟨cz, [], rfl, rfl, hz, by simp⟩
  have hI : Inv 0 [c7, cz] [.lst (r7.map Ent.d), .lst []] [] [] [] := ⟨rfl, rfl, hIx, Nat.le_refl _, Nat.le_refl _, Nat.le_refl _, (fun p hp => by simp at hp), (fun p hp => by simp at hp)⟩
  obtain ⟨L3, L4, kept, held, gone, s8, s9, s10, s11, s14, s15, hInv, hloop⟩ := turns 44 (.lst S) (.lst (es.map Ent.d)) [] .no .no (ns.drop 2) 0 _ _ [] [] [] .no .no .no .no .no .no hI (by simp; omega)
  rw [hC'] at hloop
  have hcut : cutL S (some 2) none = (ns.drop 2).map D.int := by
    rw [cut_drop _ (by decide), ← hS, List.map_drop]; rfl
  have t11 : ex C law.G f33_t11 ([.dat (.lst S), .dat (.lst (es.map Ent.d)), .own [], .own [c7, cz], .own [.lst (r7.map Ent.d), .lst []], .own [], .own [], .own []] ++ List.replicate 8 .no) = .ok (.nx [.dat (.lst S), .dat (.lst (es.map Ent.d)), .own [], .own L3, .own L4, .own (kept.map kpD), .own (held.map hlD), .own (gone.map Ent.d), s8, s9, s10, s11, .no, .no, s14, s15]) := by
    simp [f33_t11, hcut, -List.map_drop]
    exact hloop
  obtain ⟨d0, q0, x1, x2, x3, x4⟩ := hInv.ix 0 (by decide)
  obtain ⟨d1, q1, y1, y2, y3, y4⟩ := hInv.ix 1 (by decide)
  have z1 : atD L3 0 = .ok d0 := atD_nat (i := 0) x1
  have z2 : atD L4 0 = .ok (.lst (q0.map Ent.d)) := atD_nat (i := 0) x2
  have z3 : atD L3 1 = .ok d1 := atD_nat (i := 1) y1
  have z4 : atD L4 1 = .ok (.lst (q1.map Ent.d)) := atD_nat (i := 1) y2
  obtain ⟨a11, a12, hh⟩ := held_loop 44 [.dat (.lst S), .dat (.lst (es.map Ent.d)), .own [], .own L3, .own L4, .own (kept.map kpD), .dat (.lst (held.map hlD)), .own (gone.map Ent.d), s8, s9, s10] rfl [.no, s14, s15] held s11 .no hInv.hd
  rw [hC'] at hh
  have t13 : ex C law.G f33_t13 [.dat (.lst S), .dat (.lst (es.map Ent.d)), .own [], .own L3, .own L4, .own (kept.map kpD), .dat (.lst (held.map hlD)), .own (gone.map Ent.d), s8, s9, s10, s11, .no, .no, s14, s15] = .ok (.nx [.dat (.lst S), .dat (.lst (es.map Ent.d)), .own [], .own L3, .own L4, .own (kept.map kpD), .dat (.lst (held.map hlD)), .own (gone.map Ent.d), s8, s9, s10, a11, a12, .no, s14, s15]) := by
    simp [f33_t13]
    exact hh
  obtain ⟨b12, b13, hk⟩ := kept_loop 44 [.dat (.lst S), .dat (.lst (es.map Ent.d)), .own [], .own L3, .own L4, .own (kept.map kpD), .dat (.lst (held.map hlD)), .own (gone.map Ent.d), s8, s9, s10, a11] rfl [s14, s15] (kept.take 6 ++ [(d0, q0), (d1, q1)]) a12 .no (fun p hp => by
    rcases List.mem_append.mp hp with hp | hp
    · exact hInv.kp p (List.mem_of_mem_take hp)
    · simp at hp
      rcases hp with rfl | rfl
      · exact ⟨x3, by show q0.length ≤ 300; omega⟩
      · exact ⟨y3, by show q1.length ≤ 300; omega⟩)
  rw [hC'] at hk
  have hkl := hInv.kl
  have hcut6 : cutL (kept.map kpD) none (some 6) = (kept.take 6).map kpD := by
    rw [cut_take _ (by decide), List.map_take]; rfl
  have t14 : ex C law.G f33_t14 [.dat (.lst S), .dat (.lst (es.map Ent.d)), .own [], .own L3, .own L4, .own (kept.map kpD), .dat (.lst (held.map hlD)), .own (gone.map Ent.d), s8, s9, s10, a11, a12, .no, s14, s15] = .ok (.nx [.dat (.lst S), .dat (.lst (es.map Ent.d)), .own [], .own L3, .own L4, .own (kept.map kpD), .dat (.lst (held.map hlD)), .own (gone.map Ent.d), s8, s9, s10, a11, b12, b13, s14, s15]) := by
    rw [List.map_append] at hk
    generalize hT : (kept.take 6).map kpD = T6 at *
    have hTl : T6.length ≤ 6 := by rw [← hT]; simp; omega
    simp [f33_t14, hcut6, z1, z2, z3, z4]
    rw [req_pos (LIM_le (by omega))]
    simpa [kpD] using hk
  show (noX (exs C law.G _ ([.dat (.lst S)] ++ List.replicate 15 .no))).bind fin = _
  rw [seq_nx t0, seq_nx t1, seq_nx t2, seq_nx t3, seq_nx t4]
  rw [seq_nx (δ' := [.dat (.lst S), .dat (.lst (es.map Ent.d)), .own [], .own [cc, cz], .own [.lst (os.map Ent.d), .lst []]] ++ List.replicate 11 .no) (by simp)]
  rw [seq_nx t6, seq_nx t7]
  rw [seq_nx (δ' := [.dat (.lst S), .dat (.lst (es.map Ent.d)), .own [], .own [c7, cz], .own [.lst (r7.map Ent.d), .lst []], .own []] ++ List.replicate 10 .no) (by simp)]
  rw [seq_nx (δ' := [.dat (.lst S), .dat (.lst (es.map Ent.d)), .own [], .own [c7, cz], .own [.lst (r7.map Ent.d), .lst []], .own [], .own []] ++ List.replicate 9 .no) (by simp)]
  rw [seq_nx (δ' := [.dat (.lst S), .dat (.lst (es.map Ent.d)), .own [], .own [c7, cz], .own [.lst (r7.map Ent.d), .lst []], .own [], .own [], .own []] ++ List.replicate 8 .no) (by simp)]
  rw [seq_nx t11]
  rw [seq_nx (δ' := [.dat (.lst S), .dat (.lst (es.map Ent.d)), .own [], .own L3, .own L4, .own (kept.map kpD), .dat (.lst (held.map hlD)), .own (gone.map Ent.d), s8, s9, s10, s11, .no, .no, s14, s15]) (by simp)]
  rw [seq_nx t13, seq_nx t14]
  simp
end K26


namespace K26
open PySem PySem.Spec PyProof.Rows L2 Fw
open Evl (Ex ex_rd ex_l ex_t)
theorem okAll : ∀ d ∈ defs, chk law.nm d = true := by
  have h : defs.all (chk law.nm) = true := by decide +kernel
  exact fun d hd => List.all_eq_true.mp h d hd
theorem all_mk {P : Program} {w : World} {K : PySem.W.Frag} {h : Heap} {mg : Str → Option Value} {fa g0 g1 g2 g3 g4 g5 g6 g7 g8 g9 g10 g11 g12 g13 g14 g15 g16 g17 g18 g19 g20 g21 g22 g23 g24 g25 g26 g27 g28 g29 g30 g31 g32 g33 : Addr} (X : K.In h) (G : h.Ns mainGlobals mg) (hfa : mg "law" = some (.ref fa))
    {od0 an0 od1 an1 od2 an2 od3 an3 od4 an4 od5 an5 od6 an6 od7 an7 od8 an8 od9 an9 od10 an10 od11 an11 od12 an12 od13 an13 od14 an14 od15 an15 od16 an16 od17 an17 od18 an18 od19 an19 od20 an20 od21 an21 od22 an22 od23 an23 od24 an24 od25 an25 od26 an26 od27 an27 od28 an28 od29 an29 od30 an30 od31 an31 od32 an32 od33 an33 : Option Addr} {sl0 sl1 sl2 sl3 sl4 sl5 sl6 sl7 sl8 sl9 sl10 sl11 sl12 sl13 sl14 sl15 sl16 sl17 sl18 sl19 sl20 sl21 sl22 sl23 sl24 sl25 sl26 sl27 sl28 sl29 sl30 sl31 sl32 sl33 : Array (Option Value)} {oc0 kV0 dc0 pm0 cd0 ct0 oc1 kV1 dc1 pm1 cd1 ct1 oc2 kV2 dc2 pm2 cd2 ct2 oc3 kV3 dc3 pm3 cd3 ct3 oc4 kV4 dc4 pm4 cd4 ct4 oc5 kV5 dc5 pm5 cd5 ct5 oc6 kV6 dc6 pm6 cd6 ct6 oc7 kV7 dc7 pm7 cd7 ct7 oc8 kV8 dc8 pm8 cd8 ct8 oc9 kV9 dc9 pm9 cd9 ct9 oc10 kV10 dc10 pm10 cd10 ct10 oc11 kV11 dc11 pm11 cd11 ct11 oc12 kV12 dc12 pm12 cd12 ct12 oc13 kV13 dc13 pm13 cd13 ct13 oc14 kV14 dc14 pm14 cd14 ct14 oc15 kV15 dc15 pm15 cd15 ct15 oc16 kV16 dc16 pm16 cd16 ct16 oc17 kV17 dc17 pm17 cd17 ct17 oc18 kV18 dc18 pm18 cd18 ct18 oc19 kV19 dc19 pm19 cd19 ct19 oc20 kV20 dc20 pm20 cd20 ct20 oc21 kV21 dc21 pm21 cd21 ct21 oc22 kV22 dc22 pm22 cd22 ct22 oc23 kV23 dc23 pm23 cd23 ct23 oc24 kV24 dc24 pm24 cd24 ct24 oc25 kV25 dc25 pm25 cd25 ct25 oc26 kV26 dc26 pm26 cd26 ct26 oc27 kV27 dc27 pm27 cd27 ct27 oc28 kV28 dc28 pm28 cd28 ct28 oc29 kV29 dc29 pm29 cd29 ct29 oc30 kV30 dc30 pm30 cd30 ct30 oc31 kV31 dc31 pm31 cd31 ct31 oc32 kV32 dc32 pm32 cd32 ct32 oc33 kV33 dc33 pm33 cd33 ct33 : Value} {t0 t1 : Nat}
    (a0 : PySem.W.nsIn K mainGlobals d0.gn = some (some (.ref g0))) (l0 : K.lookup g0 = some ⟨oc0, od0, .func (PySem.W.fnOf d0.nm d0.nm (defArgs d0.st) (defBody d0.st) (defScope d0.st) .none kV0 dc0 pm0 an0 cd0 ct0), sl0⟩) (c0 : PySem.W.codeIn K cd0 d0.nm = true) (k0 : PySem.W.keepIn K (.ref g0) = true)
    (a1 : PySem.W.nsIn K mainGlobals d1.gn = some (some (.ref g1))) (l1 : K.lookup g1 = some ⟨oc1, od1, .func (PySem.W.fnOf d1.nm d1.nm (defArgs d1.st) (defBody d1.st) (defScope d1.st) .none kV1 dc1 pm1 an1 cd1 ct1), sl1⟩) (c1 : PySem.W.codeIn K cd1 d1.nm = true) (k1 : PySem.W.keepIn K (.ref g1) = true)
    (a2 : PySem.W.nsIn K mainGlobals d2.gn = some (some (.ref g2))) (l2 : K.lookup g2 = some ⟨oc2, od2, .func (PySem.W.fnOf d2.nm d2.nm (defArgs d2.st) (defBody d2.st) (defScope d2.st) .none kV2 dc2 pm2 an2 cd2 ct2), sl2⟩) (c2 : PySem.W.codeIn K cd2 d2.nm = true) (k2 : PySem.W.keepIn K (.ref g2) = true)
    (a3 : PySem.W.nsIn K mainGlobals d3.gn = some (some (.ref g3))) (l3 : K.lookup g3 = some ⟨oc3, od3, .func (PySem.W.fnOf d3.nm d3.nm (defArgs d3.st) (defBody d3.st) (defScope d3.st) .none kV3 dc3 pm3 an3 cd3 ct3), sl3⟩) (c3 : PySem.W.codeIn K cd3 d3.nm = true) (k3 : PySem.W.keepIn K (.ref g3) = true)
    (a4 : PySem.W.nsIn K mainGlobals d4.gn = some (some (.ref g4))) (l4 : K.lookup g4 = some ⟨oc4, od4, .func (PySem.W.fnOf d4.nm d4.nm (defArgs d4.st) (defBody d4.st) (defScope d4.st) .none kV4 dc4 pm4 an4 cd4 ct4), sl4⟩) (c4 : PySem.W.codeIn K cd4 d4.nm = true) (k4 : PySem.W.keepIn K (.ref g4) = true)
    (a5 : PySem.W.nsIn K mainGlobals d5.gn = some (some (.ref g5))) (l5 : K.lookup g5 = some ⟨oc5, od5, .func (PySem.W.fnOf d5.nm d5.nm (defArgs d5.st) (defBody d5.st) (defScope d5.st) .none kV5 dc5 pm5 an5 cd5 ct5), sl5⟩) (c5 : PySem.W.codeIn K cd5 d5.nm = true) (k5 : PySem.W.keepIn K (.ref g5) = true)
    (a6 : PySem.W.nsIn K mainGlobals d6.gn = some (some (.ref g6))) (l6 : K.lookup g6 = some ⟨oc6, od6, .func (PySem.W.fnOf d6.nm d6.nm (defArgs d6.st) (defBody d6.st) (defScope d6.st) .none kV6 dc6 pm6 an6 cd6 ct6), sl6⟩) (c6 : PySem.W.codeIn K cd6 d6.nm = true) (k6 : PySem.W.keepIn K (.ref g6) = true)
    (a7 : PySem.W.nsIn K mainGlobals d7.gn = some (some (.ref g7))) (l7 : K.lookup g7 = some ⟨oc7, od7, .func (PySem.W.fnOf d7.nm d7.nm (defArgs d7.st) (defBody d7.st) (defScope d7.st) .none kV7 dc7 pm7 an7 cd7 ct7), sl7⟩) (c7 : PySem.W.codeIn K cd7 d7.nm = true) (k7 : PySem.W.keepIn K (.ref g7) = true)
    (a8 : PySem.W.nsIn K mainGlobals d8.gn = some (some (.ref g8))) (l8 : K.lookup g8 = some ⟨oc8, od8, .func (PySem.W.fnOf d8.nm d8.nm (defArgs d8.st) (defBody d8.st) (defScope d8.st) .none kV8 dc8 pm8 an8 cd8 ct8), sl8⟩) (c8 : PySem.W.codeIn K cd8 d8.nm = true) (k8 : PySem.W.keepIn K (.ref g8) = true)
    (a9 : PySem.W.nsIn K mainGlobals d9.gn = some (some (.ref g9))) (l9 : K.lookup g9 = some ⟨oc9, od9, .func (PySem.W.fnOf d9.nm d9.nm (defArgs d9.st) (defBody d9.st) (defScope d9.st) .none kV9 dc9 pm9 an9 cd9 ct9), sl9⟩) (c9 : PySem.W.codeIn K cd9 d9.nm = true) (k9 : PySem.W.keepIn K (.ref g9) = true)
    (a10 : PySem.W.nsIn K mainGlobals d10.gn = some (some (.ref g10))) (l10 : K.lookup g10 = some ⟨oc10, od10, .func (PySem.W.fnOf d10.nm d10.nm (defArgs d10.st) (defBody d10.st) (defScope d10.st) .none kV10 dc10 pm10 an10 cd10 ct10), sl10⟩) (c10 : PySem.W.codeIn K cd10 d10.nm = true) (k10 : PySem.W.keepIn K (.ref g10) = true)
    (a11 : PySem.W.nsIn K mainGlobals d11.gn = some (some (.ref g11))) (l11 : K.lookup g11 = some ⟨oc11, od11, .func (PySem.W.fnOf d11.nm d11.nm (defArgs d11.st) (defBody d11.st) (defScope d11.st) .none kV11 dc11 pm11 an11 cd11 ct11), sl11⟩) (c11 : PySem.W.codeIn K cd11 d11.nm = true) (k11 : PySem.W.keepIn K (.ref g11) = true)
    (a12 : PySem.W.nsIn K mainGlobals d12.gn = some (some (.ref g12))) (l12 : K.lookup g12 = some ⟨oc12, od12, .func (PySem.W.fnOf d12.nm d12.nm (defArgs d12.st) (defBody d12.st) (defScope d12.st) .none kV12 dc12 pm12 an12 cd12 ct12), sl12⟩) (c12 : PySem.W.codeIn K cd12 d12.nm = true) (k12 : PySem.W.keepIn K (.ref g12) = true)
    (a13 : PySem.W.nsIn K mainGlobals d13.gn = some (some (.ref g13))) (l13 : K.lookup g13 = some ⟨oc13, od13, .func (PySem.W.fnOf d13.nm d13.nm (defArgs d13.st) (defBody d13.st) (defScope d13.st) .none kV13 dc13 pm13 an13 cd13 ct13), sl13⟩) (c13 : PySem.W.codeIn K cd13 d13.nm = true) (k13 : PySem.W.keepIn K (.ref g13) = true)
    (a14 : PySem.W.nsIn K mainGlobals d14.gn = some (some (.ref g14))) (l14 : K.lookup g14 = some ⟨oc14, od14, .func (PySem.W.fnOf d14.nm d14.nm (defArgs d14.st) (defBody d14.st) (defScope d14.st) .none kV14 dc14 pm14 an14 cd14 ct14), sl14⟩) (c14 : PySem.W.codeIn K cd14 d14.nm = true) (k14 : PySem.W.keepIn K (.ref g14) = true)
    (a15 : PySem.W.nsIn K mainGlobals d15.gn = some (some (.ref g15))) (l15 : K.lookup g15 = some ⟨oc15, od15, .func (PySem.W.fnOf d15.nm d15.nm (defArgs d15.st) (defBody d15.st) (defScope d15.st) .none kV15 dc15 pm15 an15 cd15 ct15), sl15⟩) (c15 : PySem.W.codeIn K cd15 d15.nm = true) (k15 : PySem.W.keepIn K (.ref g15) = true)
    (a16 : PySem.W.nsIn K mainGlobals d16.gn = some (some (.ref g16))) (l16 : K.lookup g16 = some ⟨oc16, od16, .func (PySem.W.fnOf d16.nm d16.nm (defArgs d16.st) (defBody d16.st) (defScope d16.st) .none kV16 dc16 pm16 an16 cd16 ct16), sl16⟩) (c16 : PySem.W.codeIn K cd16 d16.nm = true) (k16 : PySem.W.keepIn K (.ref g16) = true)
    (a17 : PySem.W.nsIn K mainGlobals d17.gn = some (some (.ref g17))) (l17 : K.lookup g17 = some ⟨oc17, od17, .func (PySem.W.fnOf d17.nm d17.nm (defArgs d17.st) (defBody d17.st) (defScope d17.st) .none kV17 dc17 pm17 an17 cd17 ct17), sl17⟩) (c17 : PySem.W.codeIn K cd17 d17.nm = true) (k17 : PySem.W.keepIn K (.ref g17) = true)
    (a18 : PySem.W.nsIn K mainGlobals d18.gn = some (some (.ref g18))) (l18 : K.lookup g18 = some ⟨oc18, od18, .func (PySem.W.fnOf d18.nm d18.nm (defArgs d18.st) (defBody d18.st) (defScope d18.st) .none kV18 dc18 pm18 an18 cd18 ct18), sl18⟩) (c18 : PySem.W.codeIn K cd18 d18.nm = true) (k18 : PySem.W.keepIn K (.ref g18) = true)
    (a19 : PySem.W.nsIn K mainGlobals d19.gn = some (some (.ref g19))) (l19 : K.lookup g19 = some ⟨oc19, od19, .func (PySem.W.fnOf d19.nm d19.nm (defArgs d19.st) (defBody d19.st) (defScope d19.st) .none kV19 dc19 pm19 an19 cd19 ct19), sl19⟩) (c19 : PySem.W.codeIn K cd19 d19.nm = true) (k19 : PySem.W.keepIn K (.ref g19) = true)
    (a20 : PySem.W.nsIn K mainGlobals d20.gn = some (some (.ref g20))) (l20 : K.lookup g20 = some ⟨oc20, od20, .func (PySem.W.fnOf d20.nm d20.nm (defArgs d20.st) (defBody d20.st) (defScope d20.st) .none kV20 dc20 pm20 an20 cd20 ct20), sl20⟩) (c20 : PySem.W.codeIn K cd20 d20.nm = true) (k20 : PySem.W.keepIn K (.ref g20) = true)
    (a21 : PySem.W.nsIn K mainGlobals d21.gn = some (some (.ref g21))) (l21 : K.lookup g21 = some ⟨oc21, od21, .func (PySem.W.fnOf d21.nm d21.nm (defArgs d21.st) (defBody d21.st) (defScope d21.st) .none kV21 dc21 pm21 an21 cd21 ct21), sl21⟩) (c21 : PySem.W.codeIn K cd21 d21.nm = true) (k21 : PySem.W.keepIn K (.ref g21) = true)
    (a22 : PySem.W.nsIn K mainGlobals d22.gn = some (some (.ref g22))) (l22 : K.lookup g22 = some ⟨oc22, od22, .func (PySem.W.fnOf d22.nm d22.nm (defArgs d22.st) (defBody d22.st) (defScope d22.st) .none kV22 dc22 pm22 an22 cd22 ct22), sl22⟩) (c22 : PySem.W.codeIn K cd22 d22.nm = true) (k22 : PySem.W.keepIn K (.ref g22) = true)
    (a23 : PySem.W.nsIn K mainGlobals d23.gn = some (some (.ref g23))) (l23 : K.lookup g23 = some ⟨oc23, od23, .func (PySem.W.fnOf d23.nm d23.nm (defArgs d23.st) (defBody d23.st) (defScope d23.st) .none kV23 dc23 pm23 an23 cd23 ct23), sl23⟩) (c23 : PySem.W.codeIn K cd23 d23.nm = true) (k23 : PySem.W.keepIn K (.ref g23) = true)
    (a24 : PySem.W.nsIn K mainGlobals d24.gn = some (some (.ref g24))) (l24 : K.lookup g24 = some ⟨oc24, od24, .func (PySem.W.fnOf d24.nm d24.nm (defArgs d24.st) (defBody d24.st) (defScope d24.st) .none kV24 dc24 pm24 an24 cd24 ct24), sl24⟩) (c24 : PySem.W.codeIn K cd24 d24.nm = true) (k24 : PySem.W.keepIn K (.ref g24) = true)
    (a25 : PySem.W.nsIn K mainGlobals d25.gn = some (some (.ref g25))) (l25 : K.lookup g25 = some ⟨oc25, od25, .func (PySem.W.fnOf d25.nm d25.nm (defArgs d25.st) (defBody d25.st) (defScope d25.st) .none kV25 dc25 pm25 an25 cd25 ct25), sl25⟩) (c25 : PySem.W.codeIn K cd25 d25.nm = true) (k25 : PySem.W.keepIn K (.ref g25) = true)
    (a26 : PySem.W.nsIn K mainGlobals d26.gn = some (some (.ref g26))) (l26 : K.lookup g26 = some ⟨oc26, od26, .func (PySem.W.fnOf d26.nm d26.nm (defArgs d26.st) (defBody d26.st) (defScope d26.st) .none kV26 dc26 pm26 an26 cd26 ct26), sl26⟩) (c26 : PySem.W.codeIn K cd26 d26.nm = true) (k26 : PySem.W.keepIn K (.ref g26) = true)
    (a27 : PySem.W.nsIn K mainGlobals d27.gn = some (some (.ref g27))) (l27 : K.lookup g27 = some ⟨oc27, od27, .func (PySem.W.fnOf d27.nm d27.nm (defArgs d27.st) (defBody d27.st) (defScope d27.st) .none kV27 dc27 pm27 an27 cd27 ct27), sl27⟩) (c27 : PySem.W.codeIn K cd27 d27.nm = true) (k27 : PySem.W.keepIn K (.ref g27) = true)
    (a28 : PySem.W.nsIn K mainGlobals d28.gn = some (some (.ref g28))) (l28 : K.lookup g28 = some ⟨oc28, od28, .func (PySem.W.fnOf d28.nm d28.nm (defArgs d28.st) (defBody d28.st) (defScope d28.st) .none kV28 dc28 pm28 an28 cd28 ct28), sl28⟩) (c28 : PySem.W.codeIn K cd28 d28.nm = true) (k28 : PySem.W.keepIn K (.ref g28) = true)
    (a29 : PySem.W.nsIn K mainGlobals d29.gn = some (some (.ref g29))) (l29 : K.lookup g29 = some ⟨oc29, od29, .func (PySem.W.fnOf d29.nm d29.nm (defArgs d29.st) (defBody d29.st) (defScope d29.st) .none kV29 dc29 pm29 an29 cd29 ct29), sl29⟩) (c29 : PySem.W.codeIn K cd29 d29.nm = true) (k29 : PySem.W.keepIn K (.ref g29) = true)
    (a30 : PySem.W.nsIn K mainGlobals d30.gn = some (some (.ref g30))) (l30 : K.lookup g30 = some ⟨oc30, od30, .func (PySem.W.fnOf d30.nm d30.nm (defArgs d30.st) (defBody d30.st) (defScope d30.st) .none kV30 dc30 pm30 an30 cd30 ct30), sl30⟩) (c30 : PySem.W.codeIn K cd30 d30.nm = true) (k30 : PySem.W.keepIn K (.ref g30) = true)
    (a31 : PySem.W.nsIn K mainGlobals d31.gn = some (some (.ref g31))) (l31 : K.lookup g31 = some ⟨oc31, od31, .func (PySem.W.fnOf d31.nm d31.nm (defArgs d31.st) (defBody d31.st) (defScope d31.st) .none kV31 dc31 pm31 an31 cd31 ct31), sl31⟩) (c31 : PySem.W.codeIn K cd31 d31.nm = true) (k31 : PySem.W.keepIn K (.ref g31) = true)
    (a32 : PySem.W.nsIn K mainGlobals d32.gn = some (some (.ref g32))) (l32 : K.lookup g32 = some ⟨oc32, od32, .func (PySem.W.fnOf d32.nm d32.nm (defArgs d32.st) (defBody d32.st) (defScope d32.st) .none kV32 dc32 pm32 an32 cd32 ct32), sl32⟩) (c32 : PySem.W.codeIn K cd32 d32.nm = true) (k32 : PySem.W.keepIn K (.ref g32) = true)
    (a33 : PySem.W.nsIn K mainGlobals d33.gn = some (some (.ref g33))) (l33 : K.lookup g33 = some ⟨oc33, od33, .func (PySem.W.fnOf d33.nm d33.nm (defArgs d33.st) (defBody d33.st) (defScope d33.st) .none kV33 dc33 pm33 an33 cd33 ct33), sl33⟩) (c33 : PySem.W.codeIn K cd33 d33.nm = true) (k33 : PySem.W.keepIn K (.ref g33) = true)
    (m0 : PySem.W.nsIn K mainGlobals "LEAST" = some (some (.int (4) t0)))
    (m1 : PySem.W.nsIn K mainGlobals "MOST" = some (some (.int (8) t1)))
    (z0 : PySem.W.nsIn K mainGlobals "bool" = some none)
    (z1 : PySem.W.nsIn K mainGlobals "enumerate" = some none)
    (z2 : PySem.W.nsIn K mainGlobals "int" = some none)
    (z3 : PySem.W.nsIn K mainGlobals "isinstance" = some none)
    (z4 : PySem.W.nsIn K mainGlobals "len" = some none)
    (z5 : PySem.W.nsIn K mainGlobals "list" = some none)
    (z6 : PySem.W.nsIn K mainGlobals "max" = some none)
    (z7 : PySem.W.nsIn K mainGlobals "range" = some none)
    (z8 : PySem.W.nsIn K mainGlobals "sorted" = some none)
    (z9 : PySem.W.nsIn K mainGlobals "str" = some none)
    (z10 : PySem.W.nsIn K mainGlobals "sum" = some none)
    (z11 : PySem.W.nsIn K mainGlobals "tuple" = some none) :
    ∃ fd : FuncData, (∀ (s : Shared) (u : Value), BindsTo s fd ⟨[u], []⟩ [("_law_script", u)]) ∧ ∀ base : Heap, K.In base → base.Ns mainGlobals mg → FnOk P w K mg base CX0 180 fa fd ["_law_script"] (spF K law 60 33) := by
  have hK : ∀ d ∈ defs, HasDef K mg d := by
    intro d hd
    unfold defs at hd
    rcases List.mem_cons.mp hd with rfl | hd
    · exact has_mk X G a0 l0 c0 k0 (fun _ _ _ _ _ _ us hl => match us, hl with | [_], _ => rfl)
    rcases List.mem_cons.mp hd with rfl | hd
    · exact has_mk X G a1 l1 c1 k1 (fun _ _ _ _ _ _ us hl => match us, hl with | [_, _], _ => rfl)
    rcases List.mem_cons.mp hd with rfl | hd
    · exact has_mk X G a2 l2 c2 k2 (fun _ _ _ _ _ _ us hl => match us, hl with | [_, _], _ => rfl)
    rcases List.mem_cons.mp hd with rfl | hd
    · exact has_mk X G a3 l3 c3 k3 (fun _ _ _ _ _ _ us hl => match us, hl with | [], _ => rfl)
    rcases List.mem_cons.mp hd with rfl | hd
    · exact has_mk X G a4 l4 c4 k4 (fun _ _ _ _ _ _ us hl => match us, hl with | [_], _ => rfl)
    rcases List.mem_cons.mp hd with rfl | hd
    · exact has_mk X G a5 l5 c5 k5 (fun _ _ _ _ _ _ us hl => match us, hl with | [_], _ => rfl)
    rcases List.mem_cons.mp hd with rfl | hd
    · exact has_mk X G a6 l6 c6 k6 (fun _ _ _ _ _ _ us hl => match us, hl with | [_, _], _ => rfl)
    rcases List.mem_cons.mp hd with rfl | hd
    · exact has_mk X G a7 l7 c7 k7 (fun _ _ _ _ _ _ us hl => match us, hl with | [_, _], _ => rfl)
    rcases List.mem_cons.mp hd with rfl | hd
    · exact has_mk X G a8 l8 c8 k8 (fun _ _ _ _ _ _ us hl => match us, hl with | [_, _], _ => rfl)
    rcases List.mem_cons.mp hd with rfl | hd
    · exact has_mk X G a9 l9 c9 k9 (fun _ _ _ _ _ _ us hl => match us, hl with | [_], _ => rfl)
    rcases List.mem_cons.mp hd with rfl | hd
    · exact has_mk X G a10 l10 c10 k10 (fun _ _ _ _ _ _ us hl => match us, hl with | [_], _ => rfl)
    rcases List.mem_cons.mp hd with rfl | hd
    · exact has_mk X G a11 l11 c11 k11 (fun _ _ _ _ _ _ us hl => match us, hl with | [_, _], _ => rfl)
    rcases List.mem_cons.mp hd with rfl | hd
    · exact has_mk X G a12 l12 c12 k12 (fun _ _ _ _ _ _ us hl => match us, hl with | [_, _], _ => rfl)
    rcases List.mem_cons.mp hd with rfl | hd
    · exact has_mk X G a13 l13 c13 k13 (fun _ _ _ _ _ _ us hl => match us, hl with | [_, _, _], _ => rfl)
    rcases List.mem_cons.mp hd with rfl | hd
    · exact has_mk X G a14 l14 c14 k14 (fun _ _ _ _ _ _ us hl => match us, hl with | [_, _, _], _ => rfl)
    rcases List.mem_cons.mp hd with rfl | hd
    · exact has_mk X G a15 l15 c15 k15 (fun _ _ _ _ _ _ us hl => match us, hl with | [_, _], _ => rfl)
    rcases List.mem_cons.mp hd with rfl | hd
    · exact has_mk X G a16 l16 c16 k16 (fun _ _ _ _ _ _ us hl => match us, hl with | [_, _, _], _ => rfl)
    rcases List.mem_cons.mp hd with rfl | hd
    · exact has_mk X G a17 l17 c17 k17 (fun _ _ _ _ _ _ us hl => match us, hl with | [_], _ => rfl)
    rcases List.mem_cons.mp hd with rfl | hd
    · exact has_mk X G a18 l18 c18 k18 (fun _ _ _ _ _ _ us hl => match us, hl with | [_, _], _ => rfl)
    rcases List.mem_cons.mp hd with rfl | hd
    · exact has_mk X G a19 l19 c19 k19 (fun _ _ _ _ _ _ us hl => match us, hl with | [_], _ => rfl)
    rcases List.mem_cons.mp hd with rfl | hd
    · exact has_mk X G a20 l20 c20 k20 (fun _ _ _ _ _ _ us hl => match us, hl with | [_, _], _ => rfl)
    rcases List.mem_cons.mp hd with rfl | hd
    · exact has_mk X G a21 l21 c21 k21 (fun _ _ _ _ _ _ us hl => match us, hl with | [_], _ => rfl)
    rcases List.mem_cons.mp hd with rfl | hd
    · exact has_mk X G a22 l22 c22 k22 (fun _ _ _ _ _ _ us hl => match us, hl with | [_], _ => rfl)
    rcases List.mem_cons.mp hd with rfl | hd
    · exact has_mk X G a23 l23 c23 k23 (fun _ _ _ _ _ _ us hl => match us, hl with | [_], _ => rfl)
    rcases List.mem_cons.mp hd with rfl | hd
    · exact has_mk X G a24 l24 c24 k24 (fun _ _ _ _ _ _ us hl => match us, hl with | [_], _ => rfl)
    rcases List.mem_cons.mp hd with rfl | hd
    · exact has_mk X G a25 l25 c25 k25 (fun _ _ _ _ _ _ us hl => match us, hl with | [_, _], _ => rfl)
    rcases List.mem_cons.mp hd with rfl | hd
    · exact has_mk X G a26 l26 c26 k26 (fun _ _ _ _ _ _ us hl => match us, hl with | [_, _], _ => rfl)
    rcases List.mem_cons.mp hd with rfl | hd
    · exact has_mk X G a27 l27 c27 k27 (fun _ _ _ _ _ _ us hl => match us, hl with | [_, _], _ => rfl)
    rcases List.mem_cons.mp hd with rfl | hd
    · exact has_mk X G a28 l28 c28 k28 (fun _ _ _ _ _ _ us hl => match us, hl with | [_, _], _ => rfl)
    rcases List.mem_cons.mp hd with rfl | hd
    · exact has_mk X G a29 l29 c29 k29 (fun _ _ _ _ _ _ us hl => match us, hl with | [_], _ => rfl)
    rcases List.mem_cons.mp hd with rfl | hd
    · exact has_mk X G a30 l30 c30 k30 (fun _ _ _ _ _ _ us hl => match us, hl with | [_, _, _], _ => rfl)
    rcases List.mem_cons.mp hd with rfl | hd
    · exact has_mk X G a31 l31 c31 k31 (fun _ _ _ _ _ _ us hl => match us, hl with | [_, _, _], _ => rfl)
    rcases List.mem_cons.mp hd with rfl | hd
    · exact has_mk X G a32 l32 c32 k32 (fun _ _ _ _ _ _ us hl => match us, hl with | [_, _, _], _ => rfl)
    obtain rfl := List.mem_singleton.mp hd
    exact has_mk X G a33 l33 c33 k33 (fun _ _ _ _ _ _ us hl => match us, hl with | [_], _ => rfl)
  have hG : ∀ (g : Nat) x d, law.nm.GN[g]? = some x → law.G[g]? = some d → ∃ v u, mg x = some u ∧ RelV v u ∧ ∀ M, Rep K M d v := by
    intro g x d hx hd
    cases g with
    | zero => cases hx; cases hd; exact glob_int X G m0
    | succ g =>
    cases g with
    | zero => cases hx; cases hd; exact glob_int X G m1
    | succ g =>
    cases hx
  have hB : ∀ x ∈ law.nm.BN, mg x = none := by
    intro x hx
    unfold law at hx
    rcases List.mem_cons.mp hx with rfl | hx
    · exact PySem.W.mg_none_of X G z0
    rcases List.mem_cons.mp hx with rfl | hx
    · exact PySem.W.mg_none_of X G z1
    rcases List.mem_cons.mp hx with rfl | hx
    · exact PySem.W.mg_none_of X G z2
    rcases List.mem_cons.mp hx with rfl | hx
    · exact PySem.W.mg_none_of X G z3
    rcases List.mem_cons.mp hx with rfl | hx
    · exact PySem.W.mg_none_of X G z4
    rcases List.mem_cons.mp hx with rfl | hx
    · exact PySem.W.mg_none_of X G z5
    rcases List.mem_cons.mp hx with rfl | hx
    · exact PySem.W.mg_none_of X G z6
    rcases List.mem_cons.mp hx with rfl | hx
    · exact PySem.W.mg_none_of X G z7
    rcases List.mem_cons.mp hx with rfl | hx
    · exact PySem.W.mg_none_of X G z8
    rcases List.mem_cons.mp hx with rfl | hx
    · exact PySem.W.mg_none_of X G z9
    rcases List.mem_cons.mp hx with rfl | hx
    · exact PySem.W.mg_none_of X G z10
    obtain rfl := List.mem_singleton.mp hx
    exact PySem.W.mg_none_of X G z11
  have hE : ∀ (c : Nat) x, law.nm.EN[c]? = some x → EnOk mg law.nm c x := by
    intro c x hx
    cases hx
  have hR : ∀ c, 2 ≤ c → c < law.nm.RN → ROk K mg law.nm c := by
    intro c h2 hc
    have hc : c < 0 := hc
    omega
  have hH : ∀ f ∈ law.nm.HF, ∃ d, defs[f]? = some d ∧ d.fn.su.isEmpty = false := by
    intro f hf
    cases hf
  exact law_F (defs := defs) (n := 59) (fl := 33) (d := d33) rfl (fun base => facts (defs := defs) rfl rfl okAll hK hG hB hE hR rfl hH 59) rfl okAll hK rfl rfl hfa
end K26
open PySem PySem.W PyProof.Rows
set_option maxHeartbeats 0 in
theorem PySem.Challenge.cw_tablestore_k26_whole_many_deeds_holds : PySem.Challenge.rw_tablestore_k26_whole_many_deeds.Holds := by
  w_on; o_law; k_head; (case hw => w_witness2)
  k_fill
  refine L2.walk_of (l := PySem.Challenge.rw_tablestore_k26_whole_many_deeds) (n := 63) (k := 180) (x := "_law_script") (CX := fun _ => L2.CX0) (sp := fun w => Fw.spF _ K26.law 60 33) rfl (by decide) rfl ⟨rfl, by decide, by decide⟩ (fun w h Y => PySem.W.kIn_of Y) ?F (fun _ _ a ns hl _ hS => Exists.elim (K26.holds ns hl) fun b h => Fw.law_S h hS) (fun _ _ _ _ _ h => h)
  case F =>
    intro w mg fa h KX G hmg
    refine' K26.all_mk KX G hmg ?a0 ?l0 ?c0 ?k0 ?a1 ?l1 ?c1 ?k1 ?a2 ?l2 ?c2 ?k2 ?a3 ?l3 ?c3 ?k3 ?a4 ?l4 ?c4 ?k4 ?a5 ?l5 ?c5 ?k5 ?a6 ?l6 ?c6 ?k6 ?a7 ?l7 ?c7 ?k7 ?a8 ?l8 ?c8 ?k8 ?a9 ?l9 ?c9 ?k9 ?a10 ?l10 ?c10 ?k10 ?a11 ?l11 ?c11 ?k11 ?a12 ?l12 ?c12 ?k12 ?a13 ?l13 ?c13 ?k13 ?a14 ?l14 ?c14 ?k14 ?a15 ?l15 ?c15 ?k15 ?a16 ?l16 ?c16 ?k16 ?a17 ?l17 ?c17 ?k17 ?a18 ?l18 ?c18 ?k18 ?a19 ?l19 ?c19 ?k19 ?a20 ?l20 ?c20 ?k20 ?a21 ?l21 ?c21 ?k21 ?a22 ?l22 ?c22 ?k22 ?a23 ?l23 ?c23 ?k23 ?a24 ?l24 ?c24 ?k24 ?a25 ?l25 ?c25 ?k25 ?a26 ?l26 ?c26 ?k26 ?a27 ?l27 ?c27 ?k27 ?a28 ?l28 ?c28 ?k28 ?a29 ?l29 ?c29 ?k29 ?a30 ?l30 ?c30 ?k30 ?a31 ?l31 ?c31 ?k31 ?a32 ?l32 ?c32 ?k32 ?a33 ?l33 ?c33 ?k33 ?m0 ?m1 ?z0 ?z1 ?z2 ?z3 ?z4 ?z5 ?z6 ?z7 ?z8 ?z9 ?z10 ?z11
    (case a0 => k_is)
    (case l0 => k_is)
    (case c0 => k_is)
    (case k0 => k_is)
    (case a1 => k_is)
    (case l1 => k_is)
    (case c1 => k_is)
    (case k1 => k_is)
    (case a2 => k_is)
    (case l2 => k_is)
    (case c2 => k_is)
    (case k2 => k_is)
    (case a3 => k_is)
    (case l3 => k_is)
    (case c3 => k_is)
    (case k3 => k_is)
    (case a4 => k_is)
    (case l4 => k_is)
    (case c4 => k_is)
    (case k4 => k_is)
    (case a5 => k_is)
    (case l5 => k_is)
    (case c5 => k_is)
    (case k5 => k_is)
    (case a6 => k_is)
    (case l6 => k_is)
    (case c6 => k_is)
    (case k6 => k_is)
    (case a7 => k_is)
    (case l7 => k_is)
    (case c7 => k_is)
    (case k7 => k_is)
    (case a8 => k_is)
    (case l8 => k_is)
    (case c8 => k_is)
    (case k8 => k_is)
    (case a9 => k_is)
    (case l9 => k_is)
    (case c9 => k_is)
    (case k9 => k_is)
    (case a10 => k_is)
    (case l10 => k_is)
    (case c10 => k_is)
    (case k10 => k_is)
    (case a11 => k_is)
    (case l11 => k_is)
    (case c11 => k_is)
    (case k11 => k_is)
    (case a12 => k_is)
    (case l12 => k_is)
    (case c12 => k_is)
    (case k12 => k_is)
    (case a13 => k_is)
    (case l13 => k_is)
    (case c13 => k_is)
    (case k13 => k_is)
    (case a14 => k_is)
    (case l14 => k_is)
    (case c14 => k_is)
    (case k14 => k_is)
    (case a15 => k_is)
    (case l15 => k_is)
    (case c15 => k_is)
    (case k15 => k_is)
    (case a16 => k_is)
    (case l16 => k_is)
    (case c16 => k_is)
    (case k16 => k_is)
    (case a17 => k_is)
    (case l17 => k_is)
    (case c17 => k_is)
    (case k17 => k_is)
    (case a18 => k_is)
    (case l18 => k_is)
    (case c18 => k_is)
    (case k18 => k_is)
    (case a19 => k_is)
    (case l19 => k_is)
    (case c19 => k_is)
    (case k19 => k_is)
    (case a20 => k_is)
    (case l20 => k_is)
    (case c20 => k_is)
    (case k20 => k_is)
    (case a21 => k_is)
    (case l21 => k_is)
    (case c21 => k_is)
    (case k21 => k_is)
    (case a22 => k_is)
    (case l22 => k_is)
    (case c22 => k_is)
    (case k22 => k_is)
    (case a23 => k_is)
    (case l23 => k_is)
    (case c23 => k_is)
    (case k23 => k_is)
    (case a24 => k_is)
    (case l24 => k_is)
    (case c24 => k_is)
    (case k24 => k_is)
    (case a25 => k_is)
    (case l25 => k_is)
    (case c25 => k_is)
    (case k25 => k_is)
    (case a26 => k_is)
    (case l26 => k_is)
    (case c26 => k_is)
    (case k26 => k_is)
    (case a27 => k_is)
    (case l27 => k_is)
    (case c27 => k_is)
    (case k27 => k_is)
    (case a28 => k_is)
    (case l28 => k_is)
    (case c28 => k_is)
    (case k28 => k_is)
    (case a29 => k_is)
    (case l29 => k_is)
    (case c29 => k_is)
    (case k29 => k_is)
    (case a30 => k_is)
    (case l30 => k_is)
    (case c30 => k_is)
    (case k30 => k_is)
    (case a31 => k_is)
    (case l31 => k_is)
    (case c31 => k_is)
    (case k31 => k_is)
    (case a32 => k_is)
    (case l32 => k_is)
    (case c32 => k_is)
    (case k32 => k_is)
    (case a33 => k_is)
    (case l33 => k_is)
    (case c33 => k_is)
    (case k33 => k_is)
    (case m0 => k_is)
    (case m1 => k_is)
    (case z0 => k_is)
    (case z1 => k_is)
    (case z2 => k_is)
    (case z3 => k_is)
    (case z4 => k_is)
    (case z5 => k_is)
    (case z6 => k_is)
    (case z7 => k_is)
    (case z8 => k_is)
    (case z9 => k_is)
    (case z10 => k_is)
    (case z11 => k_is)

