import PyProof.Rows.All
import Wide.All
import OpenK.AllK
import Wide.FinOn
import HandS.Base
import HandS.Call
import HandS.Comp
import HandS.Defaults
import HandS.EndBits
import HandS.Ends
import HandS.Exc
import HandS.ForMost
import HandS.Head0
import HandS.Head1
import HandS.Head2
import HandS.HeadEnd
import HandS.HeadHook1
import HandS.HeadHook2
import HandS.IsInst
import HandS.Iter
import HandS.More
import HandS.RaiseMore
import HandS.Style
import HandS.TupAny
import HandS.Wide
import HandS.Words
import HandS.WordsExc
import KE.KStateDown
import PySem.Challenge.RW_copyclerk_k32_whole_two_rows_of_answers
set_option autoImplicit false
set_option linter.all false
/-! PdCore: plain data D, memory Mem, a compact syntax, its evaluator. No Python here but its ways. -/
namespace PD
open PySem

/-- a text: its codes -/
abbrev T := List Nat
/-- the longest sequence -/
def SZ : Nat := 16777216

/-- data: tuples are values; lists, dicts, instances stand in the memory -/
inductive D where
  | non | bl (b : Bool) | int (i : Int) | str (x : T) | tup (ds : List D) | ref (n : Nat) | fn (k : Nat) | exc (c : Nat) (k : Option Int) | fro (ns : List Int)
  deriving Inhabited

inductive MO where
  | lst (ds : List D) | dct (tk : Bool) (kvs : List (D × D)) | ins (c : Nat) (fs : List (Nat × D))
  deriving Inhabited
abbrev Mem := List MO
abbrev Sg := List (Option D)

mutual
def D.beq : D → D → Bool
  | .non, .non => true
  | .bl a, .bl b => a == b
  | .int a, .int b => a == b
  | .str a, .str b => a == b
  | .tup a, .tup b => D.beqs a b
  | .ref a, .ref b => a == b
  | .fn a, .fn b => a == b
  | .exc a k, .exc b l => a == b && k == l
  | .fro a, .fro b => a == b
  | _, _ => false
def D.beqs : List D → List D → Bool
  | [], [] => true
  | a :: as, b :: bs => D.beq a b && D.beqs as bs
  | _, _ => false
end
mutual
theorem D.beq_iff : ∀ a b : D, D.beq a b = true ↔ a = b
  | .non, b => by cases b <;> simp [D.beq]
  | .bl x, b => by cases b <;> simp [D.beq]
  | .int x, b => by cases b <;> simp [D.beq]
  | .str x, b => by cases b <;> simp [D.beq]
  | .ref x, b => by cases b <;> simp [D.beq]
  | .fn x, b => by cases b <;> simp [D.beq]
  | .exc x k, b => by cases b <;> simp [D.beq]
  | .fro x, b => by cases b <;> simp [D.beq]
  | .tup x, b => by
    cases b with
    | tup y => simp [D.beq, D.beqs_iff x y]
    | _ => simp [D.beq]
theorem D.beqs_iff : ∀ a b : List D, D.beqs a b = true ↔ a = b
  | [], b => by cases b <;> simp [D.beqs]
  | x :: xs, b => by
    cases b with
    | nil => simp [D.beqs]
    | cons y ys => simp [D.beqs, D.beq_iff x y, D.beqs_iff xs ys]
end
instance : DecidableEq D := fun a b => if h : D.beq a b = true then .isTrue ((D.beq_iff a b).mp h) else .isFalse fun e => h ((D.beq_iff a b).mpr e)

/-! ### what refers, what is plain -/
mutual
def D.refs : D → List Nat
  | .ref n => [n]
  | .tup ds => D.refss ds
  | _ => []
def D.refss : List D → List Nat
  | [] => []
  | d :: ds => D.refs d ++ D.refss ds
end
mutual
def D.ren (f : Nat → Nat) : D → D
  | .ref n => .ref (f n)
  | .tup ds => .tup (D.rens f ds)
  | d => d
def D.rens (f : Nat → Nat) : List D → List D
  | [] => []
  | d :: ds => D.ren f d :: D.rens f ds
end
/-! no exception is held -/
mutual
def D.cool : D → Bool
  | .exc _ _ => false
  | .tup ds => D.cools ds
  | _ => true
def D.cools : List D → Bool
  | [] => true
  | d :: ds => D.cool d && D.cools ds
end
/-! plain data without truths, nested at most so deep: equal where they are the same -/
mutual
def D.clean (d : D) (k : Nat) : Bool := match d with
  | .non => true
  | .int _ => true
  | .str _ => true
  | .tup ds => match k with
    | 0 => false
    | k + 1 => D.cleans ds k
  | _ => false
def D.cleans (ds : List D) (k : Nat) : Bool := match ds with
  | [] => true
  | d :: ds => D.clean d k && D.cleans ds k
end
mutual
def D.py : D → PyData
  | .non => .none
  | .bl b => .bool b
  | .int i => .int i
  | .str x => .str ⟨x.toArray⟩
  | .tup ds => .tuple (D.pys ds)
  | _ => .none
def D.pys : List D → List PyData
  | [] => []
  | d :: ds => D.py d :: D.pys ds
end
/-! a datum seen with the lists that it refers to -/
mutual
def viewD (g : Nat → Option PyData) : D → Option PyData
  | .non => some .none
  | .bl b => some (.bool b)
  | .int i => some (.int i)
  | .str x => some (.str ⟨x.toArray⟩)
  | .tup ds => (viewDs g ds).map .tuple
  | .ref n => g n
  | _ => none
def viewDs (g : Nat → Option PyData) : List D → Option (List PyData)
  | [] => some []
  | d :: ds => match viewD g d, viewDs g ds with
    | some a, some as => some (a :: as)
    | _, _ => none
end
def view (M : Mem) : Nat → D → Option PyData
  | 0 => viewD fun _ => none
  | k + 1 => viewD fun n => match M[n]? with
    | some (.lst ds) => (viewDs (fun m => view M k (.ref m)) ds).map .list
    | _ => none
/-- a datum seen, where it can be -/
def viewF (M : Mem) (d : D) : Option PyData := if D.clean d 20 then some d.py else match view M 8 d with
  | some p => if p.depth ≤ 64 then some p else none
  | none => none
/-- == -/
def eqO (M : Mem) (x y : D) : Option Bool :=
  if D.clean x 20 && D.clean y 20 then some (decide (x = y))
  else match viewF M x, viewF M y with
    | some a, some b => some (PyData.eqv a b)
    | _, _ => none

/-! ### the memory's objects -/
def MO.ds : MO → List D
  | .lst ds => ds
  | .dct _ kvs => kvs.map (·.1) ++ kvs.map (·.2)
  | .ins _ fs => fs.map (·.2)
def MO.refs (o : MO) : List Nat := D.refss o.ds
def MO.ren (f : Nat → Nat) : MO → MO
  | .lst ds => .lst (D.rens f ds)
  | .dct t kvs => .dct t (kvs.map fun p => (D.ren f p.1, D.ren f p.2))
  | .ins c fs => .ins c (fs.map fun p => (p.1, D.ren f p.2))
def Mem.refs (M : Mem) : List Nat := M.flatMap MO.refs
def Sg.refs (σ : Sg) : List Nat := σ.flatMap fun o => match o with
  | some d => D.refs d
  | none => []
def Sg.ren (f : Nat → Nat) (σ : Sg) : Sg := σ.map fun o => o.map (D.ren f)
/-- what the numbers reach, each once, in the order of a walk -/
def reach (M : Mem) (m : Nat) : Nat → List Nat → List Nat → List Nat
  | 0, _, acc => acc
  | _ + 1, [], acc => acc
  | k + 1, n :: w, acc => if n < m ∨ n ∈ acc then reach M m k w acc else reach M m k ((match M[n]? with
    | some o => o.refs
    | none => []) ++ w) (acc ++ [n])
/-- numbers below m stay, others are told by their place -/
def renum (m : Nat) (acc : List Nat) (n : Nat) : Nat := if n < m then n else m + acc.idxOf n
def pickM (M : Mem) (acc : List Nat) : Mem := acc.map fun n => (M[n]?).getD (.lst [])
/-- all that is named is kept -/
def closed (m : Nat) (acc roots : List Nat) (K : Mem) : Bool := (roots ++ Mem.refs K).all fun n => decide (n < m) || acc.contains n
/-- the numbers from m on that roots and the first m objects reach -/
def kept (m : Nat) (roots : List Nat) (M : Mem) : List Nat := reach M m 1000 (roots ++ Mem.refs (M.take m)) []
/-- objects from m on that nothing names go; none where the look is not through -/
def gc (m : Nat) (roots : List Nat) (M : Mem) : Option (List Nat) :=
  let acc := kept m roots M
  if closed m acc roots (M.take m ++ pickM M acc) && acc.all (fun n => decide (n < M.length)) then some acc else none
def gcMem (m : Nat) (acc : List Nat) (M : Mem) : Mem := (M.take m ++ pickM M acc).map (MO.ren (renum m acc))

/-! ### results -/
inductive Rs (α : Type) where
  | ok (a : α) (M : Mem) | exc (c : Nat) (k : Option Int) (M : Mem) | bad
def Rs.bind {α β : Type} (r : Rs α) (f : α → Mem → Rs β) : Rs β := match r with
  | .ok a M => f a M
  | .exc c k M => .exc c k M
  | .bad => .bad
def Rs.ofO {α : Type} (o : Option α) (M : Mem) : Rs α := match o with
  | some a => .ok a M
  | none => .bad
inductive Fl where
  | next (σ : Sg) | ret (d : D) | brk (σ : Sg) | cont (σ : Sg)

/-! ### operations -/
inductive Bop where | add | sub | mul | fdiv | mod | pow | band | bor | tmul deriving DecidableEq
inductive Cop where | eq | ne | lt | le | gt | ge | inn | nin | geT deriving DecidableEq
def mulOk (i j : Int) : Bool := decide (i.natAbs.log2 + j.natAbs.log2 < 1000000) || decide (i.natAbs < 2 ^ 63) || decide (j.natAbs < 2 ^ 63)
def fdivOk (j : Int) : Bool := decide (0 < j) && decide (j.natAbs.log2 < 9000)
def powOk (i j : Int) : Bool := decide (0 ≤ j) && decide (j ≤ 1000) && decide (i.natAbs < 2 ^ 63)
def seqOf (M : Mem) (n : Nat) : Option (List D) := match M[n]? with
  | some (.lst ds) => some ds
  | _ => none
def rep {α : Type} (xs : List α) (k : Int) : List α := (List.replicate k.toNat xs).flatten
def repOk (n : Nat) (k : Int) : Bool := decide (-(2 ^ 62) < k) && decide (k < 2 ^ 62) && decide (n * k.toNat ≤ SZ)
def binD (op : Bop) (x y : D) (M : Mem) : Rs D := match op, x, y with
  | .add, .int i, .int j => .ok (.int (i + j)) M
  | .sub, .int i, .int j => .ok (.int (i - j)) M
  | .mul, .int i, .int j => if mulOk i j then .ok (.int (i * j)) M else .bad
  | .fdiv, .int i, .int j => if fdivOk j then .ok (.int (i / j)) M else .bad
  | .mod, .int i, .int j => if 0 < j then .ok (.int (i % j)) M else .bad
  | .pow, .int i, .int j => if powOk i j then .ok (.int (i ^ j.toNat)) M else .bad
  | .band, .int i, .int j => .ok (.int (Builtin.bitAnd i j)) M
  | .bor, .int i, .int j => .ok (.int (Builtin.bitOr i j)) M
  | .add, .str a, .str b => if a.length + b.length ≤ SZ then .ok (.str (a ++ b)) M else .bad
  | .add, .tup a, .tup b => if a.length + b.length ≤ SZ then .ok (.tup (a ++ b)) M else .bad
  | .add, .ref m, .ref n => match seqOf M m, seqOf M n with
    | some a, some b => if a.length + b.length ≤ SZ then .ok (.ref M.length) (M ++ [.lst (a ++ b)]) else .bad
    | _, _ => .bad
  | .mul, .str a, .int k => if repOk a.length k then .ok (.str (rep a k)) M else .bad
  | .tmul, .tup a, .int k => if k = 1 then .ok (.tup a) M else if k = 0 then .ok (.tup []) M else .bad
  | .mul, .ref m, .int k => match seqOf M m with
    | some a => if repOk a.length k then .ok (.ref M.length) (M ++ [.lst (rep a k)]) else .bad
    | none => .bad
  | _, _, _ => .bad
/-- textsD by their codes -/
def leT (a b : T) : Bool := decide (a ≤ b)
def ltT (a b : T) : Bool := decide (a < b)
/-! tuples of alike data, part by part -/
mutual
def ltD (x y : D) : Option Bool := match x, y with
  | .int i, .int j => some (decide (i < j))
  | .str a, .str b => some (ltT a b)
  | .tup a, .tup b => ltDs a b
  | _, _ => none
def ltDs (xs ys : List D) : Option Bool := match xs, ys with
  | [], [] => some false
  | [], _ :: _ => some true
  | _ :: _, [] => some false
  | x :: xs, y :: ys => if x = y then ltDs xs ys else ltD x y
end
/-- one of the items is it -/
def anyEq (M : Mem) (x : D) : List D → Option Bool
  | [] => if (viewF M x).isSome then some false else none
  | y :: ys => match eqO M y x, anyEq M x ys with
    | some b, some c => some (b || c)
    | _, _ => none
def lookD (k : D) : List (D × D) → Option D
  | [] => none
  | (a, v) :: r => if a = k then some v else lookD k r
/-- what may be a key -/
def keyOf (tk : Bool) (k : D) : Bool := match tk, k with
  | false, .int _ => true
  | false, .str _ => true
  | true, .tup ds => D.cleans ds 6
  | _, _ => false
def inD (x y : D) (M : Mem) : Option Bool := match y with
  | .str b => (match x with
    | .str [c] => some (b.contains c)
    | _ => none)
  | .tup ds => anyEq M x ds
  | .ref n => (match M[n]? with
    | some (.lst ds) => anyEq M x ds
    | some (.dct tk kvs) => if keyOf tk x then some (lookD x kvs).isSome else none
    | _ => none)
  | _ => none
def cmpD (op : Cop) (x y : D) (M : Mem) : Option Bool := match op with
  | .eq => eqO M x y
  | .ne => (eqO M x y).map not
  | .inn => inD x y M
  | .nin => (inD x y M).map not
  | .lt => (match x, y with
    | .int i, .int j => some (decide (i < j))
    | .str a, .str b => some (ltT a b)
    | _, _ => none)
  | .le => (match x, y with
    | .int i, .int j => some (decide (i ≤ j))
    | .str a, .str b => some (leT a b)
    | _, _ => none)
  | .gt => (match x, y with
    | .int i, .int j => some (decide (j < i))
    | _, _ => none)
  | .ge => (match x, y with
    | .int i, .int j => some (decide (j ≤ i))
    | _, _ => none)
  | .geT => (match x, y with
    | .tup a, .tup b => if D.cleans a 20 && D.cleans b 20 then (ltDs a b).map not else none
    | _, _ => none)
/-- a place, counted from behind below 0 -/
def ixD (n : Nat) (i : Int) : Option Nat := if 0 ≤ i then (if i < n then some i.toNat else none) else if -(n : Int) ≤ i then some (i + n).toNat else none
def atD {α : Type} (xs : List α) (i : Int) : Option α := (ixD xs.length i).bind fun j => xs[j]?
def idxD (x i : D) (M : Mem) : Rs D := match x, i with
  | .tup ds, .int k => Rs.ofO (atD ds k) M
  | .str a, .int k => if a.length ≤ SZ then Rs.ofO ((atD a k).map fun c => .str [c]) M else .bad
  | .fro ns, .int k => Rs.ofO ((atD ns k).map .int) M
  | .ref n, k => (match M[n]? with
    | some (.lst ds) => (match k with
      | .int k => Rs.ofO (atD ds k) M
      | _ => .bad)
    | some (.dct tk kvs) => if keyOf tk k then Rs.ofO (lookD k kvs) M else .bad
    | _ => .bad)
  | _, _ => .bad
/-- a slice's end -/
def clip (n : Nat) (d : Nat) : Option Int → Nat
  | none => d
  | some i => if i < 0 then (i + n).toNat else min i.toNat n
def cut {α : Type} (xs : List α) (lo hi : Option Int) : List α := (xs.drop (clip xs.length 0 lo)).take (clip xs.length xs.length hi - clip xs.length 0 lo)
def partO : Option D → Option (Option Int)
  | none => some none
  | some (.int i) => some (some i)
  | some _ => none
def slcD (x : D) (lo hi : Option D) (M : Mem) : Rs D := match partO lo, partO hi with
  | some lo, some hi => (match x with
    | .str a => if a.length ≤ SZ then .ok (.str (cut a lo hi)) M else .bad
    | .tup ds => .ok (.tup (cut ds lo hi)) M
    | .ref n => (match seqOf M n with
      | some ds => .ok (.ref M.length) (M ++ [.lst (cut ds lo hi)])
      | none => .bad)
    | .fro ns => .ok (.ref M.length) (M ++ [.lst ((cut ns lo hi).map .int)])
    | _ => .bad)
  | _, _ => .bad
/-- xs[::step], step 1 or -1 -/
def stepD (x s : D) (M : Mem) : Rs D := match x, s with
  | .ref n, .int i => (match seqOf M n with
    | some ds => if i = -1 then .ok (.ref M.length) (M ++ [.lst ds.reverse]) else if i = 1 then .ok (.ref M.length) (M ++ [.lst ds]) else .bad
    | none => .bad)
  | _, _ => .bad
def putD (k v : D) (l : List (D × D)) : List (D × D) := if l.any (fun p => decide (p.1 = k)) then l.map fun p => if p.1 = k then (p.1, v) else p else l ++ [(k, v)]
def setD (o i v : D) (M : Mem) : Rs Unit := match o with
  | .ref n => (match M[n]? with
    | some (.lst ds) => (match i with
      | .int k => (match ixD ds.length k with
        | some j => .ok () (M.set n (.lst (ds.set j v)))
        | none => .bad)
      | _ => .bad)
    | some (.dct tk kvs) => if keyOf tk i && decide (kvs.length < SZ) then .ok () (M.set n (.dct tk (putD i v kvs))) else .bad
    | _ => .bad)
  | _ => .bad
/-! fields by number -/
def lookF (f : Nat) : List (Nat × D) → Option D
  | [] => none
  | (g, v) :: r => if g = f then some v else lookF f r
def putF (f : Nat) (v : D) : List (Nat × D) → List (Nat × D)
  | [] => [(f, v)]
  | (g, u) :: r => if g = f then (g, v) :: r else (g, u) :: putF f v r
def fldD (x : D) (f : Nat) (M : Mem) : Rs D := match x with
  | .ref n => (match M[n]? with
    | some (.ins _ fs) => Rs.ofO (lookF f fs) M
    | _ => .bad)
  | _ => .bad
def setFD (x : D) (f : Nat) (v : D) (M : Mem) : Rs Unit := match x with
  | .ref n => (match M[n]? with
    | some (.ins c fs) => if fs.length < 60 then .ok () (M.set n (.ins c (putF f v fs))) else .bad
    | _ => .bad)
  | _ => .bad

/-! ### built-ins -/
inductive Blt where | len | any | all | int | list | max | min | sorted | str | sum | tuple | dictT | dictK | lenSet deriving DecidableEq
inductive Bm where | append | extend | pop | clear | count | index | items | keys | get | join | split | partition | upper | lower | replace | startswith | update deriving DecidableEq
inductive Ty where | int | str | bool | tuple | list deriving DecidableEq
def seqD (M : Mem) : D → Option (List D)
  | .tup ds => some ds
  | .fro ns => some (ns.map .int)
  | .ref n => seqOf M n
  | _ => none
def boolsD : List D → Option (List Bool)
  | [] => some []
  | .bl b :: r => (boolsD r).map (b :: ·)
  | _ => none
def intsD : List D → Option (List Int)
  | [] => some []
  | .int b :: r => (intsD r).map (b :: ·)
  | _ => none
def textsD : List D → Option (List T)
  | [] => some []
  | .str b :: r => (textsD r).map (b :: ·)
  | _ => none
/-- a whole number's figures -/
def intT (i : Int) : T := (toString i).toList.map Char.toNat
def joinT (s : T) : List T → T
  | [] => []
  | [x] => x
  | x :: y :: r => x ++ s ++ joinT s (y :: r)
def joinLen (s : T) (xs : List T) : Nat := (xs.map List.length).sum + xs.length * s.length
def preT (s x : T) : Bool := x.take s.length == s
/-- parted at each s (which has signs): how many signs to pass, what was read so far -/
def spl (s : T) : Nat → T → T → List T
  | _, acc, [] => [acc]
  | k + 1, acc, _ :: r => spl s k acc r
  | 0, acc, c :: r => if preT s (c :: r) then acc :: spl s (s.length - 1) [] r else spl s 0 (acc ++ [c]) r
def splitT (s x : T) : List T := spl s 0 [] x
def par (s : T) : T → T → Option (T × T)
  | acc, [] => if preT s [] then some (acc, []) else none
  | acc, c :: r => if preT s (c :: r) then some (acc, (c :: r).drop s.length) else par s (acc ++ [c]) r
def partT (s x : T) : T × T × T := match par s [] x with
  | some (a, b) => (a, s, b)
  | none => (x, [], [])
def upC (c : Nat) : Nat := if 97 ≤ c ∧ c ≤ 122 then c - 32 else c
def loC (c : Nat) : Nat := if 65 ≤ c ∧ c ≤ 90 then c + 32 else c
def allAscii (x : T) : Bool := x.all fun c => decide (c < 128)
/-- int(text) -/
def figs : T → Option Nat
  | x => x.foldl (fun a c => match a with
    | some n => if 48 ≤ c ∧ c ≤ 57 then some (n * 10 + (c - 48)) else none
    | none => none) (some 0)
def intText (x : T) : Option Int := match x with
  | [] => none
  | 45 :: r => if r = [] then none else (figs r).map fun n => -(n : Int)
  | x => (figs x).map fun n => (n : Int)
def dedup : List D → List D → List D
  | acc, [] => acc
  | acc, x :: r => if x ∈ acc then dedup acc r else dedup (acc ++ [x]) r
/-- pairs as a dict's entries, later ones win -/
def mergeD : List D → List (D × D) → Option (List (D × D))
  | [], acc => some acc
  | .tup [k, v] :: r, acc => mergeD r (putD k v acc)
  | _, _ => none
def ltKey (x y : D) : Bool := (match x, y with
  | .str a, .str b => some (ltT a b)
  | .int a, .int b => some (decide (a < b))
  | .tup a, .tup b => ltDs a b
  | _, _ => none) = some true
def insD (x : D) : List D → List D
  | [] => [x]
  | y :: r => if ltKey y x || !ltKey x y then y :: insD x r else x :: y :: r
def sortD (xs : List D) : List D := xs.foldl (fun a x => insD x a) []
/-- all pairs of items may be compared -/
def sortable (xs : List D) : Bool := xs.all fun x => D.clean x 12 && xs.all fun y => match x, y with
  | .str _, .str _ => true
  | .int _, .int _ => true
  | .tup a, .tup b => (ltDs a b).isSome
  | _, _ => false
def bltD (b : Blt) (args : List D) (M : Mem) : Rs D := match b, args with
  | .len, [.str x] => if x.length ≤ SZ then .ok (.int x.length) M else .bad
  | .len, [.tup ds] => .ok (.int ds.length) M
  | .len, [.fro ns] => .ok (.int ns.length) M
  | .len, [.ref n] => (match M[n]? with
    | some (.lst ds) => .ok (.int ds.length) M
    | some (.dct _ kvs) => .ok (.int kvs.length) M
    | _ => .bad)
  | .any, [.ref n] => (match (seqOf M n).bind boolsD with
    | some bs => .ok (.bl (bs.any id)) M
    | none => .bad)
  | .all, [.ref n] => (match (seqOf M n).bind boolsD with
    | some bs => .ok (.bl (bs.all id)) M
    | none => .bad)
  | .int, [.bl b] => .ok (.int (if b then 1 else 0)) M
  | .int, [.int i] => .ok (.int i) M
  | .int, [.str x] => if x.length ≤ 640 then Rs.ofO ((intText x).map .int) M else .bad
  | .list, [d] => (match d with
    | .str x => if x.length ≤ SZ then .ok (.ref M.length) (M ++ [.lst (x.map fun c => .str [c])]) else .bad
    | d => (match seqD M d with
      | some ds => .ok (.ref M.length) (M ++ [.lst ds])
      | none => .bad))
  | .tuple, [d] => (match seqD M d with
    | some ds => .ok (.tup ds) M
    | none => .bad)
  | .max, [.int i, .int j] => .ok (.int (if i < j then j else i)) M
  | .min, [.int i, .int j] => .ok (.int (if j < i then j else i)) M
  | .str, [.int i] => if i.natAbs.log2 < 1920 then .ok (.str (intT i)) M else .bad
  | .str, [.str x] => .ok (.str x) M
  | .str, [.bl b] => .ok (.str (if b then [84, 114, 117, 101] else [70, 97, 108, 115, 101])) M
  | .sum, [.ref n] => (match (seqOf M n).bind intsD with
    | some is => .ok (.int is.sum) M
    | none => .bad)
  | .sum, [.fro ns] => .ok (.int ns.sum) M
  | .sorted, [d] => (match d with
    | .ref n => (match M[n]? with
      | some (.dct _ kvs) => if sortable (kvs.map (·.1)) then .ok (.ref M.length) (M ++ [.lst (sortD (kvs.map (·.1)))]) else .bad
      | some (.lst ds) => if sortable ds then .ok (.ref M.length) (M ++ [.lst (sortD ds)]) else .bad
      | _ => .bad)
    | .tup ds => if sortable ds then .ok (.ref M.length) (M ++ [.lst (sortD ds)]) else .bad
    | _ => .bad)
  | .dictT, [d] => (match (seqD M d).bind fun ds => mergeD ds [] with
    | some kvs => if (kvs.all fun p => keyOf true p.1) then .ok (.ref M.length) (M ++ [.dct true kvs]) else .bad
    | none => .bad)
  | .dictK, [d] => (match (seqD M d).bind fun ds => mergeD ds [] with
    | some kvs => if (kvs.all fun p => keyOf false p.1) then .ok (.ref M.length) (M ++ [.dct false kvs]) else .bad
    | none => .bad)
  | .lenSet, [d] => (match seqD M d with
    | some ds => if (ds.all fun d => D.clean d 6) then .ok (.int (dedup [] ds).length) M else .bad
    | none => .bad)
  | _, _ => .bad
def countEq (M : Mem) (x : D) : List D → Option Nat
  | [] => if (viewF M x).isSome then some 0 else none
  | y :: ys => match eqO M y x, countEq M x ys with
    | some b, some n => some (if b then n + 1 else n)
    | _, _ => none
def firstEq (M : Mem) (x : D) : List D → Nat
  | [] => 0
  | y :: ys => if eqO M y x = some true then 0 else firstEq M x ys + 1
def indexEq (M : Mem) (x : D) (ds : List D) : Option Nat := if anyEq M x ds = some true then some (firstEq M x ds) else none
def dropD (k : D) (l : List (D × D)) : List (D × D) := l.filter fun p => decide (p.1 ≠ k)
def bmD (m : Bm) (x : D) (args : List D) (M : Mem) : Rs D := match m, x, args with
  | .append, .ref n, [v] => (match M[n]? with
    | some (.lst ds) => if ds.length < SZ then .ok .non (M.set n (.lst (ds ++ [v]))) else .bad
    | _ => .bad)
  | .extend, .ref n, [.ref j] => (match M[n]? with
    | some (.lst ds) => (match seqOf M j with
      | some es => if ds.length + es.length ≤ SZ && decide (j ≠ n) then .ok .non (M.set n (.lst (ds ++ es))) else .bad
      | none => .bad)
    | _ => .bad)
  | .pop, .ref n, [k] => (match M[n]? with
    | some (.lst ds) => (match k with
      | .int k => (match ixD ds.length k with
        | some j => (match ds[j]? with
          | some d => .ok d (M.set n (.lst (ds.eraseIdx j)))
          | none => .bad)
        | none => .bad)
      | _ => .bad)
    | some (.dct tk kvs) => if keyOf tk k then (match lookD k kvs with
      | some v => .ok v (M.set n (.dct tk (dropD k kvs)))
      | none => .bad) else .bad
    | _ => .bad)
  | .clear, .ref n, [] => (match M[n]? with
    | some (.lst _) => .ok .non (M.set n (.lst []))
    | _ => .bad)
  | .count, x, [v] => (match seqD M x with
    | some ds => (match countEq M v ds with
      | some n => .ok (.int n) M
      | none => .bad)
    | none => .bad)
  | .index, x, [v] => (match seqD M x with
    | some ds => (match indexEq M v ds with
      | some n => .ok (.int n) M
      | none => .bad)
    | none => .bad)
  | .get, .ref n, [k] => (match M[n]? with
    | some (.dct tk kvs) => if keyOf tk k then .ok ((lookD k kvs).getD .non) M else .bad
    | _ => .bad)
  | .get, .ref n, [k, v] => (match M[n]? with
    | some (.dct tk kvs) => if keyOf tk k then .ok ((lookD k kvs).getD v) M else .bad
    | _ => .bad)
  | .items, .ref n, [] => (match M[n]? with
    | some (.dct _ kvs) => .ok (.ref M.length) (M ++ [.lst (kvs.map fun p => .tup [p.1, p.2])])
    | _ => .bad)
  | .keys, .ref n, [] => (match M[n]? with
    | some (.dct _ kvs) => .ok (.ref M.length) (M ++ [.lst (kvs.map (·.1))])
    | _ => .bad)
  | .join, .str s, [d] => (match (seqD M d).bind textsD with
    | some xs => if joinLen s xs ≤ SZ then .ok (.str (joinT s xs)) M else .bad
    | none => .bad)
  | .split, .str x, [.str s] => if s ≠ [] ∧ x.length + 2 ≤ SZ then .ok (.ref M.length) (M ++ [.lst ((splitT s x).map .str)]) else .bad
  | .partition, .str x, [.str s] => if s ≠ [] ∧ x.length ≤ SZ then .ok (.tup [.str (partT s x).1, .str (partT s x).2.1, .str (partT s x).2.2]) M else .bad
  | .upper, .str x, [] => if allAscii x && decide (x.length ≤ 100000) then .ok (.str (x.map upC)) M else .bad
  | .lower, .str x, [] => if allAscii x && decide (x.length ≤ 100000) then .ok (.str (x.map loC)) M else .bad
  | .startswith, .str x, [.str s] => .ok (.bl (preT s x)) M
  | .replace, .str x, [.str s, .str t] => if s ≠ [] ∧ x.length + 2 ≤ SZ ∧ joinLen t (splitT s x) ≤ SZ then .ok (.str (joinT t (splitT s x))) M else .bad
  | .update, .ref n, [.ref j] => (match M[n]?, M[j]? with
    | some (.dct false kvs), some (.dct false more) => if decide (kvs.length + more.length ≤ SZ) && decide (j ≠ n) then .ok .non (M.set n (.dct false (more.foldl (fun a p => putD p.1 p.2 a) kvs))) else .bad
    | _, _ => .bad)
  | _, _, _ => .bad
/-- a receiver's kind -/
def kindD (x : D) (M : Mem) : Nat := match x with
  | .str _ => 1
  | .tup _ => 2
  | .fro _ => 3
  | .ref n => (match M[n]? with
    | some (.lst _) => 3
    | some (.dct false _) => 4
    | some (.dct true _) => 5
    | _ => 0)
  | _ => 0
/-- which kinds have the method (those that are shown) -/
def bmOk : Bm → Nat → Bool
  | .append, 3 => true | .extend, 3 => true | .clear, 3 => true | .pop, 3 => true | .pop, 4 => true | .count, 3 => true | .index, 3 => true
  | .get, 4 => true | .keys, 4 => true | .update, 4 => true
  | .join, 1 => true | .split, 1 => true | .partition, 1 => true | .upper, 1 => true | .lower, 1 => true | .replace, 1 => true | .startswith, 1 => true
  | _, _ => false
def isTy (x : D) (t : Ty) (M : Mem) : Option Bool := match x with
  | .non => some false
  | .bl _ => some (t == .bool || t == .int)
  | .int _ => some (t == .int)
  | .str _ => some (t == .str)
  | .tup _ => some (t == .tuple)
  | .ref n => (match M[n]? with
    | some (.lst _) => some (t == .list)
    | _ => none)
  | _ => none

/-! ### syntax -/
mutual
inductive CE where
  | var (i : Nat) | int (k : Int) | str (x : T) | bl (b : Bool) | non | cst (k : Nat) | fnv (k : Nat)
  | tup (es : CEs) | lst (es : CEs) | dct (tk : Bool) (ks vs : CEs)
  | bin (op : Bop) (a b : CE) | neg (a : CE) | cmp (op : Cop) (a b : CE) | isN (a : CE) | notN (a : CE) | chain (op op' : Cop) (a b c : CE)
  | and (es : CEs) | or (es : CEs) | not (a : CE) | ife (c a b : CE)
  | idx (a i : CE) | slc (a : CE) (lo hi : CO) | stp (a s : CE) | fld (a : CE) (f : Nat)
  | call (f : Nat) (es : CEs) | callK (f : Nat) (es : CEs) (ks : List Nat) (vs : CEs) | callV (i : Nat) (es : CEs) | meth (a : CE) (m : Nat) (es : CEs) | new (c : Nat) (es : CEs)
  | blt (b : Blt) (es : CEs) | bm (m : Bm) (a : CE) (es : CEs) | lrng (es : CEs) | litems (a : CE) | lenS (a : CE)
  | comp (e : CE) (g : CG) (src : CI) (cond : CO) (own : List Nat)
  | isTy (a : CE) (t : Ty) | isCls (a : CE) (cs : List Nat) | excNum (i : Nat)
inductive CEs where | nil | cons (e : CE) (es : CEs)
inductive CO where | no | so (e : CE)
inductive CG where | nm (i : Nat) | tup (gs : CGs) | sub (a i : CE) | fld (a : CE) (f : Nat)
inductive CGs where | nil | cons (g : CG) (gs : CGs)
inductive CI where | seq (e : CE) | rng (es : CEs) | enum (e : CE) | zip (a b : CE) | items (e : CE)
end
mutual
inductive CS where
  | asg (g : CG) (e : CE) | par (i j : Nat) (a b : CE) | aug (i : Nat) (op : Bop) (e : CE) | expr (e : CE) | ret (e : CE) | retN
  | ife (c : CE) (s t : CSs) | for (g : CG) (src : CI) (body : CSs) | while (c : CE) (body : CSs)
  | raise (c : Nat) (es : CEs) | try (body : CSs) (c : Nat) (i : Nat) (suite : CSs) | brk | cont
  | base (es : CEs)
  | kill (is : List Nat)
inductive CSs where | nil | cons (s : CS) (ss : CSs)
end

/-- a def: how many parameters, how many slots, its defaults (closed data), its body -/
structure Fn where
  np : Nat
  ns : Nat
  dfl : List D
  body : CSs
/-- a class: how exceptions of it are made, the numbers of its methods' defs -/
structure Cls where
  init : Option Nat
  meths : List (Nat × Nat)
structure Prg where
  fn : Nat → Option Fn
  cls : Nat → Option Cls
  cst : Nat → Option D
  /-- whether the first exception class is the second, or under it -/
  sub : Nat → Nat → Bool
  /-- an exception's number, by its class and the arguments -/
  made : Nat → List D → Option (Option Int)
  /-- how deep a def calls -/
  lv : Nat → Nat

section
variable (P : Prg) (cl : Nat → List D → Mem → Rs D)
def wipe (σ : Sg) : List Nat → Sg
  | [] => σ
  | v :: vs => (wipe σ vs).set v none
def guardOk (g : Option (Nat × List D)) (M : Mem) : Bool := match g with
  | none => true
  | some (n, ds) => match seqOf M n with
    | some es => decide (es = ds)
    | none => false
/-- behind a turn -/
def gcSt (m : Nat) (σ : Sg) (M : Mem) : Sg × Mem := match gc m σ.refs M with
  | some acc => (σ.ren (renum m acc), gcMem m acc M)
  | none => (σ, M)
/-- a comprehension's turns: the list made so far stands at n -/
def Rs.bindN {α β : Type} (r : Rs α) (f : α → Mem → Rs β) : Rs β := match r with
  | .ok a M => f a M
  | _ => .bad
def compL (tg : D → Sg → Mem → Rs Sg) (tt : Sg → Mem → Rs Bool) (te : Sg → Mem → Rs D) (gd : Option (Nat × List D)) (σ : Sg) (n : Nat) : List D → Mem → Rs Unit
  | [], M => if guardOk gd M then .ok () M else .bad
  | x :: xs, M => if guardOk gd M then
      (tg x σ M).bindN fun σ1 M1 => (tt σ1 M1).bindN fun b M2 => if b then (te σ1 M2).bindN fun d M3 => (match M3[n]? with
          | some (.lst acc) => if acc.length < SZ then compL tg tt te gd σ n xs (M3.set n (.lst (acc ++ [d]))) else .bad
          | _ => .bad)
        else compL tg tt te gd σ n xs M2
      else .bad
def defaults (f : Nat) (ds : List D) : Option (List D) := match P.fn f with
  | some F => if ds.length ≤ F.np ∧ F.np ≤ ds.length + F.dfl.length then some (ds ++ F.dfl.drop (ds.length + F.dfl.length - F.np)) else none
  | none => none
def callD (f : Nat) (ds : List D) (M : Mem) : Rs D := match defaults P f ds with
  | some es => cl f es M
  | none => .bad
/-- a new instance -/
def newD (c : Nat) (ds : List D) (M : Mem) : Rs D := match P.cls c with
  | some ⟨some f, _⟩ => (callD P cl f (.ref M.length :: ds) (M ++ [.ins c []])).bind fun v M2 => if v = .non then .ok (.ref M.length) M2 else .bad
  | _ => .bad
def rngItems (ds : List D) : Option (List D) := match ds with
  | [.int n] => if n ≤ (SZ : Int) ∧ -(2 ^ 62) < n then some ((List.range n.toNat).map fun i : Nat => D.int (i : Int)) else none
  | [.int a, .int n] => if n ≤ (SZ : Int) ∧ -(2 ^ 62) < n ∧ -(2 ^ 62) < a ∧ a ≤ (SZ : Int) then some ((List.range (n - a).toNat).map fun i : Nat => D.int (a + (i : Int))) else none
  | _ => none
def itemsOf (M : Mem) (d : D) : Rs (List D × Option (Nat × List D)) := match d with
  | .tup ds => .ok (ds, none) M
  | .fro ns => .ok (ns.map .int, none) M
  | .str x => if x.length ≤ SZ then .ok (x.map fun c => .str [c], none) M else .bad
  | .ref n => (match seqOf M n with
    | some ds => .ok (ds, some (n, ds)) M
    | none => .bad)
  | _ => .bad
def enumF : Nat → List D → List D
  | _, [] => []
  | i, d :: ds => .tup [.int i, d] :: enumF (i + 1) ds
def callKArgs (np : Nat) (ds : List D) (ks : List Nat) (vs : List D) (dfl : List D) : Option (List D) :=
  (List.range np).foldr (fun i acc => match acc with
    | none => none
    | some r => match (if i < ds.length then ds[i]? else match (ks.zip vs).lookup i with
        | some v => some v
        | none => dfl[i + dfl.length - np]?) with
      | some d => some (d :: r)
      | none => none) (some [])
mutual
def evE : CE → Sg → Mem → Rs D
  | .var i, σ, M => (match σ[i]? with
    | some (some d) => .ok d M
    | _ => .bad)
  | .int k, _, M => .ok (.int k) M
  | .str x, _, M => .ok (.str x) M
  | .bl b, _, M => .ok (.bl b) M
  | .non, _, M => .ok .non M
  | .cst k, _, M => Rs.ofO (P.cst k) M
  | .fnv k, _, M => .ok (.fn k) M
  | .tup es, σ, M => (evEs es σ M).bind fun ds M => .ok (.tup ds) M
  | .lst es, σ, M => (evEs es σ M).bind fun ds M => .ok (.ref M.length) (M ++ [.lst ds])
  | .dct tk ks vs, σ, M => (evEs ks σ M).bind fun ds M => (evEs vs σ M).bind fun es M =>
      if (ds.all fun d => keyOf tk d) then .ok (.ref M.length) (M ++ [.dct tk ((ds.zip es).foldl (fun a p => putD p.1 p.2 a) [])]) else .bad
  | .bin op a b, σ, M => (evE a σ M).bind fun x M => (evE b σ M).bind fun y M => binD op x y M
  | .neg a, σ, M => (evE a σ M).bind fun x M => (match x with
    | .int i => .ok (.int (-i)) M
    | _ => .bad)
  | .cmp op a b, σ, M => (evE a σ M).bind fun x M => (evE b σ M).bind fun y M => Rs.ofO ((cmpD op x y M).map .bl) M
  | .isN a, σ, M => (evE a σ M).bind fun x M => .ok (.bl (decide (x = .non))) M
  | .notN a, σ, M => (evE a σ M).bind fun x M => .ok (.bl (!decide (x = .non))) M
  | .chain op op' a b c, σ, M => (evE a σ M).bind fun x M => (evE b σ M).bind fun y M => (match cmpD op x y M with
    | some true => (evE c σ M).bind fun z M => Rs.ofO ((cmpD op' y z M).map .bl) M
    | some false => .ok (.bl false) M
    | none => .bad)
  | .and es, σ, M => evAnd es σ M
  | .or es, σ, M => evOr es σ M
  | .not a, σ, M => (evE a σ M).bind fun x M => (match x with
    | .bl b => .ok (.bl (!b)) M
    | _ => .bad)
  | .ife c a b, σ, M => (evE c σ M).bind fun x M => (match x with
    | .bl true => evE a σ M
    | .bl false => evE b σ M
    | _ => .bad)
  | .idx a i, σ, M => (evE a σ M).bind fun x M => (evE i σ M).bind fun y M => idxD x y M
  | .slc a lo hi, σ, M => (evE a σ M).bind fun x M => (evO lo σ M).bind fun l M => (evO hi σ M).bind fun h M => slcD x (l.map .int) (h.map .int) M
  | .stp a s, σ, M => (evE a σ M).bind fun x M => (evE s σ M).bind fun y M => stepD x y M
  | .fld a f, σ, M => (evE a σ M).bind fun x M => fldD x f M
  | .call f es, σ, M => (evEs es σ M).bind fun ds M => callD P cl f ds M
  | .callK f es ks vs, σ, M => (evEs es σ M).bind fun ds M => (evEs vs σ M).bind fun ws M => (match P.fn f with
    | some F => (match callKArgs F.np ds ks ws F.dfl with
      | some ds => cl f ds M
      | none => .bad)
    | none => .bad)
  | .callV i es, σ, M => (match σ[i]? with
    | some (some (.fn k)) => if (P.fn k).isSome then (evEs es σ M).bind fun ds M => callD P cl k ds M else .bad
    | _ => .bad)
  | .meth a m es, σ, M => (evE a σ M).bind fun x M => (match x with
    | .ref n => (match M[n]? with
      | some (.ins c _) => (match P.cls c with
        | some C => (match C.meths.lookup m with
          | some f => (evEs es σ M).bind fun ds M => callD P cl f (x :: ds) M
          | none => .bad)
        | none => .bad)
      | _ => .bad)
    | _ => .bad)
  | .new c es, σ, M => (evEs es σ M).bind fun ds M => newD P cl c ds M
  | .blt b es, σ, M => (evEs es σ M).bind fun ds M => bltD b ds M
  | .bm m a es, σ, M => (evE a σ M).bind fun x M1 => if bmOk m (kindD x M1) then (evEs es σ M1).bind fun ds M => if kindD x M = kindD x M1 then bmD m x ds M else .bad else .bad
  | .lrng es, σ, M => (evEs es σ M).bind fun ds M => (match rngItems ds with
    | some is => .ok (.ref M.length) (M ++ [.lst is])
    | none => .bad)
  | .litems a, σ, M => (evE a σ M).bind fun x M => bmD .items x [] M
  | .lenS a, σ, M => (evE a σ M).bind fun x M => bltD .lenSet [x] M
  | .comp e g src cond own, σ, M => (evI src σ M).bind fun it M => (compL (asG g) (fun σ M => evC cond σ M) (evE e) it.2 (wipe σ own) M.length it.1 (M ++ [.lst []])).bind fun _ M2 => .ok (.ref M.length) M2
  | .isTy a t, σ, M => (evE a σ M).bind fun x M => Rs.ofO ((PD.isTy x t M).map .bl) M
  | .isCls a cs, σ, M => (evE a σ M).bind fun x M => (match x with
    | .exc c _ => .ok (.bl (cs.any fun c' => P.sub c c')) M
    | _ => .bad)
  | .excNum i, σ, M => (match σ[i]? with
    | some (some (.exc _ (some k))) => .ok (.int k) M
    | _ => .bad)
def evEs : CEs → Sg → Mem → Rs (List D)
  | .nil, _, M => .ok [] M
  | .cons e es, σ, M => (evE e σ M).bind fun d M => (evEs es σ M).bind fun ds M => .ok (d :: ds) M
def evAnd : CEs → Sg → Mem → Rs D
  | .nil, _, M => .ok (.bl true) M
  | .cons e es, σ, M => (evE e σ M).bind fun x M => (match x with
    | .bl true => evAnd es σ M
    | .bl false => .ok (.bl false) M
    | _ => .bad)
def evOr : CEs → Sg → Mem → Rs D
  | .nil, _, M => .ok (.bl false) M
  | .cons e es, σ, M => (evE e σ M).bind fun x M => (match x with
    | .bl false => evOr es σ M
    | .bl true => .ok (.bl true) M
    | _ => .bad)
def evO : CO → Sg → Mem → Rs (Option Int)
  | .no, _, M => .ok none M
  | .so e, σ, M => (evE e σ M).bind fun d M => (match d with
    | .int i => .ok (some i) M
    | _ => .bad)
def evC : CO → Sg → Mem → Rs Bool
  | .no, _, M => .ok true M
  | .so e, σ, M => (evE e σ M).bind fun d M => (match d with
    | .bl b => .ok b M
    | _ => .bad)
def evI : CI → Sg → Mem → Rs (List D × Option (Nat × List D))
  | .seq e, σ, M => (evE e σ M).bind fun d M => itemsOf M d
  | .rng es, σ, M => (evEs es σ M).bind fun ds M => Rs.ofO ((rngItems ds).map fun is => (is, none)) M
  | .enum e, σ, M => (evE e σ M).bind fun d M => (match d with
    | .ref n => (match seqOf M n with
      | some ds => .ok (enumF 0 ds, some (n, ds)) M
      | none => .bad)
    | .fro ns => .ok (enumF 0 (ns.map .int), none) M
    | _ => .bad)
  | .zip a b, σ, M => (evE a σ M).bind fun x M => (evE b σ M).bind fun y M => (match x, y with
    | .ref m, .ref n => (match seqOf M m, seqOf M n with
      | some ds, some es => .ok ((ds.zip es).map fun p => .tup [p.1, p.2], none) M
      | _, _ => .bad)
    | _, _ => .bad)
  | .items e, σ, M => (evE e σ M).bind fun d M => (match d with
    | .ref n => (match M[n]? with
      | some (.dct _ kvs) => .ok (kvs.map fun p => .tup [p.1, p.2], none) M
      | _ => .bad)
    | _ => .bad)
def asG : CG → D → Sg → Mem → Rs Sg
  | .nm i, d, σ, M => .ok (σ.set i (some d)) M
  | .tup gs, d, σ, M => (match d with
    | .tup ds => asGs gs ds σ M
    | _ => .bad)
  | .sub a i, d, σ, M => (evE a σ M).bind fun x M => (evE i σ M).bind fun y M => (setD x y d M).bind fun _ M => .ok σ M
  | .fld a f, d, σ, M => (evE a σ M).bind fun x M => (setFD x f d M).bind fun _ M => .ok σ M
def asGs : CGs → List D → Sg → Mem → Rs Sg
  | .nil, ds, σ, M => if ds = [] then .ok σ M else .bad
  | .cons g gs, ds, σ, M => (match ds with
    | d :: ds => (asG g d σ M).bind fun σ M => asGs gs ds σ M
    | [] => .bad)
end

/-- a for's turns -/
def forL (tg : D → Sg → Mem → Rs Sg) (tb : Sg → Mem → Rs Fl) (gd : Option (Nat × List D)) (m : Nat) : List D → Sg → Mem → Rs Fl
  | [], σ, M => if guardOk gd M then .ok (.next σ) M else .bad
  | x :: xs, σ, M => if guardOk gd M then
      (tg x σ M).bindN fun σ1 M1 => (tb σ1 M1).bind fun f M2 => (match f with
        | .next σ2 => forL tg tb gd m xs (gcSt m σ2 M2).1 (gcSt m σ2 M2).2
        | .cont σ2 => forL tg tb gd m xs (gcSt m σ2 M2).1 (gcSt m σ2 M2).2
        | .brk σ2 => .ok (.next σ2) M2
        | .ret d => .ok (.ret d) M2)
      else .bad
/-- a while's turns, at most so many -/
def whileN (tc : Sg → Mem → Rs D) (tb : Sg → Mem → Rs Fl) (m : Nat) : Nat → Sg → Mem → Rs Fl
  | 0, _, _ => .bad
  | k + 1, σ, M => (tc σ M).bind fun d M1 => (match d with
    | .bl false => .ok (.next σ) M1
    | .bl true => (tb σ M1).bind fun f M2 => (match f with
      | .next σ2 => whileN tc tb m k (gcSt m σ2 M2).1 (gcSt m σ2 M2).2
      | .cont σ2 => whileN tc tb m k (gcSt m σ2 M2).1 (gcSt m σ2 M2).2
      | .brk σ2 => .ok (.next σ2) M2
      | .ret d => .ok (.ret d) M2)
    | _ => .bad)
open Classical in
noncomputable def whileE (tc : Sg → Mem → Rs D) (tb : Sg → Mem → Rs Fl) (m : Nat) (σ : Sg) (M : Mem) : Rs Fl :=
  if h : ∃ k, whileN tc tb m k σ M ≠ .bad then whileN tc tb m (Classical.choose h) σ M else .bad
mutual
noncomputable def evS : CS → Sg → Mem → Rs Fl
  | .asg g e, σ, M => (evE P cl e σ M).bind fun d M => (asG P cl g d σ M).bindN fun σ M => .ok (.next σ) M
  | .par i j a b, σ, M => (evE P cl a σ M).bind fun x M => (evE P cl b σ M).bind fun y M => .ok (.next ((σ.set i (some x)).set j (some y))) M
  | .aug i op e, σ, M => (match σ[i]? with
    | some (some x) => (evE P cl e σ M).bind fun y M => (match op, x, y with
      | .add, .int a, .int b => .ok (.next (σ.set i (some (.int (a + b))))) M
      | _, _, _ => .bad)
    | _ => .bad)
  | .expr e, σ, M => (evE P cl e σ M).bind fun _ M => .ok (.next σ) M
  | .ret e, σ, M => (evE P cl e σ M).bind fun d M => .ok (.ret d) M
  | .retN, _, M => .ok (.ret .non) M
  | .ife c s t, σ, M => (evE P cl c σ M).bind fun d M => (match d with
    | .bl true => evSs s σ M
    | .bl false => evSs t σ M
    | _ => .bad)
  | .for g src body, σ, M => (evI P cl src σ M).bind fun it M => forL (asG P cl g) (evSs body) it.2 M.length it.1 σ M
  | .while c body, σ, M => whileE (evE P cl c) (evSs body) M.length σ M
  | .raise c es, σ, M => (evEs P cl es σ M).bind fun ds M => (match P.made c ds with
    | some k => .exc c k M
    | none => .bad)
  | .try body c i suite, σ, M => (match evSs body σ M with
    | .ok f M => .ok f M
    | .exc c' k M => if P.sub c' c then (match evSs suite (σ.set i (some (.exc c' k))) M with
        | .ok (.ret d) M => if d.cool then .ok (.ret d) M else .bad
        | .ok (.next σ) M => if σ.all (fun o => match o with
            | some d => d.cool
            | none => true) then .ok (.next (σ.set i none)) M else .bad
        | _ => .bad) else .exc c' k M
    | .bad => .bad)
  | .brk, σ, M => .ok (.brk σ) M
  | .cont, σ, M => .ok (.cont σ) M
  | .base es, σ, M => (evEs P cl es σ M).bind fun _ M => .ok (.next σ) M
  | .kill is, σ, M => .ok (.next (wipe σ is)) M
noncomputable def evSs : CSs → Sg → Mem → Rs Fl
  | .nil, σ, M => .ok (.next σ) M
  | .cons s ss, σ, M => (evS s σ M).bind fun f M => (match f with
    | .next σ => evSs ss σ M
    | f => .ok f M)
end
/-- a def's body, from the arguments -/
noncomputable def runB (F : Fn) (ds : List D) (M : Mem) : Rs D :=
  if ds.length = F.np ∧ F.np ≤ F.ns then
    (evSs P cl F.body (ds.map some ++ List.replicate (F.ns - F.np) none) M).bind fun f M => (match f with
      | .ret d => .ok d M
      | .next _ => .ok .non M
      | _ => .bad)
  else .bad
end

/-! ### calls: each def is run in the part of the memory that its arguments reach -/
def unloc (k n : Nat) (sel : List Nat) (j : Nat) : Nat := if j < k then sel.getD j 0 else n + (j - k)
/-- the objects at sel are written anew, in order, the others stay -/
def writeAll : List Nat → Mem → Mem → Mem
  | n :: sel, o :: L, M => writeAll sel L (M.set n o)
  | _, _, M => M
/-- the memory behind a call: L, what the callee leaves, its first ones those at sel -/
def back (sel : List Nat) (M L : Mem) : Mem :=
  writeAll sel ((L.take sel.length).map (MO.ren (unloc sel.length M.length sel))) M ++ (L.drop sel.length).map (MO.ren (unloc sel.length M.length sel))
def callIn (run : List D → Mem → Rs D) (ds : List D) (M : Mem) : Rs D := match gc 0 (D.refss ds) M with
  | none => .bad
  | some sel => match run (D.rens (renum 0 sel) ds) (gcMem 0 sel M) with
    | .ok d L => (match gc sel.length d.refs L with
      | some acc => .ok ((d.ren (renum sel.length acc)).ren (unloc sel.length M.length sel)) (back sel M (gcMem sel.length acc L))
      | none => .bad)
    | .exc c k L => (match gc sel.length [] L with
      | some acc => .exc c k (back sel M (gcMem sel.length acc L))
      | none => .bad)
    | .bad => .bad
/-- a def may call those of lower numbers -/
noncomputable def runF (P : Prg) : Nat → List D → Mem → Rs D
  | f, ds, M => match P.fn f with
    | some F => runB P (fun g ds M => if g < f then (if P.lv g < P.lv f then callIn (runF P g) ds M else .bad) else .bad) F ds M
    | none => .bad
termination_by f => f
end PD

set_option Elab.async false
set_option linter.all false
set_option autoImplicit false
set_option maxRecDepth 100000
/-! PdRel: how plain data and memory stand in the layer's heap; what a step may change. -/
namespace PD
open PySem L2

/-- what does not change through the proof: the written part, the program's compact form, where defs and classes stand, the fields' names; XI: a held exception -/
structure Sta where
  K : PySem.W.Frag
  P : Prg
  fA : Nat → Addr
  cA : Nat → Addr
  fN : Nat → Str
  pS : Nat → List Str
  XI : Addr → Nat → Option Int → Prop
  XR : Nat → Option Int → Value → Option Addr → Hp → Prop

def toS (x : T) : Str := ⟨x.toArray⟩
/-- codes of signs -/
def OkT (x : T) : Prop := ∀ c ∈ x, c < 0x110000
/-- a list that never changes -/
def Fro (K : PySem.W.Frag) (H : Hp) (a : Addr) (ns : List Int) : Prop := (∃ o, H a = some (.frz o (.lst (ns.map V.int)))) ∨ ∀ H', SqL K H' a (ns.map V.int)
theorem Fro.seq {K : PySem.W.Frag} {H : Hp} {a : Addr} {ns : List Int} (h : Fro K H a ns) : SqL K H a (ns.map V.int) := by
  rcases h with ⟨o, h⟩ | h
  · exact .inl (.inr ⟨o, h⟩)
  · exact h H
/-- what never changes -/
def Imm : HO → Prop
  | .tup _ => True
  | .frz _ _ => True
  | _ => False
def Mono (H H' : Hp) : Prop := ∀ a o, H a = some o → Imm o → H' a = some o
theorem Mono.refl (H : Hp) : Mono H H := fun _ _ h _ => h
theorem Mono.trans {H H1 H2 : Hp} (a : Mono H H1) (b : Mono H1 H2) : Mono H H2 := fun c o h i => b c o (a c o h i) i
theorem Mono.tup {K : PySem.W.Frag} {H H' : Hp} {a : Addr} {xs : List V} (m : Mono H H') (h : SqT K H a xs) : SqT K H' a xs := by
  rcases h with (h | ⟨o, h⟩) | h
  · exact .inl (.inl (m _ _ h trivial))
  · exact .inl (.inr ⟨o, m _ _ h trivial⟩)
  · exact .inr h
theorem Mono.fro {K : PySem.W.Frag} {H H' : Hp} {a : Addr} {ns : List Int} (m : Mono H H') (h : Fro K H a ns) : Fro K H' a ns := by
  rcases h with ⟨o, h⟩ | h
  · exact .inl ⟨o, m _ _ h trivial⟩
  · exact .inr h

mutual
def RV (S : Sta) (ι : List Addr) (H : Hp) : D → V → Prop
  | .non, v => v = .non
  | .bl b, v => v = .bl b
  | .int i, v => v = .int i
  | .str x, v => v = .str (toS x) ∧ OkT x
  | .tup ds, v => ∃ a vs, v = .ref a ∧ SqT S.K H a vs ∧ RVs S ι H ds vs
  | .ref n, v => ∃ a, ι[n]? = some a ∧ v = .ref a
  | .fn k, v => v = .ref (S.fA k)
  | .exc c k, v => ∃ a, v = .ref a ∧ S.XI a c k
  | .fro ns, v => ∃ a, v = .ref a ∧ Fro S.K H a ns
def RVs (S : Sta) (ι : List Addr) (H : Hp) : List D → List V → Prop
  | [], vs => vs = []
  | d :: ds, vs => ∃ v r, vs = v :: r ∧ RV S ι H d v ∧ RVs S ι H ds r
end
section
variable {S : Sta} {ι ι' : List Addr} {H H' : Hp}
/-- what is said of a value stays where the addresses grow and what never changes stays -/
structure Ext (ι : List Addr) (H : Hp) (ι' : List Addr) (H' : Hp) : Prop where
  pre : ∃ r, ι' = ι ++ r
  mono : Mono H H'
theorem Ext.refl (ι : List Addr) (H : Hp) : Ext ι H ι H := ⟨⟨[], by simp⟩, .refl H⟩
theorem Ext.trans {ι1 ι2 : List Addr} {H1 H2 : Hp} (a : Ext ι H ι1 H1) (b : Ext ι1 H1 ι2 H2) : Ext ι H ι2 H2 := by
  obtain ⟨⟨r, rfl⟩, m⟩ := a
  obtain ⟨⟨q, rfl⟩, m'⟩ := b
  exact ⟨⟨r ++ q, by simp⟩, m.trans m'⟩
theorem Ext.at (x : Ext ι H ι' H') {n : Nat} {a : Addr} (h : ι[n]? = some a) : ι'[n]? = some a := by
  obtain ⟨⟨r, rfl⟩, _⟩ := x
  rw [List.getElem?_append_left (List.getElem?_eq_some_iff.mp h).1]
  exact h
mutual
theorem RV.ext (x : Ext ι H ι' H') : ∀ {d : D} {v : V}, RV S ι H d v → RV S ι' H' d v
  | .non, _, h => h
  | .bl _, _, h => h
  | .int _, _, h => h
  | .str _, _, h => h
  | .fn _, _, h => h
  | .exc _ _, _, h => h
  | .tup ds, _, ⟨a, vs, e, t, r⟩ => ⟨a, vs, e, x.mono.tup t, RVs.ext x r⟩
  | .ref n, _, ⟨a, h, e⟩ => ⟨a, x.at h, e⟩
  | .fro ns, _, ⟨a, e, f⟩ => ⟨a, e, x.mono.fro f⟩
theorem RVs.ext (x : Ext ι H ι' H') : ∀ {ds : List D} {vs : List V}, RVs S ι H ds vs → RVs S ι' H' ds vs
  | [], _, h => h
  | d :: ds, _, ⟨v, r, e, h, t⟩ => ⟨v, r, e, RV.ext x h, RVs.ext x t⟩
end
theorem RVs.length : ∀ {ds : List D} {vs : List V}, RVs S ι H ds vs → vs.length = ds.length
  | [], _, h => by rw [show _ = [] from h]; rfl
  | d :: ds, _, ⟨v, r, e, _, t⟩ => by rw [e, List.length_cons, List.length_cons, RVs.length t]
theorem RVs.get : ∀ {ds : List D} {vs : List V} {i : Nat} {d : D}, RVs S ι H ds vs → ds[i]? = some d → ∃ v, vs[i]? = some v ∧ RV S ι H d v
  | [], _, _, _, _, e => by simp at e
  | d :: ds, _, 0, _, ⟨v, r, rfl, h, t⟩, e => by
    simp only [List.getElem?_cons_zero, Option.some.injEq] at e
    subst e
    exact ⟨v, rfl, h⟩
  | d :: ds, _, i + 1, _, ⟨v, r, rfl, h, t⟩, e => by
    obtain ⟨w, e1, r1⟩ := RVs.get (i := i) t (by simpa using e)
    exact ⟨w, by simpa using e1, r1⟩
theorem RVs.back : ∀ {ds : List D} {vs : List V} {i : Nat} {v : V}, RVs S ι H ds vs → vs[i]? = some v → ∃ d, ds[i]? = some d ∧ RV S ι H d v
  | [], vs, i, v, h, e => by
    have h' : vs = [] := h
    rw [h'] at e
    simp at e
  | d :: ds, _, 0, _, ⟨v, r, rfl, h, t⟩, e => by
    simp only [List.getElem?_cons_zero, Option.some.injEq] at e
    subst e
    exact ⟨d, rfl, h⟩
  | d :: ds, _, i + 1, _, ⟨v, r, rfl, h, t⟩, e => by
    obtain ⟨w, e1, r1⟩ := RVs.back (i := i) t (by simpa using e)
    exact ⟨w, by simpa using e1, r1⟩
theorem RVs.append : ∀ {ds es : List D} {vs us : List V}, RVs S ι H ds vs → RVs S ι H es us → RVs S ι H (ds ++ es) (vs ++ us)
  | [], _, _, _, h, k => by rw [show _ = [] from h]; exact k
  | d :: ds, es, _, us, ⟨v, r, rfl, h, t⟩, k => ⟨v, r ++ us, rfl, h, RVs.append t k⟩
theorem RVs.take : ∀ {ds : List D} {vs : List V} (n : Nat), RVs S ι H ds vs → RVs S ι H (ds.take n) (vs.take n)
  | [], vs, n, h => by
    have h' : vs = [] := h
    rw [h', List.take_nil, List.take_nil]
    rfl
  | d :: ds, _, 0, _ => rfl
  | d :: ds, _, n + 1, ⟨v, r, rfl, h, t⟩ => ⟨v, r.take n, rfl, h, RVs.take n t⟩
theorem RVs.drop : ∀ {ds : List D} {vs : List V} (n : Nat), RVs S ι H ds vs → RVs S ι H (ds.drop n) (vs.drop n)
  | [], vs, n, h => by
    have h' : vs = [] := h
    rw [h', List.drop_nil, List.drop_nil]
    rfl
  | d :: ds, _, 0, h => h
  | d :: ds, _, n + 1, ⟨v, r, rfl, h, t⟩ => RVs.drop n t
theorem RVs.set {d : D} {v : V} (q : RV S ι H d v) : ∀ {ds : List D} {vs : List V} (n : Nat), RVs S ι H ds vs → RVs S ι H (ds.set n d) (vs.set n v)
  | [], vs, n, h => by
    have h' : vs = [] := h
    rw [h', List.set_nil, List.set_nil]
    rfl
  | e :: ds, _, 0, ⟨w, r, rfl, h, t⟩ => ⟨v, r, rfl, q, t⟩
  | e :: ds, _, n + 1, ⟨w, r, rfl, h, t⟩ => ⟨w, r.set n v, rfl, h, RVs.set q n t⟩
theorem RVs.nil : RVs S ι H [] [] := rfl
theorem RVs.cons {d : D} {v : V} {ds : List D} {vs : List V} (h : RV S ι H d v) (t : RVs S ι H ds vs) : RVs S ι H (d :: ds) (v :: vs) := ⟨v, vs, rfl, h, t⟩
theorem RVs.one {d : D} {v : V} (h : RV S ι H d v) : RVs S ι H [d] [v] := .cons h .nil
theorem RVs.reverse : ∀ {ds : List D} {vs : List V}, RVs S ι H ds vs → RVs S ι H ds.reverse vs.reverse
  | [], vs, h => by rw [show vs = [] from h]; rfl
  | d :: ds, _, ⟨v, r, rfl, h, t⟩ => by
    rw [List.reverse_cons, List.reverse_cons]
    exact (RVs.reverse t).append (.one h)
theorem RVs.map {α : Type} (f : α → D) (g : α → V) (h : ∀ a, RV S ι H (f a) (g a)) : ∀ l : List α, RVs S ι H (l.map f) (l.map g)
  | [] => rfl
  | a :: l => ⟨_, _, rfl, h a, RVs.map f g h l⟩
theorem RVs.mapM {α : Type} (f : α → D) (g : α → V) : ∀ l : List α, (∀ a ∈ l, RV S ι H (f a) (g a)) → RVs S ι H (l.map f) (l.map g)
  | [], _ => rfl
  | a :: l, h => ⟨_, _, rfl, h a List.mem_cons_self, RVs.mapM f g l fun b hb => h b (List.mem_cons_of_mem _ hb)⟩
theorem RVs.ints (ns : List Int) : RVs S ι H (ns.map .int) (ns.map V.int) := RVs.map D.int V.int (fun _ => rfl) ns
theorem RVs.eraseIdx : ∀ {ds : List D} {vs : List V} (n : Nat), RVs S ι H ds vs → RVs S ι H (ds.eraseIdx n) (vs.eraseIdx n)
  | [], vs, n, h => by
    have h' : vs = [] := h
    rw [h']
    rfl
  | d :: ds, _, 0, ⟨v, r, rfl, h, t⟩ => t
  | d :: ds, _, n + 1, ⟨v, r, rfl, h, t⟩ => ⟨v, r.eraseIdx n, rfl, h, RVs.eraseIdx n t⟩
theorem RVs.append_inv : ∀ {ds es : List D} {vs : List V}, RVs S ι H (ds ++ es) vs → ∃ a b, vs = a ++ b ∧ RVs S ι H ds a ∧ RVs S ι H es b
  | [], es, vs, h => ⟨[], vs, rfl, rfl, h⟩
  | d :: ds, es, _, ⟨v, r, rfl, h, t⟩ => by
    obtain ⟨a, b, e, h1, h2⟩ := RVs.append_inv (ds := ds) (es := es) t
    exact ⟨v :: a, b, by rw [e]; rfl, ⟨v, a, rfl, h, h1⟩, h2⟩

/-! ### the memory -/
/-- keys of a dict of texts and numbers -/
def keyK : D → Option Key
  | .int i => some (.inl i)
  | .str x => some (.inr (toS x))
  | _ => none
def RK (S : Sta) (ι : List Addr) (H : Hp) : List (D × D) → List (Key × V) → Prop
  | [], l => l = []
  | (k, d) :: r, l => ∃ kk v q, l = (kk, v) :: q ∧ keyK k = some kk ∧ (∀ x, k = .str x → OkT x) ∧ RV S ι H d v ∧ RK S ι H r q
def RF (S : Sta) (ι : List Addr) (H : Hp) : List (Nat × D) → List (Str × V) → Prop
  | [], l => l = []
  | (f, d) :: r, l => ∃ v q, l = (S.fN f, v) :: q ∧ RV S ι H d v ∧ RF S ι H r q
/-- a dict with tuple keys, its object as it is: entries by their values; what the keys and values are stands in the heap -/
def rawD (a : Addr) (es : Array DictEntry) (ep : Nat) : HO := .ext fun h => ∃ o, h.get? a = some o ∧ o.ExactDict ∧ o.data = .dict es ep
def RO (S : Sta) (ι : List Addr) (H : Hp) : MO → Addr → Prop
  | .lst ds, a => ∃ vs, H a = some (.lst vs) ∧ RVs S ι H ds vs
  | .dct false kvs, a => ∃ kv, H a = some (.dK kv) ∧ RK S ι H kvs kv
  | .dct true _, _ => False
  | .ins c fs, a => ∃ dx l, H a = some (.ins (S.cA c) dx l) ∧ RF S ι H fs l ∧ ∃ C, S.P.cls c = some C
theorem RK.ext (x : Ext ι H ι' H') : ∀ {l : List (D × D)} {q : List (Key × V)}, RK S ι H l q → RK S ι' H' l q
  | [], _, h => h
  | (k, d) :: r, _, ⟨kk, v, q, e, h1, h2, h3, h4⟩ => ⟨kk, v, q, e, h1, h2, h3.ext x, RK.ext x h4⟩
theorem RF.ext (x : Ext ι H ι' H') : ∀ {l : List (Nat × D)} {q : List (Str × V)}, RF S ι H l q → RF S ι' H' l q
  | [], _, h => h
  | (f, d) :: r, _, ⟨v, q, e, h3, h4⟩ => ⟨v, q, e, h3.ext x, RF.ext x h4⟩
/-- the object is tracked -/
theorem RO.here {o : MO} {a : Addr} (h : RO S ι H o a) : ∃ u, H a = some u ∧ ¬ Imm u := by
  cases o with
  | lst ds => obtain ⟨vs, e, _⟩ := h; exact ⟨_, e, fun z => z⟩
  | ins c fs => obtain ⟨dx, l, e, _⟩ := h; exact ⟨_, e, fun z => z⟩
  | dct t kvs =>
    cases t with
    | true => exact False.elim h
    | false => obtain ⟨kv, e, _⟩ := h; exact ⟨_, e, fun z => z⟩
theorem RO.ext (x : Ext ι H ι' H') {o : MO} {a : Addr} (e : H' a = H a) (h : RO S ι H o a) : RO S ι' H' o a := by
  cases o with
  | lst ds => obtain ⟨vs, h1, h2⟩ := h; exact ⟨vs, e.trans h1, h2.ext x⟩
  | ins c fs => obtain ⟨dx, l, h1, h2, h3⟩ := h; exact ⟨dx, l, e.trans h1, h2.ext x, h3⟩
  | dct t kvs =>
    cases t with
    | true => exact False.elim h
    | false => obtain ⟨kv, h1, h2⟩ := h; exact ⟨kv, e.trans h1, h2.ext x⟩
/-- the memory stands at the addresses -/
structure RM (S : Sta) (ι : List Addr) (M : Mem) (H : Hp) : Prop where
  len : ι.length = M.length
  nd : ι.Nodup
  obj : ∀ (n : Nat) (o : MO) (a : Addr), M[n]? = some o → ι[n]? = some a → RO S ι H o a
theorem RM.at {M : Mem} (R : RM S ι M H) {n : Nat} {o : MO} (h : M[n]? = some o) : ∃ a, ι[n]? = some a ∧ RO S ι H o a := by
  have l : n < ι.length := by rw [R.len]; exact (List.getElem?_eq_some_iff.mp h).1
  exact ⟨ι[n], by simp [l], R.obj n o _ h (by simp [l])⟩
theorem RM.here {M : Mem} (R : RM S ι M H) {a : Addr} (h : a ∈ ι) : ∃ u, H a = some u ∧ ¬ Imm u := by
  obtain ⟨n, hn, e⟩ := List.mem_iff_getElem.mp h
  have l : n < M.length := by rw [← R.len]; exact hn
  exact (R.obj n M[n] a (by simp [l]) (by simp [hn, e])).here
theorem RM.inj {M : Mem} (R : RM S ι M H) {m n : Nat} {a : Addr} (h : ι[m]? = some a) (k : ι[n]? = some a) : m = n := by
  obtain ⟨l1, e1⟩ := List.getElem?_eq_some_iff.mp h
  obtain ⟨l2, e2⟩ := List.getElem?_eq_some_iff.mp k
  exact (List.getElem_inj R.nd).mp (e1.trans e2.symm)

/-! ### a step: memory and heap behind it -/
structure Step (S : Sta) (ι : List Addr) (M : Mem) (H : Hp) (ι' : List Addr) (M' : Mem) (H' : Hp) : Prop where
  ext : Ext ι H ι' H'
  rm : RM S ι' M' H'
  keep : ∀ a o, H a = some o → a ∉ ι → H' a = some o
  new : ∀ a ∈ ι', a ∈ ι ∨ H a = none
theorem Step.refl {M : Mem} (R : RM S ι M H) : Step S ι M H ι M H := ⟨.refl _ _, R, fun _ _ h _ => h, fun _ h => .inl h⟩
theorem Step.trans {M M1 M2 : Mem} {ι1 ι2 : List Addr} {H1 H2 : Hp} (a : Step S ι M H ι1 M1 H1) (b : Step S ι1 M1 H1 ι2 M2 H2) : Step S ι M H ι2 M2 H2 where
  ext := a.ext.trans b.ext
  rm := b.rm
  keep := fun c o h n => b.keep c o (a.keep c o h n) fun z => (a.new c z).elim n fun q => by rw [q] at h; cases h
  new := fun c hc => by
    rcases b.new c hc with z | z
    · exact a.new c z
    · right
      cases q : H c with
      | none => rfl
      | some o =>
        by_cases hi : c ∈ ι
        · obtain ⟨⟨r, e⟩, _⟩ := a.ext
          obtain ⟨u, hu, _⟩ := a.rm.here (a := c) (by rw [e]; exact List.mem_append_left _ hi)
          rw [z] at hu; cases hu
        · rw [a.keep c o q hi] at z; cases z
/-- a new tuple (nothing of the memory) -/
theorem Step.tup {M : Mem} (R : RM S ι M H) {p : Addr} {o : HO} (hp : H p = none) : Step S ι M H ι M (upd H p o) := by
  have ne : ∀ {a u}, H a = some u → a ≠ p := fun {a u} h e => by rw [e, hp] at h; cases h
  have ex : Ext ι H ι (upd H p o) := ⟨⟨[], by simp⟩, fun a u h _ => by rw [upd_ne (ne h)]; exact h⟩
  refine ⟨ex, ⟨R.len, R.nd, fun n u a h1 h2 => ?_⟩, fun a u h _ => by rw [upd_ne (ne h)]; exact h, fun _ h => .inl h⟩
  obtain ⟨w, hw, _⟩ := (R.obj n u a h1 h2).here
  exact (R.obj n u a h1 h2).ext ex (upd_ne (ne hw))
/-- a new object of the memory -/
theorem Step.push {M : Mem} (R : RM S ι M H) {p : Addr} {o : HO} {m : MO} (hp : H p = none) (h : ∀ {ι' H'}, Ext ι H ι' H' → H' p = some o → RO S ι' H' m p) :
    Step S ι M H (ι ++ [p]) (M ++ [m]) (upd H p o) := by
  have ne : ∀ {a u}, H a = some u → a ≠ p := fun {a u} h e => by rw [e, hp] at h; cases h
  have ex : Ext ι H (ι ++ [p]) (upd H p o) := ⟨⟨[p], rfl⟩, fun a u h _ => by rw [upd_ne (ne h)]; exact h⟩
  have npi : p ∉ ι := fun z => by
    obtain ⟨u, hu, _⟩ := R.here z
    rw [hp] at hu; cases hu
  refine ⟨ex, ⟨by simp [R.len], ?_, fun n u a h1 h2 => ?_⟩, fun a u h _ => by rw [upd_ne (ne h)]; exact h, fun a ha => ?_⟩
  · rw [List.nodup_append]
    exact ⟨R.nd, (by simp), fun a ha b hb e => by
      rw [List.mem_singleton] at hb
      subst hb e
      exact npi ha⟩
  · by_cases hl : n < ι.length
    · rw [List.getElem?_append_left hl] at h2
      rw [List.getElem?_append_left (by rw [← R.len]; exact hl)] at h1
      obtain ⟨w, hw, _⟩ := (R.obj n u a h1 h2).here
      exact (R.obj n u a h1 h2).ext ex (upd_ne (ne hw))
    · rw [List.getElem?_append_right (by omega)] at h2
      rw [List.getElem?_append_right (by rw [← R.len]; omega)] at h1
      rw [List.getElem?_singleton] at h2 h1
      split at h2
      · cases h2
        split at h1
        · cases h1
          exact h ex upd_same
        · cases h1
      · cases h2
  · rcases List.mem_append.mp ha with z | z
    · exact .inl z
    · rw [List.mem_singleton] at z
      subst z
      exact .inr hp
/-- an object of the memory is written -/
theorem Step.write {M : Mem} (R : RM S ι M H) {n : Nat} {p : Addr} {o : HO} {m : MO} (hn : ι[n]? = some p) (h : ∀ {H'}, Ext ι H ι H' → H' p = some o → RO S ι H' m p) :
    Step S ι M H ι (M.set n m) (upd H p o) := by
  have hm : p ∈ ι := List.mem_of_getElem? hn
  obtain ⟨w, hw, ni⟩ := R.here hm
  have ex : Ext ι H ι (upd H p o) := ⟨⟨[], by simp⟩, fun a u h i => by
    rw [upd_ne (fun e => by rw [e, hw] at h; cases h; exact ni i)]
    exact h⟩
  refine ⟨ex, ⟨by simp [R.len], R.nd, fun k u a h1 h2 => ?_⟩, fun a u h q => by rw [upd_ne (fun e => q (by rw [e]; exact hm))]; exact h, fun _ h => .inl h⟩
  by_cases hk : n = k
  · subst hk
    have ea : a = p := by rw [hn] at h2; cases h2; rfl
    subst ea
    have hlt : n < M.length := by rw [← R.len]; exact (List.getElem?_eq_some_iff.mp hn).1
    rw [List.getElem?_set_self hlt] at h1
    cases h1
    exact h ex upd_same
  · rw [List.getElem?_set_ne hk] at h1
    have na : a ≠ p := fun e => hk (R.inj hn (by rw [← e]; exact h2))
    exact (R.obj k u a h1 h2).ext ex (upd_ne na)
end
end PD

set_option Elab.async false
set_option linter.all false
set_option autoImplicit false
set_option maxRecDepth 100000
set_option maxHeartbeats 1000000
/-! PdOps: the operators on plain data are the model's. -/
namespace PD
open PySem L2

def pyB : Bop → Operator
  | .add => .Add | .sub => .Sub | .mul => .Mult | .fdiv => .FloorDiv | .mod => .Mod | .pow => .Pow | .band => .BitAnd | .bor => .BitOr | .tmul => .Mult
def pyC : Cop → CmpOp
  | .eq => .Eq | .ne => .NotEq | .lt => .Lt | .le => .LtE | .gt => .Gt | .ge => .GtE | .inn => .In | .nin => .NotIn | .geT => .GtE
/-- an operation on data, as a reading by values -/
def rB (S : Sta) (f : D → D → Mem → Rs D) : R2 := fun x y H Q => ∃ ι M d e z M', RM S ι M H ∧ RV S ι H d x ∧ RV S ι H e y ∧ f d e M = .ok z M' ∧
  ∀ ι' v H', Step S ι M H ι' M' H' → RV S ι' H' z v → Q v H'
theorem toS_append (a b : T) : toS (a ++ b) = toS a ++ toS b := by
  show (⟨(a ++ b).toArray⟩ : Str) = ⟨a.toArray ++ b.toArray⟩
  simp
theorem toS_len (a : T) : (toS a).length = a.length := by
  show a.toArray.size = a.length
  simp
theorem okT_append {a b : T} (h : OkT a) (k : OkT b) : OkT (a ++ b) := fun c hc => (List.mem_append.mp hc).elim (h c) (k c)
theorem SZ_eq : SZ = sizeLine := by rw [sizeLine_eq]; rfl
section
variable {X : Cx} {S : Sta}
/-- where only the value is new -/
theorem fin1 {ι : List Addr} {M M' : Mem} {H : Hp} {d e z w : D} {x : V} {Q : VK} (R : RM S ι M H) (h : Rs.ok d M = .ok z M') (q : ∀ ι' v H', Step S ι M H ι' M' H' → RV S ι' H' z v → Q v H') (hx : RV S ι H d x) : Q x H := by
  injection h with h1 h2
  subst h1 h2
  exact q ι x H (.refl R) hx
/-- a new tuple -/
theorem finT {ι : List Addr} {M M' : Mem} {H : Hp} {ds : List D} {z : D} {vs : List V} {Q : VK} (R : RM S ι M H) (h : Rs.ok (D.tup ds) M = .ok z M') (q : ∀ ι' v H', Step S ι M H ι' M' H' → RV S ι' H' z v → Q v H') (hx : RVs S ι H ds vs) :
    ∀ p, H p = none → Q (.ref p) (upd H p (.tup vs)) := fun p hp => by
  injection h with h1 h2
  subst h1 h2
  have st := Step.tup (o := .tup vs) R hp
  exact q ι _ _ st ⟨p, vs, rfl, .of upd_same, hx.ext st.ext⟩
/-- a new list -/
theorem finL {ι : List Addr} {M M' : Mem} {H : Hp} {ds : List D} {z : D} {vs : List V} {Q : VK} (R : RM S ι M H) (h : Rs.ok (D.ref M.length) (M ++ [.lst ds]) = .ok z M') (q : ∀ ι' v H', Step S ι M H ι' M' H' → RV S ι' H' z v → Q v H') (hx : RVs S ι H ds vs) :
    ∀ p, H p = none → Q (.ref p) (upd H p (.lst vs)) := fun p hp => by
  injection h with h1 h2
  subst h1 h2
  refine q (ι ++ [p]) _ _ (Step.push R hp fun x e => ⟨vs, e, hx.ext x⟩) ⟨p, ?_, rfl⟩
  rw [← R.len]
  simp
theorem seqOf_at {ι : List Addr} {M : Mem} {H : Hp} (R : RM S ι M H) {n : Nat} {ds : List D} (h : seqOf M n = some ds) : M[n]? = some (.lst ds) ∧ ∃ a vs, ι[n]? = some a ∧ H a = some (.lst vs) ∧ RVs S ι H ds vs := by
  unfold seqOf at h
  split at h
  · rename_i e
    cases h
    obtain ⟨a, ha, vs, hv, r⟩ := R.at e
    exact ⟨e, a, vs, ha, hv, r⟩
  · cases h
theorem ref_at {ι : List Addr} {H : Hp} {n : Nat} {a : Addr} {v : V} (h : RV S ι H (.ref n) v) (e : ι[n]? = some a) : v = .ref a := by
  obtain ⟨b, h1, h2⟩ := h
  rw [e] at h1
  cases h1
  exact h2
theorem natAbs64 {i : Int} (h : i.natAbs < 2 ^ 63) : -(2 ^ 64) < i ∧ i < 2 ^ 64 := by
  have : (2 : Nat) ^ 63 = 9223372036854775808 := by decide
  have : (2 : Int) ^ 64 = 18446744073709551616 := by decide
  omega
theorem opAdd (hK : S.K = X.K) : OpR X (binaryOp .Add) (rB S (binD .add)) := by
  intro pins s σ H x y v u Q I rx ry h
  obtain ⟨ι, M, d, e, z, M', R, hd, he, h, q⟩ := h
  cases d with
  | int i =>
    cases e with
    | int j =>
      cases hd; cases he
      exact op_add pins s σ H _ _ v u Q I rx ry ⟨i, j, rfl, rfl, fin1 (e := .non) (w := .non) R h q rfl⟩
    | _ => cases h
  | str a =>
    cases e with
    | str b =>
      obtain ⟨rfl, k1⟩ := hd
      obtain ⟨rfl, k2⟩ := he
      simp only [binD] at h
      split at h
      · rename_i hl
        exact op_add_str pins s σ H _ _ v u Q I rx ry ⟨_, _, rfl, rfl, by rw [toS_len, toS_len, ← SZ_eq]; exact hl, fin1 (e := .non) (w := .non) R h q ⟨by rw [toS_append], okT_append k1 k2⟩⟩
      · cases h
    | _ => cases h
  | tup a =>
    cases e with
    | tup b =>
      obtain ⟨p1, vs, rfl, t1, r1⟩ := hd
      obtain ⟨p2, us, rfl, t2, r2⟩ := he
      simp only [binD] at h
      split at h
      · rename_i hl
        have l1 := r1.length
        have l2 := r2.length
        rw [hK] at t1 t2
        refine op_catA pins s σ H _ _ v u Q I rx ry ⟨p1, p2, vs, us, rfl, rfl, t1, t2, by rw [l1, l2, ← SZ_eq]; exact hl, fun e => ?_, fun _ e => ?_, fun _ _ => finT R h q (r1.append r2)⟩
        · refine fin1 (e := .non) (w := .non) R h q ⟨p2, us, rfl, by rw [hK]; exact t2, ?_⟩
          have := r1.append r2
          rw [e, List.nil_append] at this
          exact this
        · refine fin1 (e := .non) (w := .non) R h q ⟨p1, vs, rfl, by rw [hK]; exact t1, ?_⟩
          have := r1.append r2
          rw [e, List.append_nil] at this
          exact this
      · cases h
    | _ => cases h
  | ref m =>
    cases e with
    | ref n =>
      simp only [binD] at h
      split at h
      · rename_i a b e1 e2
        obtain ⟨_, p1, vs, i1, h1, r1⟩ := seqOf_at R e1
        obtain ⟨_, p2, us, i2, h2, r2⟩ := seqOf_at R e2
        split at h
        · rename_i hl
          have l1 := r1.length
          have l2 := r2.length
          refine op_cat pins s σ H _ _ v u Q I rx ry ⟨p1, p2, vs, us, ref_at hd i1, ref_at he i2, h1, h2, by rw [l1, l2, ← SZ_eq]; exact hl, finL R h q (r1.append r2)⟩
        · cases h
      · cases h
    | _ => cases h
  | _ => cases e <;> cases h
theorem opSub : OpR X (binaryOp .Sub) (rB S (binD .sub)) := by
  intro pins s σ H x y v u Q I rx ry h
  obtain ⟨ι, M, d, e, z, M', R, hd, he, h, q⟩ := h
  cases d with
  | int i =>
    cases e with
    | int j =>
      cases hd; cases he
      exact op_sub pins s σ H _ _ v u Q I rx ry ⟨i, j, rfl, rfl, fin1 (e := .non) (w := .non) R h q rfl⟩
    | _ => cases h
  | _ => cases e <;> cases h
theorem opFdiv : OpR X (binaryOp .FloorDiv) (rB S (binD .fdiv)) := by
  intro pins s σ H x y v u Q I rx ry h
  obtain ⟨ι, M, d, e, z, M', R, hd, he, h, q⟩ := h
  cases d with
  | int i =>
    cases e with
    | int j =>
      cases hd; cases he
      simp only [binD] at h
      split at h
      · rename_i hc
        unfold fdivOk at hc
        simp only [Bool.and_eq_true, decide_eq_true_eq] at hc
        exact op_fdivW pins s σ H _ _ v u Q I rx ry ⟨i, j, rfl, rfl, hc, fin1 (e := .non) (w := .non) R h q rfl⟩
      · cases h
    | _ => cases h
  | _ => cases e <;> cases h
theorem opMod : OpR X (binaryOp .Mod) (rB S (binD .mod)) := by
  intro pins s σ H x y v u Q I rx ry h
  obtain ⟨ι, M, d, e, z, M', R, hd, he, h, q⟩ := h
  cases d with
  | int i =>
    cases e with
    | int j =>
      cases hd; cases he
      simp only [binD] at h
      split at h
      · rename_i hc
        exact op_mod pins s σ H _ _ v u Q I rx ry ⟨i, j, rfl, rfl, hc, fin1 (e := .non) (w := .non) R h q rfl⟩
      · cases h
    | _ => cases h
  | _ => cases e <;> cases h
theorem opPow : OpR X (binaryOp .Pow) (rB S (binD .pow)) := by
  intro pins s σ H x y v u Q I rx ry h
  obtain ⟨ι, M, d, e, z, M', R, hd, he, h, q⟩ := h
  cases d with
  | int i =>
    cases e with
    | int j =>
      cases hd; cases he
      simp only [binD] at h
      split at h
      · rename_i hc
        unfold powOk at hc
        simp only [Bool.and_eq_true, decide_eq_true_eq] at hc
        have : (2 : Nat) ^ 63 < 2 ^ 64 := by decide
        exact op_pow pins s σ H _ _ v u Q I rx ry ⟨i, j, rfl, rfl, ⟨hc.1.1, by omega, by omega⟩, fin1 (e := .non) (w := .non) R h q rfl⟩
      · cases h
    | _ => cases h
  | _ => cases e <;> cases h
theorem opBand : OpR X (binaryOp .BitAnd) (rB S (binD .band)) := by
  intro pins s σ H x y v u Q I rx ry h
  obtain ⟨ι, M, d, e, z, M', R, hd, he, h, q⟩ := h
  cases d with
  | int i =>
    cases e with
    | int j =>
      cases hd; cases he
      exact op_and pins s σ H _ _ v u Q I rx ry ⟨i, j, rfl, rfl, fin1 (e := .non) (w := .non) R h q rfl⟩
    | _ => cases h
  | _ => cases e <;> cases h
theorem opBor : OpR X (binaryOp .BitOr) (rB S (binD .bor)) := by
  intro pins s σ H x y v u Q I rx ry h
  obtain ⟨ι, M, d, e, z, M', R, hd, he, h, q⟩ := h
  cases d with
  | int i =>
    cases e with
    | int j =>
      cases hd; cases he
      exact op_or pins s σ H _ _ v u Q I rx ry ⟨i, j, rfl, rfl, fin1 (e := .non) (w := .non) R h q rfl⟩
    | _ => cases h
  | _ => cases e <;> cases h
/-- * of two great numbers, or where one is small -/
theorem mulOk_ok {i j : Int} (h : mulOk i j = true) : CMulW i j ∨ CMul i j := by
  unfold mulOk at h
  simp only [Bool.or_eq_true, decide_eq_true_eq] at h
  rcases h with (h | h) | h
  · exact .inl h
  · exact .inr (.inl (natAbs64 h))
  · exact .inr (.inr (natAbs64 h))
/-- * of numbers, and of lists -/
theorem opMulI : OpR X (binaryOp .Mult) (fun x y H Q => (∃ i j, x = .int i ∧ y = .int j ∧ mulOk i j = true ∧ Q (.int (i * j)) H)) := by
  intro pins s σ H x y v u Q I rx ry h
  obtain ⟨i, j, rfl, rfl, hc, q⟩ := h
  rcases mulOk_ok hc with h | h
  · exact op_mulW pins s σ H _ _ v u Q I rx ry ⟨i, j, rfl, rfl, h, q⟩
  · exact op_mul pins s σ H _ _ v u Q I rx ry ⟨i, j, rfl, rfl, h, q⟩
theorem rep_len {α : Type} (xs : List α) : ∀ n : Nat, (List.replicate n xs).flatten.length = n * xs.length
  | 0 => by simp
  | n + 1 => by rw [List.replicate_succ, List.flatten_cons, List.length_append, rep_len xs n, Nat.add_mul, Nat.one_mul, Nat.add_comm]
theorem RVs.rep {ι : List Addr} {H : Hp} {ds : List D} {vs : List V} (r : RVs S ι H ds vs) : ∀ n : Nat, RVs S ι H (List.replicate n ds).flatten (List.replicate n vs).flatten
  | 0 => rfl
  | n + 1 => by
    rw [List.replicate_succ, List.replicate_succ, List.flatten_cons, List.flatten_cons]
    exact r.append (RVs.rep r n)
theorem okT_rep {a : T} (h : OkT a) : ∀ n : Nat, OkT (List.replicate n a).flatten
  | 0 => fun c hc => by simp at hc
  | n + 1 => by
    rw [List.replicate_succ, List.flatten_cons]
    exact okT_append h (okT_rep h n)
theorem fold_rep (a : Array Nat) : ∀ (n : Nat) (b : Array Nat), ((List.replicate n a).foldl (· ++ ·) b) = b ++ ((List.replicate n a.toList).flatten).toArray
  | 0, b => by simp
  | n + 1, b => by
    rw [List.replicate_succ, List.foldl_cons, fold_rep a n, List.replicate_succ, List.flatten_cons]
    apply Array.ext'
    simp
theorem mul_toS (a : T) (k : Int) : Txt.mul (toS a) k = toS (PD.rep a k) := by
  unfold Txt.mul PD.rep
  by_cases h1 : k < 1
  · rw [if_pos h1, show k.toNat = 0 by omega]
    rfl
  · rw [if_neg h1]
    by_cases h2 : (k == 1 || (toS a).length == 0) = true
    · rw [if_pos h2]
      rw [Bool.or_eq_true] at h2
      rcases h2 with h2 | h2
      · rw [beq_iff_eq] at h2
        subst h2
        show toS a = toS (List.replicate 1 a).flatten
        simp
      · rw [beq_iff_eq, toS_len] at h2
        rw [List.eq_nil_of_length_eq_zero h2]
        simp
    · rw [if_neg h2]
      show (⟨(List.replicate k.toNat (toS a).cps).foldl (· ++ ·) #[]⟩ : Str) = _
      rw [fold_rep]
      simp [toS]
theorem mulOkS {a : T} {k : Int} (h1 : -(2 ^ 62) < k) (h2 : k < 2 ^ 62) (h3 : a.length * k.toNat ≤ SZ) : MulOk (toS a) k := by
  have p1 : (2 : Int) ^ 62 = 4611686018427387904 := by decide
  have p2 : (2 : Int) ^ 63 = 9223372036854775808 := by decide
  refine ⟨?_, fun hk _ => ?_, fun _ _ => ?_⟩
  · rw [decide_eq_false (by omega), decide_eq_false (by omega)]
    rfl
  · rw [toS_len]
    intro z
    have h3' : a.length * k.toNat ≤ 16777216 := h3
    have e : (k.toNat : Int) = k := by omega
    have : ((a.length : Int)) * k ≤ 16777216 := by
      rw [← e]
      have : ((a.length * k.toNat : Nat) : Int) ≤ ((16777216 : Nat) : Int) := Int.ofNat_le.mpr h3'
      rw [Int.natCast_mul] at this
      exact this
    have z2 : (2 ^ 63 - 1) / k + 1 ≤ (a.length : Int) := z
    have hk0 : 0 < k := by omega
    have z3 : ((2 ^ 63 - 1) / k + 1) * k ≤ (a.length : Int) * k := Int.mul_le_mul_of_nonneg_right z2 (by omega)
    have z4 : (2 ^ 63 - 1 : Int) < ((2 ^ 63 - 1) / k + 1) * k := by
      have := Int.lt_ediv_add_one_mul_self (2 ^ 63 - 1 : Int) hk0
      exact this
    omega
  · rw [toS_len]
    unfold Builtin.Str.tooLong
    rw [SZ_eq] at h3
    exact decide_eq_false (Nat.not_lt.mpr h3)
theorem opMul : OpR X (binaryOp .Mult) (rB S (binD .mul)) := by
  intro pins s σ H x y v u Q I rx ry h
  obtain ⟨ι, M, d, e, z, M', R, hd, he, h, q⟩ := h
  cases d with
  | int i =>
    cases e with
    | int j =>
      cases hd; cases he
      simp only [binD] at h
      split at h
      · rename_i hc
        exact opMulI pins s σ H _ _ v u Q I rx ry ⟨i, j, rfl, rfl, hc, fin1 (e := .non) (w := .non) R h q rfl⟩
      · cases h
    | _ => cases h
  | str a =>
    cases e with
    | int k =>
      obtain ⟨rfl, o1⟩ := hd
      cases he
      simp only [binD] at h
      split at h
      · rename_i hc
        unfold repOk at hc
        simp only [Bool.and_eq_true, decide_eq_true_eq] at hc
        obtain ⟨t, rfl⟩ := rx
        obtain ⟨t', rfl⟩ := ry
        refine SB.mul (mulOkS hc.1.1 hc.1.2 hc.2) fun t2 k2 => ?_
        rw [mul_toS]
        exact ⟨.str _, H, I.tok _, ⟨_, rfl⟩, fin1 (e := .non) (w := .non) R h q ⟨rfl, okT_rep o1 _⟩⟩
      · cases h
    | _ => cases h
  | ref m =>
    cases e with
    | int k =>
      cases he
      simp only [binD] at h
      split at h
      · rename_i a e1
        obtain ⟨_, p1, vs, i1, h1, r1⟩ := seqOf_at R e1
        split at h
        · rename_i hc
          unfold repOk at hc
          simp only [Bool.and_eq_true, decide_eq_true_eq] at hc
          have l1 := r1.length
          have p1' : (2 : Int) ^ 62 = 4611686018427387904 := by decide
          have p2 : (2 : Int) ^ 63 = 9223372036854775808 := by decide
          exact op_rep pins s σ H _ _ v u Q I rx ry ⟨p1, k, vs, ref_at hd i1, rfl, h1, by omega, by omega, by rw [l1, ← SZ_eq]; exact hc.2, finL R h q (r1.rep _)⟩
        · cases h
      · cases h
    | _ => cases h
  | _ => cases e <;> cases h
/-- the operators that are shown here -/
def binShown : Bop → Bool
  | .tmul => false
  | _ => true
theorem opBin (hK : S.K = X.K) {op : Bop} (h : binShown op = true) : OpR X (binaryOp (pyB op)) (rB S (binD op)) := by
  cases op with
  | add => exact opAdd hK
  | sub => exact opSub
  | mul => exact opMul
  | fdiv => exact opFdiv
  | mod => exact opMod
  | pow => exact opPow
  | band => exact opBand
  | bor => exact opBor
  | tmul => cases h
end
end PD

set_option Elab.async false
set_option linter.all false
set_option autoImplicit false
set_option maxRecDepth 100000
set_option maxHeartbeats 1000000
/-! PdCmp: ==, !=, in, not in, <, <= .. on plain data are the model's. -/
namespace PD
open PySem L2

/-! ### plain data by the model's data -/
theorem viewD_clean (g : Nat → Option PyData) : ∀ (d : D) (k : Nat), D.clean d k = true → viewD g d = some d.py
  | .non, _, _ => rfl
  | .int _, _, _ => rfl
  | .str _, _, _ => rfl
  | .tup ds, 0, h => by simp [D.clean] at h
  | .tup ds, k + 1, h => by
    have h' : D.cleans ds k = true := h
    have ih : ∀ (ds : List D), D.cleans ds k = true → viewDs g ds = some (D.pys ds) := by
      intro ds
      induction ds with
      | nil => intro _; rfl
      | cons d ds ih =>
        intro h
        have h2 : (D.clean d k && D.cleans ds k) = true := h
        rw [Bool.and_eq_true] at h2
        show (match viewD g d, viewDs g ds with | some a, some as => some (a :: as) | _, _ => none) = _
        rw [viewD_clean g d k h2.1, ih h2.2]
        rfl
    show (viewDs g ds).map PyData.tuple = _
    rw [ih ds h']
    rfl
  | .bl _, _, h => by simp [D.clean] at h
  | .ref _, _, h => by simp [D.clean] at h
  | .fn _, _, h => by simp [D.clean] at h
  | .exc _ _, _, h => by simp [D.clean] at h
  | .fro _, _, h => by simp [D.clean] at h
theorem view_clean (M : Mem) (j : Nat) {d : D} {k : Nat} (h : D.clean d k = true) : view M j d = some d.py := by
  cases j <;> exact viewD_clean _ d k h
theorem cleans_mem {k : Nat} : ∀ {ds : List D} {d : D}, D.cleans ds k = true → d ∈ ds → D.clean d k = true
  | e :: ds, d, h, hd => by
    have h2 : (D.clean e k && D.cleans ds k) = true := h
    rw [Bool.and_eq_true] at h2
    rcases List.mem_cons.mp hd with r | r
    · rw [r]; exact h2.1
    · exact cleans_mem h2.2 r
theorem depth_clean : ∀ (d : D) (k : Nat), D.clean d k = true → d.py.depth ≤ k
  | .non, _, _ => Nat.zero_le _
  | .int _, _, _ => Nat.zero_le _
  | .str _, _, _ => Nat.zero_le _
  | .tup ds, 0, h => by simp [D.clean] at h
  | .tup ds, k + 1, h => by
    have h' : D.cleans ds k = true := h
    have ih : ∀ (ds : List D), D.cleans ds k = true → PyData.depthAll (D.pys ds) ≤ k := by
      intro ds
      induction ds with
      | nil => intro _; exact Nat.zero_le _
      | cons d ds ih =>
        intro h
        have h2 : (D.clean d k && D.cleans ds k) = true := h
        rw [Bool.and_eq_true] at h2
        exact Nat.max_le.mpr ⟨depth_clean d k h2.1, ih h2.2⟩
    exact Nat.succ_le_succ (ih ds h')
  | .bl _, _, h => by simp [D.clean] at h
  | .ref _, _, h => by simp [D.clean] at h
  | .fn _, _, h => by simp [D.clean] at h
  | .exc _ _, _, h => by simp [D.clean] at h
  | .fro _, _, h => by simp [D.clean] at h
theorem toS_inj {a b : T} (h : toS a = toS b) : a = b := by
  have := congrArg (fun s : Str => s.cps.toList) h
  simpa [toS] using this
mutual
theorem eqv_clean : ∀ (x y : D) (k j : Nat), D.clean x k = true → D.clean y j = true → PyData.eqv x.py y.py = decide (x = y)
  | .non, y, k, j, hx, hy => by cases y <;> simp [D.clean] at hy <;> rfl
  | .int a, y, k, j, hx, hy => by
    cases y with
    | int b =>
      show (a == b) = _
      rw [Bool.eq_iff_iff]
      simp
    | non => rfl
    | str _ => rfl
    | tup _ => rfl
    | _ => simp [D.clean] at hy
  | .str a, y, k, j, hx, hy => by
    cases y with
    | str b =>
      show (toS a == toS b) = _
      rw [Bool.eq_iff_iff]
      simp only [beq_iff_eq, decide_eq_true_eq, D.str.injEq]
      exact ⟨toS_inj, fun e => by rw [e]⟩
    | non => rfl
    | int _ => rfl
    | tup _ => rfl
    | _ => simp [D.clean] at hy
  | .tup a, y, k, j, hx, hy => by
    cases k with
    | zero => simp [D.clean] at hx
    | succ k =>
      cases y with
      | tup b =>
        cases j with
        | zero => simp [D.clean] at hy
        | succ j =>
          show PyData.eqvAll (D.pys a) (D.pys b) = _
          rw [eqvs_clean a b k j hx hy, Bool.eq_iff_iff]
          simp
      | non => rfl
      | int _ => rfl
      | str _ => rfl
      | _ => simp [D.clean] at hy
  | .bl _, _, _, _, h, _ => by simp [D.clean] at h
  | .ref _, _, _, _, h, _ => by simp [D.clean] at h
  | .fn _, _, _, _, h, _ => by simp [D.clean] at h
  | .exc _ _, _, _, _, h, _ => by simp [D.clean] at h
  | .fro _, _, _, _, h, _ => by simp [D.clean] at h
theorem eqvs_clean : ∀ (xs ys : List D) (k j : Nat), D.cleans xs k = true → D.cleans ys j = true → PyData.eqvAll (D.pys xs) (D.pys ys) = decide (xs = ys)
  | [], [], _, _, _, _ => by rfl
  | [], _ :: _, _, _, _, _ => by simp [D.pys, PyData.eqvAll]
  | _ :: _, [], _, _, _, _ => by simp [D.pys, PyData.eqvAll]
  | x :: xs, y :: ys, k, j, hx, hy => by
    have h1 : (D.clean x k && D.cleans xs k) = true := hx
    have h2 : (D.clean y j && D.cleans ys j) = true := hy
    rw [Bool.and_eq_true] at h1 h2
    show (PyData.eqv x.py y.py && PyData.eqvAll (D.pys xs) (D.pys ys)) = _
    rw [eqv_clean x y k j h1.1 h2.1, eqvs_clean xs ys k j h1.2 h2.2, Bool.eq_iff_iff]
    simp
end
section
variable {X : Cx} {S : Sta} {ι : List Addr} {H : Hp} {M : Mem}
theorem strOk_of {x : T} (h : OkT x) : PyData.strOk (toS x) = true := by
  show (toS x).cps.all (· < 0x110000) = true
  rw [← Array.all_toList]
  simp only [toS, List.all_eq_true, decide_eq_true_eq]
  exact fun c hc => h c hc
/-- the view of a datum is what stands at its value -/
theorem dp_viewD {g : Nat → Option PyData} (hK : S.K = X.K) (hg : ∀ n p a, g n = some p → ι[n]? = some a → Dp X.K H (.ref a) p ∧ p.canLay0 = true) :
    ∀ (d : D) (v : V) (p : PyData), viewD g d = some p → RV S ι H d v → Dp X.K H v p ∧ p.canLay0 = true
  | .non, v, p, h, r => by
    cases h
    rw [show v = V.non from r]
    exact ⟨.non, rfl⟩
  | .bl b, v, p, h, r => by
    cases h
    rw [show v = V.bl b from r]
    exact ⟨.bl b, rfl⟩
  | .int i, v, p, h, r => by
    cases h
    rw [show v = V.int i from r]
    exact ⟨.int i, rfl⟩
  | .str x, v, p, h, r => by
    cases h
    obtain ⟨rfl, o⟩ := r
    exact ⟨.str _, strOk_of o⟩
  | .tup ds, v, p, h, r => by
    have ih : ∀ (ds : List D) (vs : List V) (ps : List PyData), (∀ d ∈ ds, ∀ (v : V) (p : PyData), viewD g d = some p → RV S ι H d v → Dp X.K H v p ∧ p.canLay0 = true) → viewDs g ds = some ps → RVs S ι H ds vs → DpAll X.K H vs ps ∧ PyData.canLayAll0 ps = true := by
      intro ds
      induction ds with
      | nil =>
        intro vs ps _ h r
        cases h
        rw [show vs = [] from r]
        exact ⟨.nil, rfl⟩
      | cons d ds ih =>
        intro vs ps hd h r
        obtain ⟨v, q, rfl, r1, r2⟩ := r
        have h' : (match viewD g d, viewDs g ds with | some a, some as => some (a :: as) | _, _ => none) = some ps := h
        cases e1 : viewD g d with
        | none => rw [e1] at h'; cases h'
        | some a =>
          cases e2 : viewDs g ds with
          | none => rw [e1, e2] at h'; cases h'
          | some as =>
            rw [e1, e2] at h'
            cases h'
            obtain ⟨a1, a2⟩ := hd d List.mem_cons_self v a e1 r1
            obtain ⟨b1, b2⟩ := ih q as (fun d hm => hd d (List.mem_cons_of_mem _ hm)) e2 r2
            exact ⟨.cons a1 b1, by show (a.canLay0 && PyData.canLayAll0 as) = true; rw [a2, b2]; rfl⟩
    obtain ⟨a, vs, rfl, t, r⟩ := r
    have h' : (viewDs g ds).map PyData.tuple = some p := h
    cases e : viewDs g ds with
    | none => rw [e] at h'; cases h'
    | some ps =>
      rw [e] at h'
      cases h'
      obtain ⟨a1, a2⟩ := ih ds vs ps (fun d hm v p => dp_viewD hK hg d v p) e r
      rw [hK] at t
      exact ⟨.tup t a1, a2⟩
  | .ref n, v, p, h, r => by
    obtain ⟨a, e, rfl⟩ := r
    exact hg n p a h e
  | .fn _, _, _, h, _ => by cases h
  | .exc _ _, _, _, h, _ => by cases h
  | .fro _, _, _, h, _ => by cases h
theorem dp_viewDs {g : Nat → Option PyData} (hK : S.K = X.K) (hg : ∀ n p a, g n = some p → ι[n]? = some a → Dp X.K H (.ref a) p ∧ p.canLay0 = true) :
    ∀ (ds : List D) (vs : List V) (ps : List PyData), viewDs g ds = some ps → RVs S ι H ds vs → DpAll X.K H vs ps ∧ PyData.canLayAll0 ps = true := by
  intro ds
  induction ds with
  | nil =>
    intro vs ps h r
    cases h
    rw [show vs = [] from r]
    exact ⟨.nil, rfl⟩
  | cons d ds ih =>
    intro vs ps h r
    obtain ⟨v, q, rfl, r1, r2⟩ := r
    have h' : (match viewD g d, viewDs g ds with | some a, some as => some (a :: as) | _, _ => none) = some ps := h
    cases e1 : viewD g d with
    | none => rw [e1] at h'; cases h'
    | some a =>
      cases e2 : viewDs g ds with
      | none => rw [e1, e2] at h'; cases h'
      | some as =>
        rw [e1, e2] at h'
        cases h'
        obtain ⟨a1, a2⟩ := dp_viewD hK hg d v a e1 r1
        obtain ⟨b1, b2⟩ := ih q as e2 r2
        exact ⟨.cons a1 b1, by show (a.canLay0 && PyData.canLayAll0 as) = true; rw [a2, b2]; rfl⟩
theorem dp_view (hK : S.K = X.K) (R : RM S ι M H) : ∀ (k : Nat) (d : D) (v : V) (p : PyData), view M k d = some p → RV S ι H d v → Dp X.K H v p ∧ p.canLay0 = true
  | 0, d, v, p, h, r => dp_viewD hK (fun n p a e => by cases e) d v p h r
  | k + 1, d, v, p, h, r => by
    refine dp_viewD hK (fun n p a e hn => ?_) d v p h r
    cases em : M[n]? with
    | none => rw [em] at e; cases e
    | some o =>
      rw [em] at e
      cases o with
      | lst ds =>
        obtain ⟨b, hb, vs, e1, e2⟩ := R.at em
        rw [hn] at hb
        cases hb
        have e' : (viewDs (fun m => view M k (.ref m)) ds).map PyData.list = some p := e
        cases q : viewDs (fun m => view M k (.ref m)) ds with
        | none => rw [q] at e'; cases e'
        | some ps =>
          rw [q] at e'
          cases e'
          obtain ⟨a1, a2⟩ := dp_viewDs hK (fun m p c z hc => dp_view hK R k (.ref m) (.ref c) p z ⟨c, hc, rfl⟩) ds vs ps q e2
          exact ⟨.lst (.of e1) a1, a2⟩
      | _ => cases e
theorem viewF_ok (hK : S.K = X.K) (R : RM S ι M H) {x : D} {v : V} {p : PyData} (hx : RV S ι H x v) (h : viewF M x = some p) : Dp X.K H v p ∧ SeqAt.shaped p = true := by
  unfold viewF at h
  split at h
  · rename_i hc
    cases h
    obtain ⟨a1, a2⟩ := dp_view hK R 0 x v _ (view_clean M 0 hc) hx
    refine ⟨a1, ?_⟩
    show (_ && decide _) = true
    rw [a2, decide_eq_true (Nat.le_trans (depth_clean x _ hc) (by decide))]
    rfl
  · cases e1 : view M 8 x with
    | none => rw [e1] at h; cases h
    | some p' =>
      rw [e1] at h
      simp only at h
      split at h
      · rename_i hd
        cases h
        obtain ⟨a1, a2⟩ := dp_view hK R 8 x v _ e1 hx
        refine ⟨a1, ?_⟩
        show (_ && decide _) = true
        rw [a2, decide_eq_true hd]
        rfl
      · cases h
theorem viewF_clean {x : D} (h : D.clean x 20 = true) : viewF M x = some x.py := if_pos h
theorem eqO_view {x y : D} {b : Bool} (h : eqO M x y = some b) : ∃ p q, viewF M x = some p ∧ viewF M y = some q ∧ PyData.eqv p q = b := by
  unfold eqO at h
  split at h
  · rename_i hc
    rw [Bool.and_eq_true] at hc
    cases h
    exact ⟨_, _, viewF_clean hc.1, viewF_clean hc.2, eqv_clean x y _ _ hc.1 hc.2⟩
  · split at h
    · rename_i a b e1 e2
      cases h
      exact ⟨a, b, e1, e2, rfl⟩
    · cases h
theorem eqO_ok (hK : S.K = X.K) (R : RM S ι M H) {x y : D} {v w : V} {b : Bool} (hx : RV S ι H x v) (hy : RV S ι H y w) (h : eqO M x y = some b) :
    ∃ p q, Dp X.K H v p ∧ Dp X.K H w q ∧ SeqAt.shaped p = true ∧ SeqAt.shaped q = true ∧ PyData.eqv p q = b := by
  obtain ⟨p, q, e1, e2, e3⟩ := eqO_view h
  obtain ⟨a1, a2⟩ := viewF_ok hK R hx e1
  obtain ⟨b1, b2⟩ := viewF_ok hK R hy e2
  exact ⟨p, q, a1, b1, a2, b2, e3⟩
/-- a comparison on data, as a reading by values -/
def rC (S : Sta) (f : D → D → Mem → Option Bool) : R2 := fun x y H Q => ∃ ι M d e b, RM S ι M H ∧ RV S ι H d x ∧ RV S ι H e y ∧ f d e M = some b ∧ Q (.bl b) H
theorem opEq (hK : S.K = X.K) (hu : X.A.units + 64 < cLine) : OpR X (compareOp .Eq) (rC S (cmpD .eq)) := by
  intro pins s σ H x y v u Q I rx ry h
  obtain ⟨ι, M, d, e, b, R, hd, he, h, q⟩ := h
  obtain ⟨p, r, h1, h2, h3, h4, h5⟩ := eqO_ok hK R hd he h
  exact op_eqD hu pins s σ H x y v u Q I rx ry ⟨p, r, h1, h2, h3, h4, by rw [h5]; exact q⟩
theorem opNe (hK : S.K = X.K) (hu : X.A.units + 64 < cLine) : OpR X (compareOp .NotEq) (rC S (cmpD .ne)) := by
  intro pins s σ H x y v u Q I rx ry h
  obtain ⟨ι, M, d, e, b, R, hd, he, h, q⟩ := h
  have h' : (eqO M d e).map not = some b := h
  cases ee : eqO M d e with
  | none => rw [ee] at h'; cases h'
  | some c =>
    rw [ee] at h'
    cases h'
    obtain ⟨p, r, h1, h2, h3, h4, h5⟩ := eqO_ok hK R hd he ee
    exact op_neD hu pins s σ H x y v u Q I rx ry ⟨p, r, h1, h2, h3, h4, by rw [h5]; exact q⟩
/-- the items of a sequence, each seen -/
theorem anyEq_view (hK : S.K = X.K) (R : RM S ι M H) {x : D} : ∀ {ds : List D} {vs : List V} {b : Bool}, RVs S ι H ds vs → anyEq M x ds = some b →
    ∃ q ps, viewF M x = some q ∧ DpAll X.K H vs ps ∧ PyData.canLayAll0 ps = true ∧ (ps.any fun p => PyData.eqv p q) = b
  | [], vs, b, r, h => by
    rw [show vs = [] from r]
    have h' : (if (viewF M x).isSome then some false else none) = some b := h
    split at h'
    · rename_i hs
      cases h'
      obtain ⟨q, e⟩ := Option.isSome_iff_exists.mp hs
      exact ⟨q, [], e, .nil, rfl, rfl⟩
    · cases h'
  | y :: ys, _, b, ⟨v, r, rfl, h1, h2⟩, h => by
    have h' : (match eqO M y x, anyEq M x ys with | some b, some c => some (b || c) | _, _ => none) = some b := h
    cases e1 : eqO M y x with
    | none => rw [e1] at h'; cases h'
    | some b1 =>
      cases e2 : anyEq M x ys with
      | none => rw [e1, e2] at h'; cases h'
      | some b2 =>
        rw [e1, e2] at h'
        cases h'
        obtain ⟨q, ps, f1, f2, f3, f4⟩ := anyEq_view hK R h2 e2
        obtain ⟨p, q', g1, g2, g3⟩ := eqO_view e1
        rw [f1] at g2
        cases g2
        obtain ⟨a1, a2⟩ := viewF_ok hK R h1 g1
        refine ⟨q, p :: ps, f1, .cons a1 f2, ?_, ?_⟩
        · show (p.canLay0 && PyData.canLayAll0 ps) = true
          rw [SeqAt.canLay_of_shaped a2, f3]
          rfl
        · rw [List.any_cons, g3, f4]
theorem room_in {A : Around} {xs : List PyData} {d : PyData} (hd : SeqAt.shaped d = true) (hu : A.units + 65 < cLine) : A.units + 1 + min (PyData.depthAll xs) d.depth < cLine := by
  have h1 := SeqAt.depth_of_shaped hd
  have h2 : min (PyData.depthAll xs) d.depth ≤ d.depth := Nat.min_le_right _ _
  omega
theorem inD_seq (hK : S.K = X.K) {pins : List (Addr × Obj)} {s : Shared} {σ : St} {x y : V} {v u : Value} {d e : D} {b : Bool} (I : Inv X pins σ H s) (rx : RelV x v) (ry : RelV y u) (R : RM S ι M H) (hd : RV S ι H d x) (he : RV S ι H e y)
    (h : inD d e M = some b) :
    (∃ (c : Nat) (z : Str), x = .str ⟨#[c]⟩ ∧ y = .str z ∧ decide (c ∈ z.cps.toList) = b) ∨
    (∃ q ps as bs, ((Reads s.heap u (.list ps) as) ∨ Reads s.heap u (.tuple ps) as) ∧ Reads s.heap v q bs ∧ PyData.canLayAll0 ps = true ∧ SeqAt.shaped q = true ∧ (ps.any fun p => PyData.eqv p q) = b) ∨
    (∃ n tk kvs, e = .ref n ∧ M[n]? = some (.dct tk kvs) ∧ keyOf tk d = true ∧ (lookD d kvs).isSome = b) := by
  have seq : ∀ (ds : List D) (a : Addr) (vs : List V), RVs S ι H ds vs → anyEq M d ds = some b → (SqL X.K H a vs ∨ SqT X.K H a vs) → y = .ref a →
      ∃ q ps as bs, ((Reads s.heap u (.list ps) as) ∨ Reads s.heap u (.tuple ps) as) ∧ Reads s.heap v q bs ∧ PyData.canLayAll0 ps = true ∧ SeqAt.shaped q = true ∧ (ps.any fun p => PyData.eqv p q) = b := by
    intro ds a vs r ha hs ey
    obtain ⟨q, ps, f1, f2, f3, f4⟩ := anyEq_view hK R r ha
    obtain ⟨a1, a2⟩ := viewF_ok hK R hd f1
    obtain ⟨bs, r1⟩ := Dp.reads I q x v a1 rx
    rw [ey] at ry
    rcases hs with hs | hs
    · obtain ⟨as, r2⟩ := Dp.reads I (.list ps) (.ref a) u (.lst hs f2) ry
      exact ⟨q, ps, as, bs, .inl r2, r1, f3, a2, f4⟩
    · obtain ⟨as, r2⟩ := Dp.reads I (.tuple ps) (.ref a) u (.tup hs f2) ry
      exact ⟨q, ps, as, bs, .inr r2, r1, f3, a2, f4⟩
  cases e with
  | str z =>
    obtain ⟨rfl, o⟩ := he
    cases d with
    | str w =>
      cases w with
      | nil => cases h
      | cons c w =>
        cases w with
        | nil =>
          obtain ⟨rfl, o2⟩ := hd
          cases h
          refine .inl ⟨c, toS z, rfl, rfl, ?_⟩
          show decide (c ∈ z.toArray.toList) = z.contains c
          rw [Bool.eq_iff_iff]
          simp
        | cons c2 w => cases h
    | _ => cases h
  | tup ds =>
    obtain ⟨a, vs, e1, t, r⟩ := he
    rw [hK] at t
    exact .inr (.inl (seq ds a vs r h (.inr t) e1))
  | ref n =>
    have h' : (match M[n]? with
      | some (.lst ds) => anyEq M d ds
      | some (.dct tk kvs) => if keyOf tk d then some (lookD d kvs).isSome else none
      | _ => none) = some b := h
    cases em : M[n]? with
    | none => rw [em] at h'; cases h'
    | some o =>
      rw [em] at h'
      cases o with
      | lst ds =>
        obtain ⟨a, ha, vs, e1, e2⟩ := R.at em
        exact .inr (.inl (seq ds a vs e2 h' (.inl (.of e1)) (ref_at he ha)))
      | dct tk kvs =>
        have h2 : (if keyOf tk d then some (lookD d kvs).isSome else none) = some b := h'
        split at h2
        · rename_i hk
          cases h2
          exact .inr (.inr ⟨n, tk, kvs, rfl, em, hk, rfl⟩)
        · cases h2
      | ins c fs => cases h'
  | _ => cases h
theorem leT_iff (a b : T) : (!decide ((toS b).cps.toList < (toS a).cps.toList)) = leT a b := by
  unfold leT
  rw [Bool.eq_iff_iff]
  simp only [toS, Bool.not_eq_true', decide_eq_true_eq, decide_eq_false_iff_not]
  exact Iff.intro (fun h => List.not_lt.mp (of_decide_eq_false h)) fun h => decide_eq_false (List.not_lt.mpr h)

/-! ### dicts of texts and numbers -/
theorem keyK_inj {a b : D} {k : Key} (h : keyK a = some k) (h' : keyK b = some k) : a = b := by
  cases a with
  | int i =>
    cases h
    cases b with
    | int j => cases h'; rfl
    | str y => cases h'
    | _ => cases h'
  | str x =>
    cases h
    cases b with
    | int j => cases h'
    | str y =>
      have e : toS y = toS x := Sum.inr.inj (Option.some.inj h')
      rw [toS_inj e]
    | _ => cases h'
  | _ => cases h
theorem RK_look {k : D} {kk : Key} (hk : keyK k = some kk) : ∀ {l : List (D × D)} {q : List (Key × V)}, RK S ι H l q →
    (match lookD k l with
      | some d => ∃ v, valV q kk = some v ∧ RV S ι H d v
      | none => valV q kk = none)
  | [], q, h => by rw [show q = [] from h]; rfl
  | (a, d) :: r, _, ⟨ka, v, q, rfl, h1, h2, h3, h4⟩ => by
    have ih := RK_look hk h4
    show (match (if a = k then some d else lookD k r) with | some d => _ | none => _)
    by_cases e : a = k
    · rw [if_pos e]
      rw [e, hk] at h1
      cases h1
      exact ⟨v, valV_pos rfl, h3⟩
    · rw [if_neg e, valV_neg (fun z => e (keyK_inj h1 (by rw [hk]; exact congrArg some (by exact z.symm))))]
      exact ih
theorem RK_isSome {k : D} {kk : Key} (hk : keyK k = some kk) {l : List (D × D)} {q : List (Key × V)} (r : RK S ι H l q) : (valV q kk).isSome = (lookD k l).isSome := by
  have h := RK_look hk r
  cases e : lookD k l with
  | none => rw [e] at h; rw [show valV q kk = none from h]; rfl
  | some d => rw [e] at h; obtain ⟨v, h1, _⟩ := h; rw [h1]; rfl
theorem keyK_of {k : D} {x : V} (h : keyOf false k = true) (r : RV S ι H k x) : ∃ kk, keyK k = some kk ∧ x = kV kk ∧ (∀ y, k = .str y → OkT y) := by
  cases k with
  | int i => exact ⟨_, rfl, r, fun _ e => by cases e⟩
  | str y => exact ⟨_, rfl, r.1, fun z e => by cases e; exact r.2⟩
  | _ => cases h
theorem opIn (hK : S.K = X.K) (hu : X.A.units + 65 < cLine) : OpR X (compareOp .In) (rC S (cmpD .inn)) := by
  intro pins s σ H x y v u Q I rx ry h
  obtain ⟨ι, M, d, e, b, R, hd, he, h, q⟩ := h
  rcases inD_seq hK I rx ry R hd he h with ⟨c, z, e1, e2, e3⟩ | ⟨p, ps, as, bs, r2, r1, f3, a2, f4⟩ | ⟨n, tk, kvs, e1, e2, e3, e4⟩
  · exact op_in_sign pins s σ H x y v u Q I rx ry ⟨c, z, e1, e2, by rw [e3]; exact q⟩
  · rcases r2 with r2 | r2
    · exact SeqAt.in_list_reads r2 r1 f3 (SeqAt.canLay_of_shaped a2) (room_in a2 hu) ⟨.bl _, H, I, rfl, by rw [f4]; exact q⟩
    · exact SeqAt.in_tuple_reads r2 r1 f3 (SeqAt.canLay_of_shaped a2) (room_in a2 hu) ⟨.bl _, H, I, rfl, by rw [f4]; exact q⟩
  · obtain ⟨a, ha, hr⟩ := R.at e2
    subst e1
    have ey := ref_at he ha
    subst ey
    cases ry
    cases tk with
    | true => exact False.elim hr
    | false =>
      obtain ⟨kv, k1, k2⟩ := hr
      obtain ⟨kk, j1, j2, _⟩ := keyK_of e3 hd
      subst j2
      exact d_in (by omega) I (DGet.k (k := kk) k1) rx fun s' I' => ⟨.bl _, H, I', rfl, by rw [RK_isSome j1 k2, e4]; exact q⟩
theorem opNin (hK : S.K = X.K) (hu : X.A.units + 65 < cLine) : OpR X (compareOp .NotIn) (rC S (cmpD .nin)) := by
  intro pins s σ H x y v u Q I rx ry h
  obtain ⟨ι, M, d, e, b, R, hd, he, h, q⟩ := h
  have h' : (inD d e M).map not = some b := h
  cases ee : inD d e M with
  | none => rw [ee] at h'; cases h'
  | some c =>
    rw [ee] at h'
    cases h'
    rcases inD_seq hK I rx ry R hd he ee with ⟨c, z, e1, e2, e3⟩ | ⟨p, ps, as, bs, r2, r1, f3, a2, f4⟩ | ⟨n, tk, kvs, e1, e2, e3, e4⟩
    · exact op_notIn_sign pins s σ H x y v u Q I rx ry ⟨c, z, e1, e2, by rw [e3]; exact q⟩
    · rcases r2 with r2 | r2
      · exact SeqAt.notIn_list_reads r2 r1 f3 (SeqAt.canLay_of_shaped a2) (room_in a2 hu) ⟨.bl _, H, I, rfl, by rw [f4]; exact q⟩
      · exact SeqAt.notIn_tuple_reads r2 r1 f3 (SeqAt.canLay_of_shaped a2) (room_in a2 hu) ⟨.bl _, H, I, rfl, by rw [f4]; exact q⟩
    · obtain ⟨a, ha, hr⟩ := R.at e2
      subst e1
      have ey := ref_at he ha
      subst ey
      cases ry
      cases tk with
      | true => exact False.elim hr
      | false =>
        obtain ⟨kv, k1, k2⟩ := hr
        obtain ⟨kk, j1, j2, _⟩ := keyK_of e3 hd
        subst j2
        exact d_notIn (by omega) I (DGet.k (k := kk) k1) rx fun s' I' => ⟨.bl _, H, I', rfl, by rw [RK_isSome j1 k2, e4]; exact q⟩
theorem opLe : OpR X (compareOp .LtE) (rC S (cmpD .le)) := by
  intro pins s σ H x y v u Q I rx ry h
  obtain ⟨ι, M, d, e, b, R, hd, he, h, q⟩ := h
  cases d with
  | int i =>
    cases e with
    | int j => cases hd; cases he; cases h; exact op_le pins s σ H _ _ v u Q I rx ry ⟨i, j, rfl, rfl, q⟩
    | _ => cases h
  | str a =>
    cases e with
    | str c =>
      obtain ⟨rfl, _⟩ := hd
      obtain ⟨rfl, _⟩ := he
      cases h
      exact op_le_str pins s σ H _ _ v u Q I rx ry ⟨_, _, rfl, rfl, by rw [leT_iff]; exact q⟩
    | _ => cases h
  | _ => cases e <;> cases h
theorem opLtI : OpR X (compareOp .Lt) (rC S (cmpD .lt)) := by
  intro pins s σ H x y v u Q I rx ry h
  obtain ⟨ι, M, d, e, b, R, hd, he, h, q⟩ := h
  cases d with
  | int i =>
    cases e with
    | int j => cases hd; cases he; cases h; exact op_lt pins s σ H _ _ v u Q I rx ry ⟨i, j, rfl, rfl, q⟩
    | _ => cases h
  | str a =>
    cases e with
    | str c =>
      obtain ⟨rfl, _⟩ := hd
      obtain ⟨rfl, _⟩ := he
      cases h
      exact op_lt_str pins s σ H _ _ v u Q I rx ry ⟨_, _, rfl, rfl, q⟩
    | _ => cases h
  | _ => cases e <;> cases h
theorem opGtI : OpR X (compareOp .Gt) (rC S (cmpD .gt)) := by
  intro pins s σ H x y v u Q I rx ry h
  obtain ⟨ι, M, d, e, b, R, hd, he, h, q⟩ := h
  cases d with
  | int i =>
    cases e with
    | int j => cases hd; cases he; cases h; exact op_gt pins s σ H _ _ v u Q I rx ry ⟨i, j, rfl, rfl, q⟩
    | _ => cases h
  | _ => cases e <;> cases h
theorem opGeI : OpR X (compareOp .GtE) (rC S (cmpD .ge)) := by
  intro pins s σ H x y v u Q I rx ry h
  obtain ⟨ι, M, d, e, b, R, hd, he, h, q⟩ := h
  cases d with
  | int i =>
    cases e with
    | int j => cases hd; cases he; cases h; exact op_ge pins s σ H _ _ v u Q I rx ry ⟨i, j, rfl, rfl, q⟩
    | _ => cases h
  | _ => cases e <;> cases h
/-- the comparisons that are shown here -/
def cmpShown : Cop → Bool
  | .geT => false
  | _ => true
theorem opCmp (hK : S.K = X.K) (hu : X.A.units + 65 < cLine) {op : Cop} (h : cmpShown op = true) : OpR X (compareOp (pyC op)) (rC S (cmpD op)) := by
  cases op with
  | eq => exact opEq hK (by omega)
  | ne => exact opNe hK (by omega)
  | lt => exact opLtI
  | le => exact opLe
  | gt => exact opGtI
  | ge => exact opGeI
  | inn => exact opIn hK hu
  | nin => exact opNin hK hu
  | geT => cases h
end
end PD

set_option Elab.async false
set_option linter.all false
set_option autoImplicit false
set_option maxRecDepth 100000
set_option maxHeartbeats 1000000
/-! PdIx: items, slices, stores by place, on plain data. -/
namespace PD
open PySem L2 PyProof.Rows
theorem ixD_eq (n : Nat) (i : Int) : ixD n i = ixN n i := rfl
theorem clip_eq (n d : Nat) (o : Option Int) : clip n d o = HT.sIx n d o := by
  cases o <;> rfl
theorem ofO_ok {α : Type} {o : Option α} {M M' : Mem} {z : α} (h : Rs.ofO o M = .ok z M') : o = some z ∧ M' = M := by
  cases o with
  | none => cases h
  | some a => cases h; exact ⟨rfl, rfl⟩
theorem ixD_lt {n : Nat} {i : Int} {j : Nat} (h : ixD n i = some j) : j < n := (ixN_seq (show ixN n i = some j from h)).2.1
section
variable {X : Cx} {S : Sta} {ι : List Addr} {H : Hp} {M : Mem}
theorem atD_rv {ds : List D} {vs : List V} {i : Int} {d : D} (r : RVs S ι H ds vs) (h : atD ds i = some d) : ∃ v, atI vs i = some v ∧ RV S ι H d v := by
  unfold atD at h
  unfold atI
  rw [r.length, ← ixD_eq]
  cases e : ixD ds.length i with
  | none => rw [e] at h; cases h
  | some j =>
    rw [e] at h
    exact r.get h
/-- the value alone -/
theorem finV {z : D} {x : V} {Q : VK} (R : RM S ι M H) (q : ∀ ι' v H', Step S ι M H ι' M H' → RV S ι' H' z v → Q v H') (hx : RV S ι H z x) : Q x H := q ι x H (.refl R) hx
theorem ixOk (hK : S.K = X.K) (hu : X.A.units + 1 < cLine) : IxR X (rB S idxD) := by
  intro value slice pins s σ H x y v u Q I rx ry h hs
  obtain ⟨ι, M, d, e, z, M', R, hd, he, h, q⟩ := h
  cases d with
  | tup ds =>
    cases e with
    | int k =>
      obtain ⟨e1, rfl⟩ := ofO_ok h
      obtain ⟨a, vs, rfl, t, r⟩ := hd
      cases he
      obtain ⟨w, h1, h2⟩ := atD_rv r e1
      rw [hK] at t
      exact ix_tup value slice pins s σ H _ _ v u Q I rx ry ⟨a, vs, k, w, rfl, rfl, t, h1, finV R q h2⟩ hs
    | _ => cases h
  | fro ns =>
    cases e with
    | int k =>
      obtain ⟨e1, rfl⟩ := ofO_ok h
      obtain ⟨a, rfl, t⟩ := hd
      cases he
      rw [hK] at t
      cases e2 : atD ns k with
      | none => rw [e2] at e1; cases e1
      | some n =>
        rw [e2] at e1
        cases e1
        refine ix_list value slice pins s σ H _ _ v u Q I rx ry ⟨a, ns.map V.int, k, .int n, rfl, rfl, t.seq, ?_, finV (z := .int n) R q rfl⟩ hs
        unfold atI
        rw [List.length_map, ← ixD_eq]
        unfold atD at e2
        cases e3 : ixD ns.length k with
        | none => rw [e3] at e2; cases e2
        | some j =>
          rw [e3] at e2
          have e2' : ns[j]? = some n := e2
          show (ns.map V.int)[j]? = _
          rw [List.getElem?_map, e2']
          rfl
    | _ => cases h
  | str a =>
    cases e with
    | int k =>
      have h' : (if a.length ≤ SZ then Rs.ofO ((atD a k).map fun c => D.str [c]) M else .bad) = .ok z M' := h
      split at h'
      · rename_i hl
        obtain ⟨e1, rfl⟩ := ofO_ok h'
        obtain ⟨rfl, o⟩ := hd
        cases he
        cases e2 : atD a k with
        | none => rw [e2] at e1; cases e1
        | some c =>
          rw [e2] at e1
          cases e1
          refine ix_str value slice pins s σ H _ _ v u Q I rx ry ⟨toS a, k, c, rfl, rfl, by rw [toS_len, ← SZ_eq]; exact hl, ?_, finV (z := .str [c]) R q ⟨rfl, fun x hx => ?_⟩⟩ hs
          · show atI a.toArray.toList k = some c
            rw [show a.toArray.toList = a by simp]
            exact e2
          · rw [List.mem_singleton] at hx
            subst hx
            unfold atD at e2
            cases e3 : ixD a.length k with
            | none => rw [e3] at e2; cases e2
            | some j =>
              rw [e3] at e2
              exact o x (List.mem_of_getElem? (show a[j]? = some x from e2))
      · cases h'
    | _ => cases h
  | ref n =>
    have h' : (match M[n]? with
      | some (.lst ds) => (match e with
        | .int k => Rs.ofO (atD ds k) M
        | _ => .bad)
      | some (.dct tk kvs) => if keyOf tk e then Rs.ofO (lookD e kvs) M else .bad
      | _ => .bad) = .ok z M' := by
      cases e <;> exact h
    cases em : M[n]? with
    | none => rw [em] at h'; cases h'
    | some o =>
      rw [em] at h'
      cases o with
      | lst ds =>
        cases e with
        | int k =>
          obtain ⟨e1, rfl⟩ := ofO_ok h'
          obtain ⟨a, ha, vs, h1, r⟩ := R.at em
          have ex := ref_at hd ha
          subst ex
          cases he
          obtain ⟨w, w1, w2⟩ := atD_rv r e1
          exact ix_list value slice pins s σ H _ _ v u Q I rx ry ⟨a, vs, k, w, rfl, rfl, .of h1, w1, finV R q w2⟩ hs
        | _ => cases h'
      | dct tk kvs =>
        have h2 : (if keyOf tk e then Rs.ofO (lookD e kvs) M else .bad) = .ok z M' := h'
        split at h2
        · rename_i hk
          obtain ⟨e1, rfl⟩ := ofO_ok h2
          obtain ⟨a, ha, hr⟩ := R.at em
          have ex := ref_at hd ha
          subst ex
          cases tk with
          | true => exact False.elim hr
          | false =>
            obtain ⟨kv, k1, k2⟩ := hr
            obtain ⟨kk, j1, j2, _⟩ := keyK_of hk he
            subst j2
            cases rx
            have look := RK_look j1 k2
            rw [e1] at look
            obtain ⟨w, w1, w2⟩ := look
            have g := DGet.k (k := kk) k1
            exact tail_any (dict_typeIs I g) slot_dict_getitem.lookup (d_getItem hu I (by rw [← w1]; exact g) ry fun w' s' I' rw' => ⟨w, H, I', rw', finV R q w2⟩) hs
        · cases h2
      | ins c fs => cases h'
  | _ => cases e <;> cases h
/-! ### slices -/
theorem cut_map {α β : Type} (f : α → β) (xs : List α) (lo hi : Option Int) : cut (xs.map f) lo hi = (cut xs lo hi).map f := by
  unfold cut
  rw [List.length_map, List.map_take, List.map_drop]
theorem RVs.cut {ds : List D} {vs : List V} (r : RVs S ι H ds vs) (lo hi : Option Int) : RVs S ι H (cut ds lo hi) (cutV vs lo hi) := by
  unfold PD.cut cutV
  rw [clip_eq, clip_eq, r.length]
  exact (r.drop _).take _
theorem cut_all {ds : List D} {lo hi : Option Int} (h : HT.sIx ds.length 0 lo = 0 ∧ HT.sIx ds.length ds.length hi = ds.length) : cut ds lo hi = ds := by
  unfold PD.cut
  rw [clip_eq, clip_eq, h.1, h.2]
  simp
/-- a slice with two ends, as a reading by values -/
def rSl (S : Sta) : V → Option Int → Option Int → Hp → VK → Prop := fun x lo hi H Q => ∃ ι M d z M', RM S ι M H ∧ RV S ι H d x ∧ slcD d (lo.map .int) (hi.map .int) M = .ok z M' ∧ ∀ ι' v H', Step S ι M H ι' M' H' → RV S ι' H' z v → Q v H'
theorem partO_map (o : Option Int) : partO (o.map .int) = some o := by cases o <;> rfl
theorem slOk (hK : S.K = X.K) : SlR X (rSl S) := by
  intro pins s σ H x v vl vu lo hi sl Q I rx hs pl pu h
  obtain ⟨ι, M, d, z, M', R, hd, h, q⟩ := h
  unfold slcD at h
  rw [partO_map, partO_map] at h
  simp only at h
  cases d with
  | str a =>
    simp only at h
    split at h
    · rename_i hl
      cases h
      obtain ⟨rfl, o⟩ := hd
      refine sl_str pins s σ H _ v vl vu lo hi sl Q I rx hs pl pu ⟨toS a, rfl, by rw [toS_len, ← SZ_eq]; exact hl, finV (z := .str (PD.cut a lo hi)) R q ⟨?_, fun c hc => ?_⟩⟩
      · unfold cutS PD.cut
        rw [clip_eq, clip_eq, toS_len]
        simp [toS]
      · exact o c (List.mem_of_mem_drop (List.mem_of_mem_take hc))
    · cases h
  | tup ds =>
    cases h
    obtain ⟨a, vs, rfl, t, r⟩ := hd
    rw [hK] at t
    have l := r.length
    refine sl_tupA pins s σ H _ v vl vu lo hi sl Q I rx hs pl pu ⟨a, vs, rfl, t, fun hw => ?_, fun _ => finT R rfl q (r.cut lo hi)⟩
    refine finV R q ⟨a, vs, rfl, by rw [hK]; exact t, ?_⟩
    rw [cut_all (by rw [← l]; exact hw)]
    exact r
  | ref n =>
    simp only at h
    split at h
    · rename_i ds e1
      obtain ⟨_, p1, vs, i1, h1, r1⟩ := seqOf_at R e1
      exact sl_list pins s σ H _ v vl vu lo hi sl Q I rx hs pl pu ⟨p1, vs, ref_at hd i1, .of h1, finL R h q (r1.cut lo hi)⟩
    · cases h
  | fro ns =>
    obtain ⟨a, rfl, t⟩ := hd
    rw [hK] at t
    have r1 : RVs S ι H (ns.map .int) (ns.map V.int) := RVs.ints ns
    exact sl_list pins s σ H _ v vl vu lo hi sl Q I rx hs pl pu ⟨a, ns.map V.int, rfl, t.seq, finL R h q (by rw [← cut_map]; exact r1.cut lo hi)⟩
  | _ => cases h
/-! ### xs[i] = v -/
theorem RK.length : ∀ {l : List (D × D)} {q : List (Key × V)}, RK S ι H l q → q.length = l.length
  | [], q, h => by rw [show q = [] from h]; rfl
  | (k, d) :: r, _, ⟨kk, v, q, rfl, _, _, _, h⟩ => by rw [List.length_cons, List.length_cons, RK.length h]
theorem RK.keyEq {a : D} {ka : Key} {k : D} {kk : Key} (h : keyK a = some ka) (hk : keyK k = some kk) : (a = k) ↔ (ka = kk) :=
  ⟨fun e => by rw [e, hk] at h; exact (Option.some.inj h).symm, fun e => keyK_inj h (by rw [hk, e])⟩
theorem RK.any {k : D} {kk : Key} (hk : keyK k = some kk) : ∀ {l : List (D × D)} {q : List (Key × V)}, RK S ι H l q → (q.any fun p => decide (p.1 = kk)) = l.any fun p => decide (p.1 = k)
  | [], q, h => by rw [show q = [] from h]; rfl
  | (a, d) :: r, _, ⟨ka, v, q, rfl, h1, _, _, h4⟩ => by
    rw [List.any_cons, List.any_cons, RK.any hk h4]
    congr 1
    rw [decide_eq_decide]
    exact (RK.keyEq h1 hk).symm
theorem RK.repl {k : D} {kk : Key} (hk : keyK k = some kk) {d : D} {v : V} (hv : RV S ι H d v) : ∀ {l : List (D × D)} {q : List (Key × V)}, RK S ι H l q →
    RK S ι H (l.map fun p => if p.1 = k then (p.1, d) else p) (q.map fun p => if p.1 = kk then (p.1, v) else p)
  | [], q, h => by rw [show q = [] from h]; rfl
  | (a, e) :: r, _, ⟨ka, u, q, rfl, h1, h2, h3, h4⟩ => by
    rw [List.map_cons, List.map_cons]
    by_cases z : a = k
    · rw [if_pos (show (a, e).1 = k from z), if_pos (show (ka, u).1 = kk from (RK.keyEq h1 hk).mp z)]
      exact ⟨ka, v, _, rfl, h1, h2, hv, RK.repl hk hv h4⟩
    · rw [if_neg (show ¬ (a, e).1 = k from z), if_neg (show ¬ (ka, u).1 = kk from fun y => z ((RK.keyEq h1 hk).mpr y))]
      exact ⟨ka, u, _, rfl, h1, h2, h3, RK.repl hk hv h4⟩
theorem RK.snoc {k : D} {kk : Key} (hk : keyK k = some kk) (ho : ∀ y, k = .str y → OkT y) {d : D} {v : V} (hv : RV S ι H d v) : ∀ {l : List (D × D)} {q : List (Key × V)}, RK S ι H l q → RK S ι H (l ++ [(k, d)]) (q ++ [(kk, v)])
  | [], q, h => by rw [show q = [] from h]; exact ⟨kk, v, [], rfl, hk, ho, hv, rfl⟩
  | (a, e) :: r, _, ⟨ka, u, q, rfl, h1, h2, h3, h4⟩ => ⟨ka, u, _, rfl, h1, h2, h3, RK.snoc hk ho hv h4⟩
theorem RK.put {k : D} {kk : Key} (hk : keyK k = some kk) (ho : ∀ y, k = .str y → OkT y) {d : D} {v : V} (hv : RV S ι H d v) {l : List (D × D)} {q : List (Key × V)} (r : RK S ι H l q) : RK S ι H (putD k d l) (putK q kk v) := by
  unfold putD putK
  rw [RK.any hk r]
  split
  · exact RK.repl hk hv r
  · exact RK.snoc hk ho hv r
theorem RK.drop {k : D} {kk : Key} (hk : keyK k = some kk) : ∀ {l : List (D × D)} {q : List (Key × V)}, RK S ι H l q → RK S ι H (dropD k l) (dropK q kk)
  | [], q, h => by rw [show q = [] from h]; rfl
  | (a, e) :: r, _, ⟨ka, u, q, rfl, h1, h2, h3, h4⟩ => by
    have ih := RK.drop hk h4
    unfold dropD dropK at ih ⊢
    by_cases z : a = k
    · rw [List.filter_cons_of_neg (by simp [z]), List.filter_cons_of_neg (by simp [(RK.keyEq h1 hk).mp z])]
      exact ih
    · rw [List.filter_cons_of_pos (by simp [z]), List.filter_cons_of_pos (by simp [show ¬ ka = kk from fun y => z ((RK.keyEq h1 hk).mpr y)])]
      exact ⟨ka, u, _, rfl, h1, h2, h3, ih⟩
/-- a store by place on data -/
def rSetD (S : Sta) : TSet := fun o i v H Q => ∃ ι M d e f M', RM S ι M H ∧ RV S ι H d o ∧ RV S ι H e i ∧ RV S ι H f v ∧ setD d e f M = .ok () M' ∧ ∀ ι' H', Step S ι M H ι' M' H' → Q H'
theorem setOk (hu : X.A.units + 1 < cLine) : PSet X (rSetD S) := by
  intro pins s σ H o i v ov iv u Q I ro ri rv h
  obtain ⟨ι, M, d, e, f, M', R, hd, he, hf, h, q⟩ := h
  cases d with
  | ref n =>
    unfold setD at h
    cases em : M[n]? with
    | none => simp only [em] at h; cases h
    | some o =>
      simp only [em] at h
      cases o with
      | lst ds =>
        simp only at h
        cases e with
        | int k =>
          simp only at h
          split at h
          · rename_i j ej
            cases h
            obtain ⟨a, ha, vs, h1, r⟩ := R.at em
            cases he
            exact set_list pins s σ H _ _ v ov iv u Q I ro ri rv ⟨a, vs, k, j, ref_at hd ha, rfl, h1, by rw [r.length]; exact ej, q ι _ (Step.write R ha fun x e => ⟨_, e, (r.ext x).set (hf.ext x) j⟩)⟩
          · cases h
        | _ => cases h
      | dct tk kvs =>
        simp only at h
        split at h
        · rename_i hc
          rw [Bool.and_eq_true, decide_eq_true_eq] at hc
          cases h
          obtain ⟨a, ha, hr⟩ := R.at em
          have ex := ref_at hd ha
          subst ex
          cases tk with
          | true => exact False.elim hr
          | false =>
            obtain ⟨kv, k1, k2⟩ := hr
            obtain ⟨kk, j1, j2, j3⟩ := keyK_of hc.1 he
            subst j2
            cases ro
            exact d_setItem hu I (DPut.k (k := kk) k1 (by rw [k2.length, ← SZ_eq]; exact hc.2)) ri rv fun s' I' => ⟨_, I', q ι _ (Step.write R ha fun x e => ⟨_, e, (k2.ext x).put j1 j3 (hf.ext x)⟩)⟩
        · cases h
      | ins c fs => cases h
  | _ => cases h
end
end PD

set_option Elab.async false
set_option linter.all false
set_option autoImplicit false
set_option maxRecDepth 100000
set_option maxHeartbeats 1000000
/-! PdBlt: built-in functions on plain data. -/
namespace PD
open PySem L2 PyProof.Rows
/-- a call by values on data, as a reading -/
def rA (S : Sta) (f : List D → Mem → Rs D) : List V → Hp → VK → Prop := fun xs H Q => ∃ ι M ds z M', RM S ι M H ∧ RVs S ι H ds xs ∧ f ds M = .ok z M' ∧ ∀ ι' v H', Step S ι M H ι' M' H' → RV S ι' H' z v → Q v H'
section
variable {X : Cx} {S : Sta} {ι : List Addr} {H : Hp} {M : Mem}
theorem rvs1 {d : D} {xs : List V} (h : RVs S ι H [d] xs) : ∃ x, xs = [x] ∧ RV S ι H d x := by
  obtain ⟨v, r, rfl, h1, h2⟩ := h
  rw [show r = [] from h2]
  exact ⟨v, rfl, h1⟩
theorem rvs2 {d e : D} {xs : List V} (h : RVs S ι H [d, e] xs) : ∃ x y, xs = [x, y] ∧ RV S ι H d x ∧ RV S ι H e y := by
  obtain ⟨v, r, rfl, h1, h2⟩ := h
  obtain ⟨y, rfl, h3⟩ := rvs1 h2
  exact ⟨v, y, rfl, h1, h3⟩
theorem bools_rv : ∀ {ds : List D} {vs : List V} {bs : List Bool}, RVs S ι H ds vs → boolsD ds = some bs → vs = bs.map V.bl
  | [], vs, bs, r, h => by cases h; rw [show vs = [] from r]; rfl
  | d :: ds, _, bs, ⟨v, q, rfl, h1, h2⟩, h => by
    cases d with
    | bl b =>
      have h' : (boolsD ds).map (b :: ·) = some bs := h
      cases e : boolsD ds with
      | none => rw [e] at h'; cases h'
      | some cs =>
        rw [e] at h'
        cases h'
        rw [bools_rv h2 e, show v = V.bl b from h1]
        rfl
    | _ => cases h
theorem ints_rv : ∀ {ds : List D} {vs : List V} {bs : List Int}, RVs S ι H ds vs → intsD ds = some bs → vs = bs.map V.int
  | [], vs, bs, r, h => by cases h; rw [show vs = [] from r]; rfl
  | d :: ds, _, bs, ⟨v, q, rfl, h1, h2⟩, h => by
    cases d with
    | int b =>
      have h' : (intsD ds).map (b :: ·) = some bs := h
      cases e : intsD ds with
      | none => rw [e] at h'; cases h'
      | some cs =>
        rw [e] at h'
        cases h'
        rw [ints_rv h2 e, show v = V.int b from h1]
        rfl
    | _ => cases h
theorem texts_rv : ∀ {ds : List D} {vs : List V} {bs : List T}, RVs S ι H ds vs → textsD ds = some bs → vs = (bs.map toS).map V.str ∧ ∀ b ∈ bs, OkT b
  | [], vs, bs, r, h => by cases h; rw [show vs = [] from r]; exact ⟨rfl, fun _ h => by cases h⟩
  | d :: ds, _, bs, ⟨v, q, rfl, h1, h2⟩, h => by
    cases d with
    | str b =>
      have h' : (textsD ds).map (b :: ·) = some bs := h
      cases e : textsD ds with
      | none => rw [e] at h'; cases h'
      | some cs =>
        rw [e] at h'
        cases h'
        obtain ⟨e1, e2⟩ := texts_rv h2 e
        rw [e1, show v = V.str (toS b) from h1.1]
        exact ⟨rfl, fun c hc => (List.mem_cons.mp hc).elim (fun z => by rw [z]; exact h1.2) (e2 c)⟩
    | _ => cases h
/-- a sequence, to be read -/
theorem seqD_at (hK : S.K = X.K) (R : RM S ι M H) {d : D} {x : V} {ds : List D} (h : seqD M d = some ds) (r : RV S ι H d x) : ∃ a vs, x = .ref a ∧ (SqL X.K H a vs ∨ SqT X.K H a vs) ∧ RVs S ι H ds vs := by
  cases d with
  | tup es =>
    cases h
    obtain ⟨a, vs, e, t, q⟩ := r
    rw [hK] at t
    exact ⟨a, vs, e, .inr t, q⟩
  | fro ns =>
    cases h
    obtain ⟨a, e, t⟩ := r
    rw [hK] at t
    exact ⟨a, ns.map V.int, e, .inl t.seq, RVs.ints ns⟩
  | ref n =>
    obtain ⟨_, a, vs, i1, h1, r1⟩ := seqOf_at R (show seqOf M n = some ds from h)
    exact ⟨a, vs, ref_at r i1, .inl (.of h1), r1⟩
  | _ => cases h
theorem bLen (hK : S.K = X.K) : CallR X (.builtin "len") (rA S (bltD .len)) := by
  intro pins s σ H xs us Q I r h
  obtain ⟨ι, M, ds, z, M', R, hd, h, q⟩ := h
  cases ds with
  | nil => cases h
  | cons d ds =>
    cases ds with
    | cons e es =>
      cases d <;> cases h
    | nil =>
      obtain ⟨x, rfl, hx⟩ := rvs1 hd
      cases d with
      | str a =>
        have h' : (if a.length ≤ SZ then Rs.ok (D.int a.length) M else .bad) = .ok z M' := h
        split at h'
        · rename_i hl
          cases h'
          obtain ⟨rfl, _⟩ := hx
          exact call_len pins s σ H _ us Q I r ⟨_, a.length, rfl, ⟨by rw [toS_len, ← SZ_eq]; exact hl, (toS_len a).symm⟩, finV (z := .int a.length) R q rfl⟩
        · cases h'
      | tup es =>
        cases h
        obtain ⟨a, vs, rfl, t, r1⟩ := hx
        rw [hK] at t
        exact call_len pins s σ H _ us Q I r ⟨_, es.length, rfl, .inr ⟨vs, t, r1.length.symm⟩, finV (z := .int es.length) R q rfl⟩
      | fro ns =>
        cases h
        obtain ⟨a, rfl, t⟩ := hx
        rw [hK] at t
        exact call_len pins s σ H _ us Q I r ⟨_, ns.length, rfl, .inl ⟨_, t.seq, by simp⟩, finV (z := .int ns.length) R q rfl⟩
      | ref n =>
        have h' : (match M[n]? with
          | some (.lst ds) => Rs.ok (D.int ds.length) M
          | some (.dct _ kvs) => .ok (.int kvs.length) M
          | _ => .bad) = .ok z M' := h
        cases em : M[n]? with
        | none => rw [em] at h'; cases h'
        | some o =>
          rw [em] at h'
          cases o with
          | lst es =>
            cases h'
            obtain ⟨a, ha, vs, h1, r1⟩ := R.at em
            exact call_len pins s σ H _ us Q I r ⟨_, es.length, rfl, by rw [ref_at hx ha]; exact .inl ⟨vs, .of h1, r1.length.symm⟩, finV (z := .int es.length) R q rfl⟩
          | dct tk kvs =>
            cases h'
            obtain ⟨a, ha, hr⟩ := R.at em
            have ex := ref_at hx ha
            subst ex
            cases tk with
            | true => exact False.elim hr
            | false =>
              obtain ⟨kv, k1, k2⟩ := hr
              obtain ⟨u, rfl, ru⟩ := vals1 r
              cases ru
              exact d_len I (.inl k1) fun t s' I' => ⟨.int kv.length, H, I', ⟨t, rfl⟩, finV (z := .int kvs.length) R q (by rw [k2.length]; rfl)⟩
          | ins c fs => cases h'
      | _ => cases h
theorem bAny (hc : X.calm = true) : CallR X (.builtin "any") (rA S (bltD .any)) := by
  intro pins s σ H xs us Q I r h
  obtain ⟨ι, M, ds, z, M', R, hd, h, q⟩ := h
  cases ds with
  | nil => cases h
  | cons d ds =>
    cases ds with
    | cons e es => cases d <;> cases h
    | nil =>
      obtain ⟨x, rfl, hx⟩ := rvs1 hd
      cases d with
      | ref n =>
        have h' : (match (seqOf M n).bind boolsD with
          | some bs => Rs.ok (D.bl (bs.any id)) M
          | none => .bad) = .ok z M' := h
        cases e1 : seqOf M n with
        | none => rw [e1] at h'; cases h'
        | some es =>
          rw [e1] at h'
          obtain ⟨_, a, vs, i1, h1, r1⟩ := seqOf_at R e1
          cases e2 : boolsD es with
          | none => rw [show (some es).bind boolsD = boolsD es from rfl, e2] at h'; cases h'
          | some bs =>
            rw [show (some es).bind boolsD = boolsD es from rfl, e2] at h'
            cases h'
            have ev := bools_rv r1 e2
            subst ev
            rw [ref_at hx i1] at r
            exact cr_any hc pins s σ H _ us Q I r ⟨a, bs, rfl, .of h1, finV (z := .bl (bs.any id)) R q rfl⟩
      | _ => cases h
theorem bAll (hc : X.calm = true) : CallR X (.builtin "all") (rA S (bltD .all)) := by
  intro pins s σ H xs us Q I r h
  obtain ⟨ι, M, ds, z, M', R, hd, h, q⟩ := h
  cases ds with
  | nil => cases h
  | cons d ds =>
    cases ds with
    | cons e es => cases d <;> cases h
    | nil =>
      obtain ⟨x, rfl, hx⟩ := rvs1 hd
      cases d with
      | ref n =>
        have h' : (match (seqOf M n).bind boolsD with
          | some bs => Rs.ok (D.bl (bs.all id)) M
          | none => .bad) = .ok z M' := h
        cases e1 : seqOf M n with
        | none => rw [e1] at h'; cases h'
        | some es =>
          rw [e1] at h'
          obtain ⟨_, a, vs, i1, h1, r1⟩ := seqOf_at R e1
          cases e2 : boolsD es with
          | none => rw [show (some es).bind boolsD = boolsD es from rfl, e2] at h'; cases h'
          | some bs =>
            rw [show (some es).bind boolsD = boolsD es from rfl, e2] at h'
            cases h'
            have ev := bools_rv r1 e2
            subst ev
            rw [ref_at hx i1] at r
            exact cr_all hc pins s σ H _ us Q I r ⟨a, bs, rfl, .of h1, finV (z := .bl (bs.all id)) R q rfl⟩
      | _ => cases h
theorem bSum (hK : S.K = X.K) (hc : X.calm = true) : CallR X (.builtin "sum") (rA S (bltD .sum)) := by
  intro pins s σ H xs us Q I r h
  obtain ⟨ι, M, ds, z, M', R, hd, h, q⟩ := h
  cases ds with
  | nil => cases h
  | cons d ds =>
    cases ds with
    | cons e es => cases d <;> cases h
    | nil =>
      obtain ⟨x, rfl, hx⟩ := rvs1 hd
      cases d with
      | fro ns =>
        cases h
        obtain ⟨a, rfl, t⟩ := hx
        rw [hK] at t
        exact cr_sum hc pins s σ H _ us Q I r ⟨a, ns, rfl, t.seq, finV (z := .int ns.sum) R q rfl⟩
      | ref n =>
        have h' : (match (seqOf M n).bind intsD with
          | some bs => Rs.ok (D.int bs.sum) M
          | none => .bad) = .ok z M' := h
        cases e1 : seqOf M n with
        | none => rw [e1] at h'; cases h'
        | some es =>
          rw [e1] at h'
          obtain ⟨_, a, vs, i1, h1, r1⟩ := seqOf_at R e1
          cases e2 : intsD es with
          | none => rw [show (some es).bind intsD = intsD es from rfl, e2] at h'; cases h'
          | some bs =>
            rw [show (some es).bind intsD = intsD es from rfl, e2] at h'
            cases h'
            have ev := ints_rv r1 e2
            subst ev
            rw [ref_at hx i1] at r
            exact cr_sum hc pins s σ H _ us Q I r ⟨a, bs, rfl, .of h1, finV (z := .int bs.sum) R q rfl⟩
      | _ => cases h
theorem bMax (hc : X.calm = true) : CallR X (.builtin "max") (rA S (bltD .max)) := by
  intro pins s σ H xs us Q I r h
  obtain ⟨ι, M, ds, z, M', R, hd, h, q⟩ := h
  cases ds with
  | nil => cases h
  | cons d ds =>
    cases ds with
    | nil => cases d <;> cases h
    | cons e es =>
      cases es with
      | cons f fs => cases d <;> cases e <;> cases h
      | nil =>
        obtain ⟨x, y, rfl, hx, hy⟩ := rvs2 hd
        cases d with
        | int i =>
          cases e with
          | int j =>
            cases h
            cases hx
            cases hy
            exact call_max2 hc pins s σ H _ us Q I r ⟨i, j, rfl, finV (z := .int (if i < j then j else i)) R q rfl⟩
          | _ => cases h
        | _ => cases e <;> cases h
theorem bMin (hc : X.calm = true) : CallR X (.builtin "min") (rA S (bltD .min)) := by
  intro pins s σ H xs us Q I r h
  obtain ⟨ι, M, ds, z, M', R, hd, h, q⟩ := h
  cases ds with
  | nil => cases h
  | cons d ds =>
    cases ds with
    | nil => cases d <;> cases h
    | cons e es =>
      cases es with
      | cons f fs => cases d <;> cases e <;> cases h
      | nil =>
        obtain ⟨x, y, rfl, hx, hy⟩ := rvs2 hd
        cases d with
        | int i =>
          cases e with
          | int j =>
            cases h
            cases hx
            cases hy
            exact call_min2 hc pins s σ H _ us Q I r ⟨i, j, rfl, finV (z := .int (if j < i then j else i)) R q rfl⟩
          | _ => cases h
        | _ => cases e <;> cases h
theorem okT_of {x : T} (h : (x.all fun c => decide (c < 0x110000)) = true) : OkT x := fun c hc => by
  have := List.all_eq_true.mp h c hc
  exact of_decide_eq_true this
theorem okT_int (i : Int) : OkT (intT i) := fun c hc => by
  unfold intT at hc
  obtain ⟨ch, _, rfl⟩ := List.mem_map.mp hc
  have h := ch.valid
  simp only [UInt32.isValidChar, Nat.isValidChar] at h
  have ht : ch.toNat = ch.val.toNat := rfl
  omega
theorem intT_eq (i : Int) : ((toString i : String) : Str) = toS (intT i) := by
  show Str.ofString (toString i) = _
  rw [Str.ofString_eq_toList]
  rfl
theorem bStr : CallR X (.type "str") (rA S (bltD .str)) := by
  intro pins s σ H xs us Q I r h
  obtain ⟨ι, M, ds, z, M', R, hd, h, q⟩ := h
  cases ds with
  | nil => cases h
  | cons d ds =>
    cases ds with
    | cons e es => cases d <;> cases h
    | nil =>
      obtain ⟨x, rfl, hx⟩ := rvs1 hd
      cases d with
      | int i =>
        have h' : (if i.natAbs.log2 < 1920 then Rs.ok (D.str (intT i)) M else .bad) = .ok z M' := h
        split at h'
        · rename_i hl
          cases h'
          cases hx
          exact call_str_int pins s σ H _ us Q I r ⟨i, rfl, hl, finV (z := .str (intT i)) R q ⟨by rw [intT_eq], okT_int i⟩⟩
        · cases h'
      | str a =>
        cases h
        exact SkE.call_str_str pins s σ H _ us Q I r ⟨toS a, by rw [hx.1], finV (z := .str a) R q ⟨rfl, hx.2⟩⟩
      | bl b =>
        cases h
        cases hx
        obtain ⟨u, rfl, t⟩ := vals1 r
        cases t
        exact PySem.P.str_of_bool ⟨.str (if b then "True" else "False"), H, I.tok _, ⟨_, rfl⟩, finV (z := .str (if b then [84, 114, 117, 101] else [70, 97, 108, 115, 101])) R q ⟨by cases b <;> rfl, by cases b <;> exact okT_of (by decide)⟩⟩
      | _ => cases h
/-! int(text) -/
theorem figs_none : ∀ (y : T), y.foldl (fun (a : Option Nat) c => match a with
    | some n => if 48 ≤ c ∧ c ≤ 57 then some (n * 10 + (c - 48)) else none
    | none => none) none = none
  | [] => rfl
  | d :: y => figs_none y
theorem paired_of : ∀ {xs : List V} {us : List Value}, xs.length = us.length → (∀ (i : Nat) (x : V) (u : Value), xs[i]? = some x → us[i]? = some u → RelV x u) → Vals xs us
  | [], [], _, _ => .nil
  | [], _ :: _, h, _ => by cases h
  | _ :: _, [], h, _ => by cases h
  | x :: xs, u :: us, h, q => .cons (q 0 x u rfl rfl) (paired_of (by simpa using h) fun i y w h1 h2 => q (i + 1) y w (by simpa using h1) (by simpa using h2))
theorem figs_fold : ∀ (x : T) (n m : Nat), x.foldl (fun a c => match a with
    | some n => if 48 ≤ c ∧ c ≤ 57 then some (n * 10 + (c - 48)) else none
    | none => none) (some n) = some m → PySem.NumText.AllDigits x ∧ x.foldl (fun acc c => acc * 10 + (c - 48)) n = m
  | [], n, m, h => by
    cases h
    exact ⟨fun c hc => (by cases hc), rfl⟩
  | c :: x, n, m, h => by
    rw [List.foldl_cons] at h
    have nn := figs_none
    by_cases hc : 48 ≤ c ∧ c ≤ 57
    · simp only [hc, and_self, if_true] at h
      obtain ⟨h1, h2⟩ := figs_fold x _ m h
      exact ⟨fun d hd => (List.mem_cons.mp hd).elim (fun e => by rw [e]; exact hc) (h1 d), h2⟩
    · simp only [hc, if_false] at h
      rw [nn] at h
      cases h
theorem intText_ok {x : T} {i : Int} (h : intText x = some i) (hl : x.length ≤ 640) : PySem.intText? (toS x) = some i := by
  have hx : (toS x).cps.toList = x := by simp [toS]
  have hlen : (toS x).length ≤ 4300 := by rw [toS_len]; omega
  unfold intText at h
  split at h
  · cases h
  · rename_i r
    split at h
    · cases h
    · rename_i hr
      cases e : figs r with
      | none => rw [e] at h; cases h
      | some n =>
        rw [e] at h
        cases h
        obtain ⟨h1, h2⟩ := figs_fold r 0 n e
        rw [PySem.intText_neg hx h1 hr hlen]
        unfold PySem.NumText.digitsVal
        rw [h2]
  · rename_i h0 h3
    cases e : figs x with
    | none => rw [e] at h; cases h
    | some n =>
      rw [e] at h
      cases h
      obtain ⟨h1, h2⟩ := figs_fold x 0 n e
      rw [PySem.intText_digits (by rw [hx]; exact h1) (by rw [hx]; exact fun z => h0 z) hlen, hx]
      unfold PySem.NumText.digitsVal
      rw [h2]
theorem bInt : CallR X (.type "int") (rA S (bltD .int)) := by
  intro pins s σ H xs us Q I r h
  obtain ⟨ι, M, ds, z, M', R, hd, h, q⟩ := h
  cases ds with
  | nil => cases h
  | cons d ds =>
    cases ds with
    | cons e es => cases d <;> cases h
    | nil =>
      obtain ⟨x, rfl, hx⟩ := rvs1 hd
      cases d with
      | int i =>
        cases h
        cases hx
        exact call_int1 pins s σ H _ us Q I r (.inl ⟨i, rfl, finV (z := .int i) R q rfl⟩)
      | bl b =>
        cases h
        cases hx
        exact call_int1 pins s σ H _ us Q I r (.inr ⟨b, rfl, finV (z := .int (if b then 1 else 0)) R q rfl⟩)
      | str a =>
        have h' : (if a.length ≤ 640 then Rs.ofO ((intText a).map D.int) M else .bad) = .ok z M' := h
        split at h'
        · rename_i hl
          obtain ⟨e1, rfl⟩ := ofO_ok h'
          cases e2 : intText a with
          | none => rw [e2] at e1; cases e1
          | some i =>
            rw [e2] at e1
            cases e1
            exact call_int_str pins s σ H _ us Q I r ⟨toS a, i, by rw [hx.1], intText_ok e2 hl, by rw [toS_len]; exact hl, finV (z := .int i) R q rfl⟩
        · cases h'
      | _ => cases h
theorem bTuple (hK : S.K = X.K) : CallR X (.type "tuple") (rA S (bltD .tuple)) := by
  intro pins s σ H xs us Q I r h
  obtain ⟨ι, M, ds, z, M', R, hd, h, q⟩ := h
  cases ds with
  | nil => cases h
  | cons d ds =>
    cases ds with
    | cons e es => cases h
    | nil =>
      obtain ⟨x, rfl, hx⟩ := rvs1 hd
      have h' : (match seqD M d with
        | some ds => Rs.ok (D.tup ds) M
        | none => .bad) = .ok z M' := h
      cases e1 : seqD M d with
      | none => rw [e1] at h'; cases h'
      | some es =>
        rw [e1] at h'
        obtain ⟨a, vs, rfl, hs, r1⟩ := seqD_at hK R e1 hx
        rcases hs with hs | hs
        · exact call_tuple_of pins s σ H _ us Q I r ⟨a, vs, rfl, .inl ⟨hs, finT R h' q r1⟩⟩
        · cases h'
          exact call_tuple_of pins s σ H _ us Q I r ⟨a, vs, rfl, .inr ⟨hs, finV (z := .tup es) R q ⟨a, vs, rfl, by rw [hK]; exact hs, r1⟩⟩⟩
theorem bList (hK : S.K = X.K) (hc : X.calm = true) : CallR X (.type "list") (rA S (bltD .list)) := by
  intro pins s σ H xs us Q I r h
  obtain ⟨ι, M, ds, z, M', R, hd, h, q⟩ := h
  cases ds with
  | nil => cases h
  | cons d ds =>
    cases ds with
    | cons e es => cases h
    | nil =>
      obtain ⟨x, rfl, hx⟩ := rvs1 hd
      have go : ∀ {es : List D}, seqD M d = some es → Rs.ok (D.ref M.length) (M ++ [MO.lst es]) = .ok z M' → wpAny (model X.prog X.w) X.A (call (.type "list") us) (EP X pins σ Q) X.xe s := by
        intro es e1 h'
        obtain ⟨a, vs, rfl, hs, r1⟩ := seqD_at hK R e1 hx
        exact call_list_of pins s σ H _ us Q I r ⟨a, vs, rfl, hs, finL R h' q r1⟩
      cases d with
      | str a =>
        have h' : (if a.length ≤ SZ then Rs.ok (D.ref M.length) (M ++ [MO.lst (a.map fun c => .str [c])]) else .bad) = .ok z M' := h
        split at h'
        · rename_i hl
          obtain ⟨rfl, o⟩ := hx
          obtain ⟨u, rfl, t, rfl⟩ := vals1 r
          refine call_list_str (I.ok.hd hc) (toS a) t (fun h1 tk acc c' kp e its => ?_) (by show (toS a).length ≤ _; rw [toS_len, ← SZ_eq]; exact hl)
          have hs : (toS a).cps.size = a.length := toS_len a
          have hv : Vals (a.map fun c => V.str ⟨#[c]⟩) acc.toList := by
            refine paired_of (by rw [List.length_map, Array.length_toList]; exact hs.symm.trans its.1.symm) fun i v w h1 h2 => ?_
            rw [List.getElem?_map] at h1
            have h2' : acc[i]? = some w := by simpa using h2
            obtain ⟨c, u, hc1, rfl⟩ := its.2 i w h2'
            have hc2 : a[i]? = some c := by
              have : (toS a).cps[i]? = some c := hc1
              simpa [toS] using this
            rw [hc2] at h1
            cases h1
            exact ⟨u, rfl⟩
          refine ⟨.ref s.heap.objs.size, _, I.laid (t' := tk) kp (Nat.le_refl _) (show ObjOk X.prog X.w _ h1 _ (.lst (a.map fun c => V.str ⟨#[c]⟩)) from ⟨by rw [List.length_map, ← SZ_eq]; exact hl, acc.toList, c', hv, by simpa using e⟩), rfl, finL R h' q ?_ _ (I.hok.fresh (Nat.le_refl _))⟩
          exact RVs.mapM _ _ a fun c hc => ⟨rfl, fun d hd => by rw [List.mem_singleton] at hd; rw [hd]; exact o c hc⟩
        · cases h'
      | tup es => exact go rfl h
      | fro ns => exact go rfl h
      | ref n =>
        have h' : (match seqD M (.ref n) with
          | some ds => Rs.ok (D.ref M.length) (M ++ [MO.lst ds])
          | none => .bad) = .ok z M' := h
        cases e1 : seqD M (.ref n) with
        | none => rw [e1] at h'; cases h'
        | some es => rw [e1] at h'; exact go e1 h'
      | _ => cases h
end
end PD

set_option Elab.async false
set_option linter.all false
set_option autoImplicit false
set_option maxRecDepth 100000
set_option maxHeartbeats 1000000
/-! PdChk: a def's text against its compact form, looked at by a program. -/
namespace PD
open PySem L2

inductive GV where
  | fn (k : Nat) | cls (k : Nat) | cst (k : Nat)
  deriving DecidableEq
/-- what the module's names stand for; the names of fields, methods -/
structure Glo where
  tab : List (Str × GV)
  fld : List Str
  mth : List Str
  /-- methods' defs called through the class: class, name, def -/
  cfn : List (Str × Str × Nat)
  /-- built-ins' names that the module leaves as they are -/
  free : List Str
/-- a block's names -/
structure Blk where
  sc : Scope
  fn : Str → Bool
def fldN (G : Glo) (f : Nat) : Str := G.fld.getD f Str.empty
def mthN (G : Glo) (f : Nat) : Str := G.mth.getD f Str.empty
def codesOf (x : Str) : T := x.cps.toList
def noStar : Expr → Bool
  | .Starred _ _ => false
  | _ => true
def noStars (es : List Expr) : Bool := es.all noStar
def okBase : Expr → Bool
  | .Call (.Name _ _) [] [] _ => false
  | _ => true
def noSlice : Expr → Bool
  | .Slice _ _ _ _ => false
  | _ => true
def noSet : Expr → Bool
  | .Set _ _ _ => false
  | _ => true
def noComp : Expr → Bool
  | .ListComp _ _ _ _ => false
  | .SetComp _ _ _ _ => false
  | .DictComp _ _ _ _ _ => false
  | _ => true
def isKind (sc : Scope) (x : Str) (k : NameKind) : Bool := match sc.names.lookup x, k with
  | some .local, .local => true
  | some .cell, .cell => true
  | some .free, .free => true
  | some .globalImplicit, .globalImplicit => true
  | _, _ => false
def isGlob (B : Blk) (x : Str) : Bool := isKind B.sc x .globalImplicit && !(x == ("__debug__" : Str)) && !decide (x = ("__name__" : Str))
def isVis (B : Blk) (x : Str) : Bool := (isKind B.sc x .local || isKind B.sc x .cell || isKind B.sc x .free) && !(x == ("__debug__" : Str)) && !(x == ("__classdict__" : Str))
def isLoc (B : Blk) (x : Str) : Bool := isKind B.sc x .local || (isKind B.sc x .cell && B.fn x)
def isFree (G : Glo) (x : Str) : Bool := G.free.contains x
def opIs : Bop → Operator → Bool
  | .add, .Add => true | .sub, .Sub => true | .mul, .Mult => true | .fdiv, .FloorDiv => true | .mod, .Mod => true | .pow, .Pow => true | .band, .BitAnd => true | .bor, .BitOr => true | .tmul, .Mult => true
  | _, _ => false
def copIs : Cop → CmpOp → Bool
  | .eq, .Eq => true | .ne, .NotEq => true | .lt, .Lt => true | .le, .LtE => true | .gt, .Gt => true | .ge, .GtE => true | .inn, .In => true | .nin, .NotIn => true | .geT, .GtE => true
  | _, _ => false
/-- a built-in's name -/
def bltName : Blt → Option Str
  | .len => some "len" | .any => some "any" | .all => some "all" | .int => some "int" | .list => some "list" | .max => some "max" | .min => some "min" | .str => some "str" | .sum => some "sum" | .tuple => some "tuple"
  | .sorted => none | .dictT => none | .dictK => none | .lenSet => none
def bmName : Bm → Option Str
  | .append => some "append" | .clear => some "clear"
  | _ => none
def tyName : Ty → Str
  | .int => "int" | .str => "str" | .bool => "bool" | .tuple => "tuple" | .list => "list"
/-- rows that do nothing, left out -/
def undoc : List Stmt → List Stmt
  | .Expr (.Constant (.str _) _ _) _ :: xs => undoc xs
  | .Pass _ :: xs => undoc xs
  | xs => xs
/-- a comprehension's own list goes to the name straight -/
def straight (B : Blk) (y : Str) (py cpos : Pos) (scope : Scope) : Bool := isKind B.sc y .local && (py.line == cpos.line) && !(scope.names.any fun (n, k) => n == y && (k == .local || k == .cell))
/-- forms of an assignment -/
def asgForm (t x : Expr) : Bool := match x with
  | .Tuple _ _ _ => (match t with
    | .Tuple _ _ _ => false
    | .List _ _ => false
    | _ => true)
  | .SetComp _ _ _ _ => false
  | .DictComp _ _ _ _ _ => false
  | _ => true
section
variable (G : Glo) (N : List Str)
mutual
def chkE (B : Blk) : CE → Expr → Bool
  | .var i, e => (match e with
    | .Name x _ => (N[i]? == some x) && isVis B x
    | _ => false)
  | .int k, e => (match e with
    | .Constant (.int i) _ _ => decide (i = k)
    | _ => false)
  | .str y, e => (match e with
    | .Constant (.str x) _ _ => codesOf x == y && y.all fun c => decide (c < 0x110000)
    | _ => false)
  | .bl b, e => (match e with
    | .Constant (.bool c) _ _ => b == c
    | _ => false)
  | .non, e => (match e with
    | .Constant .none _ _ => true
    | _ => false)
  | .cst k, e => (match e with
    | .Name x _ => isGlob B x && G.tab.contains (x, .cst k)
    | _ => false)
  | .fnv k, e => (match e with
    | .Name x _ => isGlob B x && G.tab.contains (x, .fn k)
    | _ => false)
  | .tup es, e => (match e with
    | .Tuple xs _ _ => noStars xs && chkEs B es xs && decide (xs.length ≤ 1000)
    | _ => false)
  | .lst es, e => (match e with
    | .List xs _ => noStars xs && chkEs B es xs && decide (xs.length ≤ 1000)
    | _ => false)
  | .bin op a b, e => (match e with
    | .BinOp l o r _ => binShown op && opIs op o && chkE B a l && chkE B b r
    | _ => false)
  | .neg a, e => (match e with
    | .UnaryOp .USub x _ => chkE B a x
    | _ => false)
  | .cmp op a b, e => (match e with
    | .Compare l [o] [r] _ => cmpShown op && copIs op o && !behindInMarks o r && chkE B a l && chkE B b r
    | _ => false)
  | .isN a, e => (match e with
    | .Compare l [.Is] [.Constant .none _ _] _ => chkE B a l
    | _ => false)
  | .notN a, e => (match e with
    | .Compare l [.IsNot] [.Constant .none _ _] _ => chkE B a l
    | _ => false)
  | .chain op op' a b c, e => (match e with
    | .Compare l [o, o'] [r, r'] _ => cmpShown op && cmpShown op' && copIs op o && copIs op' o' && !lastMarks [o, o'] [r, r'] && chkE B a l && chkE B b r && chkE B c r'
    | _ => false)
  | .and es, e => (match e with
    | .BoolOp .And (x :: xs) _ => chkEs B es (x :: xs)
    | _ => false)
  | .or es, e => (match e with
    | .BoolOp .Or (x :: xs) _ => chkEs B es (x :: xs)
    | _ => false)
  | .not a, e => (match e with
    | .UnaryOp .Not x _ => chkE B a x
    | _ => false)
  | .ife c a b, e => (match e with
    | .IfExp t x y _ => chkE B c t && chkE B a x && chkE B b y
    | _ => false)
  | .idx a i, e => (match e with
    | .Subscript x y _ => noSlice y && chkE B a x && chkE B i y
    | _ => false)
  | .slc a lo hi, e => (match e with
    | .Subscript x (.Slice l h none _) _ => chkE B a x && chkO B lo l && chkO B hi h
    | _ => false)
  | .stp a s, e => (match s, e with
    | .neg (.int k), .Subscript x (.Slice none none (some (.UnaryOp .USub (.Constant (.int i) _ _) _)) _) _ => decide (k = 1) && decide (i = 1) && chkE B a x
    | _, _ => false)
  | .fld a f, e => (match e with
    | .Attribute x y _ => (G.fld[f]? == some y) && okBase x && chkE B a x
    | _ => false)
  | .call f es, e => (match e with
    | .Call (.Name x _) xs [] _ => isGlob B x && G.tab.contains (x, .fn f) && noStars xs && chkEs B es xs
    | _ => false)
  | .callV i es, e => (match e with
    | .Call (.Name x _) xs [] _ => N[i]? == some x && isVis B x && noStars xs && chkEs B es xs
    | _ => false)
  | .meth a m es, e => (match e with
    | .Call (.Attribute o y apos) xs [] pos => (G.mth[m]? == some y) && okBase o && (apos.endLine == pos.line) && decide (xs.length < 30) && noStars xs && chkE B a o && chkEs B es xs
    | _ => false)
  | .new c es, e => (match e with
    | .Call (.Name x _) xs [] _ => isGlob B x && G.tab.contains (x, .cls c) && noStars xs && chkEs B es xs
    | _ => false)
  | .blt b es, e => (match e with
    | .Call (.Name x _) (y :: ys) [] _ => isGlob B x && isFree G x && (bltName b == some x) && noStars (y :: ys) && chkEs B es (y :: ys)
    | _ => false)
  | .bm m a es, e => (match e with
    | .Call (.Attribute o y apos) xs [] pos => (bmName m == some y) && okBase o && (apos.endLine == pos.line) && decide (xs.length < 30) && noStars xs && chkE B a o && chkEs B es xs
    | _ => false)
  | .comp el g src cond own, e => (match e with
    | .ListComp elt [⟨tg, iter, ifs, 0⟩] scope _ =>
      (own.all fun i => decide (i < N.length)) && blkC N B.sc scope (own.map fun i => (N.getD i Str.empty, i)) && noSet iter && chkI B src tg iter &&
      chkG ⟨relS scope B.sc, fun x => scope.names.lookup x == some .cell⟩ (some own) g tg && chkC ⟨relS scope B.sc, fun x => scope.names.lookup x == some .cell⟩ cond ifs && chkE ⟨relS scope B.sc, fun x => scope.names.lookup x == some .cell⟩ el elt
    | _ => false)
  | .isTy a t, e => (match e with
    | .Call (.Name x _) [y, .Name z _] [] _ => (x == ("isinstance" : Str)) && isGlob B x && isFree G x && (tyName t == z) && isGlob B z && isFree G z && noStar y && chkE B a y
    | _ => false)
  | .callK _ _ _ _, _ => false
  | .dct _ _ _, _ => false
  | .lrng _, _ => false
  | .litems _, _ => false
  | .lenS _, _ => false
  | .isCls _ _, _ => false
  | .excNum _, _ => false
def chkEs (B : Blk) : CEs → List Expr → Bool
  | .nil, l => l.isEmpty
  | .cons e es, l => (match l with
    | x :: xs => chkE B e x && chkEs B es xs
    | [] => false)
def chkO (B : Blk) : CO → Option Expr → Bool
  | .no, o => o.isNone
  | .so e, o => (match o with
    | some x => chkE B e x
    | none => false)
def chkC (B : Blk) : CO → List Expr → Bool
  | .no, l => l.isEmpty
  | .so e, l => (match l with
    | [x] => chkE B e x
    | _ => false)
/-- a target; own: the only slots that it may store at -/
def chkG (B : Blk) (own : Option (List Nat)) : CG → Expr → Bool
  | .nm i, e => (match e with
    | .Name x _ => (N[i]? == some x) && isLoc B x && (match own with
      | some l => l.contains i
      | none => true)
    | _ => false)
  | .tup gs, e => (match e with
    | .Tuple xs _ _ => noStars xs && chkGs B own gs xs
    | _ => false)
  | .sub a i, e => (match e with
    | .Subscript x y _ => noSlice y && chkE B a x && chkE B i y
    | _ => false)
  | .fld a f, e => (match e with
    | .Attribute x y _ => (G.fld[f]? == some y) && okBase x && chkE B a x
    | _ => false)
def chkGs (B : Blk) (own : Option (List Nat)) : CGs → List Expr → Bool
  | .nil, l => l.isEmpty
  | .cons g gs, l => (match l with
    | x :: xs => chkG B own g x && chkGs B own gs xs
    | [] => false)
/-- what is walked -/
def chkI (B : Blk) : CI → Expr → Expr → Bool
  | .seq e, _, x => noSet x && chkE B e x
  | .rng es, _, e => (match e with
    | .Call (.Name x _) [y] [] _ => (x == ("range" : Str)) && isGlob B x && isFree G x && noStar y && chkEs B es [y]
    | .Call (.Name x _) [y, z] [] _ => (x == ("range" : Str)) && isGlob B x && isFree G x && noStar y && noStar z && chkEs B es [y, z]
    | _ => false)
  | .enum a, t, e => (match t, e with
    | .Tuple _ _ _, .Call (.Name x _) [y] [] _ => (x == ("enumerate" : Str)) && isGlob B x && isFree G x && noStar y && chkE B a y
    | _, _ => false)
  | .zip _ _, _, _ => false
  | .items _, _, _ => false
end
mutual
def chkS (B : Blk) (L : List Nat) : CS → Stmt → Bool
  | .asg g e, st => (match st with
    | .Assign [t] x pos => chkG G N B (some L) g t && chkE G N B e x && noStar t && asgForm t x
    | _ => false)
  | .aug i op e, st => (match st with
    | .AugAssign (.Name x _) .Add y _ => (N[i]? == some x) && isLoc B x && L.contains i && decide (op = .add) && chkE G N B e y
    | _ => false)
  | .expr e, st => (match st with
    | .Expr x _ => noComp x && chkE G N B e x
    | _ => false)
  | .ret e, st => (match st with
    | .Return (some x) _ => chkE G N B e x
    | _ => false)
  | .retN, st => (match st with
    | .Return none _ => true
    | _ => false)
  | .ife c s t, st => (match st with
    | .If x y z _ => chkE G N B c x && chkSs B L s y && chkSs B L t z
    | _ => false)
  | .for g src body, st => (match st with
    | .For t x b [] _ => chkI G N B src t x && chkG G N B (some L) g t && chkSs B L body b && noSet x
    | _ => false)
  | .while c body, st => (match st with
    | .While x b [] _ => chkE G N B c x && chkSs B L body b
    | _ => false)
  | .brk, st => (match st with
    | .Break _ => true
    | _ => false)
  | .cont, st => (match st with
    | .Continue _ => true
    | _ => false)
  | .par _ _ _ _, _ => false
  | .raise _ _, _ => false
  | .try _ _ _ _, _ => false
  | .base _, _ => false
  | .kill _, _ => false
def chkSs (B : Blk) (L : List Nat) : CSs → List Stmt → Bool
  | .nil, l => (undoc l).isEmpty
  | .cons (.kill _) ss, l => chkSs B L ss l
  | .cons s ss, l => (match undoc l with
    | x :: xs => chkS B L s x && chkSs B L ss xs
    | [] => false)
end
end
end PD

set_option Elab.async false
set_option linter.all false
set_option autoImplicit false
set_option maxRecDepth 100000
set_option maxHeartbeats 1000000
/-! PdExpr: what the evaluator says of an expression is what the model does. -/
namespace PD
open PySem L2 PyProof.Rows

abbrev St := L2.St
/-- the slots stand for the def's names -/
def SL (S : Sta) (ι : List Addr) (H : Hp) (δ : Sg) (σ : St) : Prop := σ.length = δ.length ∧ ∀ (i : Nat) (d : D), δ[i]? = some (some d) → ∃ v, σ[i]? = some (some v) ∧ RV S ι H d v
theorem SL.ext {S : Sta} {ι ι' : List Addr} {H H' : Hp} {δ : Sg} {σ : St} (x : Ext ι H ι' H') (h : SL S ι H δ σ) : SL S ι' H' δ σ :=
  ⟨h.1, fun i d e => let ⟨v, h1, h2⟩ := h.2 i d e; ⟨v, h1, h2.ext x⟩⟩
theorem SL.set {S : Sta} {ι : List Addr} {H : Hp} {δ : Sg} {σ : St} (h : SL S ι H δ σ) {i : Nat} {d : D} {v : V} (r : RV S ι H d v) : SL S ι H (δ.set i (some d)) (σ.set i (some v)) := by
  refine ⟨by simpa using h.1, fun j e hj => ?_⟩
  by_cases hij : i = j
  · subst hij
    have hl : i < δ.length := by
      have := (List.getElem?_eq_some_iff.mp hj).1
      simpa using this
    rw [List.getElem?_set_self hl] at hj
    cases hj
    exact ⟨v, by rw [List.getElem?_set_self (by rw [h.1]; exact hl)], r⟩
  · rw [List.getElem?_set_ne hij] at hj
    obtain ⟨u, h1, h2⟩ := h.2 j e hj
    exact ⟨u, by rw [List.getElem?_set_ne hij]; exact h1, h2⟩
theorem wipe_len (δ : Sg) : ∀ vs : List Nat, (PD.wipe δ vs).length = δ.length
  | [] => rfl
  | v :: vs => by unfold PD.wipe; rw [List.length_set, wipe_len δ vs]
theorem wipe_has {δ : Sg} {i : Nat} {d : D} : ∀ {vs : List Nat}, (PD.wipe δ vs)[i]? = some (some d) → δ[i]? = some (some d) ∧ i ∉ vs
  | [], h => ⟨h, by simp⟩
  | v :: vs, h => by
    unfold PD.wipe at h
    by_cases hi : v = i
    · subst hi
      by_cases hv : v < (PD.wipe δ vs).length
      · rw [List.getElem?_set_self hv] at h; cases h
      · rw [List.getElem?_eq_none (by simpa using hv)] at h; cases h
    · rw [List.getElem?_set_ne hi] at h
      obtain ⟨h1, h2⟩ := wipe_has h
      exact ⟨h1, by simp only [List.mem_cons, not_or]; exact ⟨fun e => hi e.symm, h2⟩⟩
theorem wipe_not {σ : St} {i : Nat} : ∀ {vs : List Nat}, i ∉ vs → (L2.wipe σ vs)[i]? = σ[i]?
  | [], _ => rfl
  | v :: vs, h => by
    simp only [List.mem_cons, not_or] at h
    unfold L2.wipe
    rw [List.getElem?_set_ne (fun e => h.1 e.symm)]
    exact wipe_not h.2
theorem SL.wipe {S : Sta} {ι : List Addr} {H : Hp} {δ : Sg} {σ : St} (h : SL S ι H δ σ) (vs : List Nat) : SL S ι H (PD.wipe δ vs) (L2.wipe σ vs) := by
  refine ⟨by rw [wipe_len, L2.wipe_length]; exact h.1, fun i d e => ?_⟩
  obtain ⟨e1, e2⟩ := wipe_has e
  rw [wipe_not e2]
  exact h.2 i d e1
theorem SL.forget {S : Sta} {ι : List Addr} {H : Hp} {δ : Sg} {σ : St} (h : SL S ι H δ σ) (vs : List Nat) : SL S ι H (PD.wipe δ vs) σ :=
  ⟨by rw [wipe_len]; exact h.1, fun i d e => h.2 i d (wipe_has e).1⟩

abbrev WX := Value → Option Addr → St → Hp → Prop
/-- a result read: what is wanted behind it -/
def rd {α : Type} (S : Sta) (W : WX) (ι : List Addr) (M : Mem) (σ : St) (H : Hp) (x : Rs α) (K : α → List Addr → Mem → Hp → Prop) : Prop := match x with
  | .ok a M' => ∀ ι' H', Step S ι M H ι' M' H' → K a ι' M' H'
  | .exc c k M' => ∀ ι' H' cls d, Step S ι M H ι' M' H' → S.XR c k cls d H' → W cls d σ H'
  | .bad => False
section
variable {S : Sta} {W : WX} {ι : List Addr} {M : Mem} {σ : St} {H : Hp} {α β : Type}
theorem rd_mono {x : Rs α} {K K' : α → List Addr → Mem → Hp → Prop} (h : rd S W ι M σ H x K) (q : ∀ a ι' M' H', Step S ι M H ι' M' H' → K a ι' M' H' → K' a ι' M' H') : rd S W ι M σ H x K' := by
  cases x with
  | ok a M' => exact fun ι' H' st => q _ _ _ _ st (h ι' H' st)
  | exc c k M' => exact h
  | bad => exact h
theorem rd_eq {x : Rs α} {K : α → List Addr → Mem → Hp → Prop} (h : rd S W ι M σ H x K) : rd S W ι M σ H x fun a ι' M' H' => x = .ok a M' ∧ K a ι' M' H' := by
  cases x with
  | ok a M' => exact fun ι' H' st => ⟨rfl, h ι' H' st⟩
  | exc c k M' => exact h
  | bad => exact h
theorem rd_bind {x : Rs α} {f : α → Mem → Rs β} {K : β → List Addr → Mem → Hp → Prop} (h : rd S W ι M σ H (x.bind f) K) : rd S W ι M σ H x fun a ι' M' H' => rd S W ι' M' σ H' (f a M') K := by
  cases x with
  | ok a M' =>
    intro ι' H' st
    have h' : rd S W ι M σ H (f a M') K := h
    show rd S W ι' M' σ H' (f a M') K
    cases e : f a M' with
    | ok b M2 =>
      rw [e] at h'
      exact fun ι2 H2 st2 => h' ι2 H2 (st.trans st2)
    | exc c k M2 =>
      rw [e] at h'
      exact fun ι2 H2 cls d st2 => h' ι2 H2 cls d (st.trans st2)
    | bad => rw [e] at h'; exact h'
  | exc c k M' => exact h
  | bad => exact h
theorem rd_ok {a : α} {K : α → List Addr → Mem → Hp → Prop} (R : RM S ι M H) (h : rd S W ι M σ H (.ok a M) K) : K a ι M H := h ι H (.refl R)
/-- never an exception -/
def NoX (x : Rs α) : Prop := ∀ c k M, x ≠ .exc c k M
theorem rd_nox {x : Rs α} (n : NoX x) {K : α → List Addr → Mem → Hp → Prop} (h : rd S W ι M σ H x K) : ∃ a M', x = .ok a M' ∧ ∀ ι' H', Step S ι M H ι' M' H' → K a ι' M' H' := by
  cases x with
  | ok a M' => exact ⟨a, M', rfl, h⟩
  | exc c k M' => exact absurd rfl (n c k M')
  | bad => exact False.elim h
end
theorem nox_ofO {α : Type} (o : Option α) (M : Mem) : NoX (Rs.ofO o M) := by
  cases o <;> exact fun _ _ _ h => nomatch h
theorem nox_ok {α : Type} (a : α) (M : Mem) : NoX (Rs.ok a M) := fun _ _ _ h => nomatch h
theorem nox_bad {α : Type} : NoX (Rs.bad : Rs α) := fun _ _ _ h => nomatch h
theorem nox_bin (op : Bop) (x y : D) (M : Mem) : NoX (binD op x y M) := by
  intro c k M' h
  unfold binD at h
  repeat' split at h
  all_goals cases h
theorem nox_idx (x i : D) (M : Mem) : NoX (idxD x i M) := by
  intro c k M' h
  unfold idxD at h
  repeat' split at h
  all_goals first
    | exact nox_ofO _ _ _ _ _ h
    | cases h
theorem nox_slc (x : D) (lo hi : Option D) (M : Mem) : NoX (slcD x lo hi M) := by
  intro c k M' h
  unfold slcD at h
  repeat' split at h
  all_goals cases h
theorem nox_step (x s : D) (M : Mem) : NoX (stepD x s M) := by
  intro c k M' h
  unfold stepD at h
  repeat' split at h
  all_goals cases h
theorem nox_set (o i v : D) (M : Mem) : NoX (setD o i v M) := by
  intro c k M' h
  unfold setD at h
  repeat' split at h
  all_goals cases h
theorem nox_fld (x : D) (f : Nat) (M : Mem) : NoX (fldD x f M) := by
  intro c k M' h
  unfold fldD at h
  repeat' split at h
  all_goals first
    | exact nox_ofO _ _ _ _ _ h
    | cases h
theorem nox_setF (x : D) (f : Nat) (v : D) (M : Mem) : NoX (setFD x f v M) := by
  intro c k M' h
  unfold setFD at h
  repeat' split at h
  all_goals cases h
theorem nox_blt (b : Blt) (ds : List D) (M : Mem) : NoX (bltD b ds M) := by
  intro c k M' h
  unfold bltD at h
  repeat' split at h
  all_goals first
    | exact nox_ofO _ _ _ _ _ h
    | cases h
theorem nox_bm (m : Bm) (x : D) (ds : List D) (M : Mem) : NoX (bmD m x ds M) := by
  intro c k M' h
  unfold bmD at h
  repeat' split at h
  all_goals first
    | exact nox_ofO _ _ _ _ _ h
    | cases h

/-! ### readings -/
def tE (S : Sta) (W : WX) (r : Sg → Mem → Rs D) : TE := fun σ H Q => ∃ ι δ M, SL S ι H δ σ ∧ RM S ι M H ∧ rd S W ι M σ H (r δ M) fun d ι' M' H' => ∀ v, RV S ι' H' d v → Q v H'
def tA (S : Sta) (W : WX) (r : Sg → Mem → Rs (List D)) : TA := fun σ H Q => ∃ ι δ M, SL S ι H δ σ ∧ RM S ι M H ∧ rd S W ι M σ H (r δ M) fun ds ι' M' H' => ∀ vs, RVs S ι' H' ds vs → Q vs H'
def tT (S : Sta) (W : WX) (r : Sg → Mem → Rs D) : TT := fun σ H Q => ∃ ι δ M, SL S ι H δ σ ∧ RM S ι M H ∧ rd S W ι M σ H (r δ M) fun d ι' M' H' => ∃ b, d = .bl b ∧ Q b H'
section
variable {S : Sta} {W : WX} {ι : List Addr} {M : Mem} {σ : St} {H : Hp} {δ : Sg}
theorem tE_of {r : Sg → Mem → Rs D} {Q : VK} {K : D → List Addr → Mem → Hp → Prop} (sl : SL S ι H δ σ) (rm : RM S ι M H) (h : rd S W ι M σ H (r δ M) K)
    (q : ∀ d ι' M' H', Step S ι M H ι' M' H' → SL S ι' H' δ σ → K d ι' M' H' → ∀ v, RV S ι' H' d v → Q v H') : tE S W r σ H Q :=
  ⟨ι, δ, M, sl, rm, rd_mono h fun d ι' M' H' st k => q d ι' M' H' st (sl.ext st.ext) k⟩
theorem tA_of {r : Sg → Mem → Rs (List D)} {Q : List V → Hp → Prop} {K : List D → List Addr → Mem → Hp → Prop} (sl : SL S ι H δ σ) (rm : RM S ι M H) (h : rd S W ι M σ H (r δ M) K)
    (q : ∀ ds ι' M' H', Step S ι M H ι' M' H' → SL S ι' H' δ σ → K ds ι' M' H' → ∀ vs, RVs S ι' H' ds vs → Q vs H') : tA S W r σ H Q :=
  ⟨ι, δ, M, sl, rm, rd_mono h fun d ι' M' H' st k => q d ι' M' H' st (sl.ext st.ext) k⟩
theorem tT_of {r : Sg → Mem → Rs D} {Q : Bool → Hp → Prop} {K : D → List Addr → Mem → Hp → Prop} (sl : SL S ι H δ σ) (rm : RM S ι M H) (h : rd S W ι M σ H (r δ M) K)
    (q : ∀ d ι' M' H', Step S ι M H ι' M' H' → SL S ι' H' δ σ → K d ι' M' H' → ∃ b, d = .bl b ∧ Q b H') : tT S W r σ H Q :=
  ⟨ι, δ, M, sl, rm, rd_mono h fun d ι' M' H' st k => q d ι' M' H' st (sl.ext st.ext) k⟩
theorem rB_of {f : D → D → Mem → Rs D} {d e : D} {x y : V} {Q : VK} (n : NoX (f d e M)) (R : RM S ι M H) (rx : RV S ι H d x) (ry : RV S ι H e y) (h : rd S W ι M σ H (f d e M) fun d ι' M' H' => ∀ v, RV S ι' H' d v → Q v H') : rB S f x y H Q := by
  obtain ⟨z, M', e1, q⟩ := rd_nox n h
  exact ⟨ι, M, d, e, z, M', R, rx, ry, e1, fun ι' v H' st rv => q ι' H' st v rv⟩
theorem rC_of {f : D → D → Mem → Option Bool} {d e : D} {x y : V} {Q : VK} (R : RM S ι M H) (rx : RV S ι H d x) (ry : RV S ι H e y) (h : rd S W ι M σ H (Rs.ofO ((f d e M).map D.bl) M) fun d ι' M' H' => ∀ v, RV S ι' H' d v → Q v H') : rC S f x y H Q := by
  cases e1 : f d e M with
  | none => rw [e1] at h; exact False.elim h
  | some b =>
    rw [e1] at h
    exact ⟨ι, M, d, e, b, R, rx, ry, e1, h ι H (.refl R) _ rfl⟩
theorem rA_of {f : List D → Mem → Rs D} {ds : List D} {xs : List V} {Q : VK} (n : NoX (f ds M)) (R : RM S ι M H) (rx : RVs S ι H ds xs) (h : rd S W ι M σ H (f ds M) fun d ι' M' H' => ∀ v, RV S ι' H' d v → Q v H') : rA S f xs H Q := by
  obtain ⟨z, M', e1, q⟩ := rd_nox n h
  exact ⟨ι, M, ds, z, M', R, rx, e1, fun ι' v H' st rv => q ι' H' st v rv⟩
end
theorem impE {X : Cx} {e : Expr} {t t' : TE} (h : PE X e t) (q : ∀ σ H Q, t' σ H Q → t σ H Q) : PE X e t' := ⟨fun pins s σ H Q I hw => h.run pins s σ H Q I (q _ _ _ hw)⟩
theorem impT {X : Cx} {e : Expr} {t t' : TT} (h : PT X e t) (q : ∀ σ H Q, t' σ H Q → t σ H Q) : PT X e t' := ⟨fun pins s σ H Q I hw => h.run pins s σ H Q I (q _ _ _ hw)⟩
theorem impW {X : Cx} {e : Expr} {t t' : TT} (h : PW X e t) (q : ∀ σ H Q, t' σ H Q → t σ H Q) : PW X e t' := ⟨fun whole pins s σ H Q I hw => h.run whole pins s σ H Q I (q _ _ _ hw)⟩
theorem impA {X : Cx} {e : List Expr} {t t' : TA} (h : PA X e t) (q : ∀ σ H Q, t' σ H Q → t σ H Q) : PA X e t' := ⟨fun pos pins s σ H Q I hw => h.run pos pins s σ H Q I (q _ _ _ hw)⟩

/-! ### what the trees want -/
theorem star_cons {e : Expr} {es : List Expr} {env : Env} (h : noStar e = true) : starEach (e :: es) env = (false, eval e env) :: starEach es env := by
  cases e <;> first | rfl | cases h
theorem stars_any {env : Env} : ∀ {es : List Expr}, noStars es = true → (starEach es env).any (·.1) = false
  | [], _ => rfl
  | e :: es, h => by
    unfold noStars at h
    rw [List.all_cons, Bool.and_eq_true] at h
    rw [star_cons h.1, List.any_cons, stars_any h.2]
    rfl
theorem stars_back {env : Env} {pos : Pos} {es : List Expr} (h : noStars es = true) : (backTo pos (starEach es env)).any (·.1) = false := by
  have := stars_any (env := env) h
  rw [List.any_eq_false] at this ⊢
  intro x hx
  unfold backTo at hx
  obtain ⟨y, hy, rfl⟩ := List.mem_map.mp hx
  exact this y hy
theorem stars_all {env : Env} {pos : Pos} {es : List Expr} (h : noStars es = true) : (backTo pos (starEach es env)).all (fun x => !x.1) = true := by
  have := stars_back (env := env) (pos := pos) h
  rw [List.any_eq_false] at this
  rw [List.all_eq_true]
  intro x hx
  have := this x hx
  simpa using this
theorem noStars_cons {e : Expr} {es : List Expr} (h : noStars (e :: es) = true) : noStar e = true ∧ noStars es = true := by
  unfold noStars at h ⊢
  rwa [List.all_cons, Bool.and_eq_true] at h
theorem base_ok {o : Expr} {attr : Str} {env : Env} (h : okBase o = true) : attributeBase o attr env (eval o env) = eval o env := by
  cases o with
  | Call f args kws pos =>
    cases f with
    | Name id p =>
      cases args with
      | nil =>
        cases kws with
        | nil => cases h
        | cons k ks => rfl
      | cons a as => rfl
    | _ => rfl
  | _ => rfl
theorem plainIx {b : Expr} (h : noSlice b = true) : PlainIx b := by
  intro o i
  cases b <;> first | rfl | cases h
theorem folded_ok {e : Expr} {env : Env} (h : noSet e = true) : ∀ x, foldedSetIterable e env x = pure x := by
  intro x
  cases e <;> first | rfl | cases h
/-- forms that are tested by their value -/
def byVal : Expr → Bool
  | .UnaryOp .Not _ _ => false
  | .BoolOp _ _ _ => false
  | .IfExp _ _ _ _ => false
  | .Compare _ _ _ _ => false
  | _ => true
theorem byVal_ok {e : Expr} (h : byVal e = true) (env : Env) : ∀ whole, isTrue e env whole = (do let v ← whole; standAt e.pos; holding [v] (truthy v)) := by
  intro whole
  cases e with
  | UnaryOp op x pos => cases op <;> first | rfl | cases h
  | _ => first | rfl | cases h
/-- what is shown of an expression -/
def Both (X : Cx) (S : Sta) (W : WX) (e : Expr) (r : Sg → Mem → Rs D) : Prop := PE X e (tE S W r) ∧ PT X e (tT S W r)
theorem tB_of {X : Cx} {S : Sta} {W : WX} {r : Sg → Mem → Rs D} {σ : St} {H : Hp} {Q : Bool → Hp → Prop} (h : tT S W r σ H Q) : tB (tE S W r) σ H Q := by
  obtain ⟨ι, δ, M, sl, rm, h⟩ := h
  refine tE_of sl rm h fun d ι' M' H' st sl' ⟨b, e, q⟩ v rv => ?_
  subst e
  exact ⟨b, rv, q⟩
theorem both {X : Cx} {S : Sta} {W : WX} {e : Expr} {r : Sg → Mem → Rs D} (h : PE X e (tE S W r)) (hb : byVal e = true) : Both X S W e r :=
  ⟨h, impT (pt_val h (byVal_ok hb X.env)) fun σ H Q => tB_of (X := X)⟩
end PD

set_option Elab.async false
set_option linter.all false
set_option autoImplicit false
set_option maxRecDepth 100000
set_option maxHeartbeats 1000000
/-! PdSnd: the soundness of expressions, by induction. -/
namespace PD
open PySem L2 PyProof.Rows

/-- a call of a value with values; the slots are known (an exception's wish) -/
def CallX (X : Cx) (f : Value) (r : List V → St → Hp → VK → Prop) : Prop :=
  ∀ (pins : List (Addr × Obj)) (s : Shared) (σ : St) (H : Hp) (xs : List V) (us : List Value) (Q : VK), Inv X pins σ H s → Vals xs us → r xs σ H Q →
    wpAny (model X.prog X.w) X.A (call f us) (EP X pins σ Q) X.xe s
abbrev Cl := Nat → List D → Mem → Rs D
/-- a def's call, as a reading -/
def rCl (S : Sta) (W : WX) (cl : Cl) (f : Nat) : List V → St → Hp → VK → Prop := fun xs σ H Q => ∃ ι M ds, RM S ι M H ∧ RVs S ι H ds xs ∧
  rd S W ι M σ H (callD S.P cl f ds M) fun d ι' M' H' => ∀ v, RV S ι' H' d v → Q v H'
def rNew (S : Sta) (W : WX) (cl : Cl) (c : Nat) : List V → St → Hp → VK → Prop := fun xs σ H Q => ∃ ι M ds, RM S ι M H ∧ RVs S ι H ds xs ∧
  rd S W ι M σ H (newD S.P cl c ds M) fun d ι' M' H' => ∀ v, RV S ι' H' d v → Q v H'
/-- what is known of the program's calls, in a context -/
structure Calls (S : Sta) (cl : Cl) (X : Cx) (W : WX) : Prop where
  fn : ∀ f, CallX X (.ref (S.fA f)) (rCl S W cl f)
  new : ∀ c, CallX X (.ref (S.cA c)) (rNew S W cl c)
/-- what is known of the module -/
structure ModG (S : Sta) (G : Glo) (K : PySem.W.Frag) (mg : Str → Option Value) : Prop where
  fn : ∀ x k, (x, GV.fn k) ∈ G.tab → mg x = some (.ref (S.fA k)) ∧ PySem.W.keepIn K (.ref (S.fA k)) = true
  cls : ∀ x k, (x, GV.cls k) ∈ G.tab → mg x = some (.ref (S.cA k)) ∧ PySem.W.keepIn K (.ref (S.cA k)) = true
  cst : ∀ x k, (x, GV.cst k) ∈ G.tab → ∃ u v d, mg x = some u ∧ RelV v u ∧ S.P.cst k = some d ∧ ∀ ι H, RV S ι H d v
  keep : ∀ k F, S.P.fn k = some F → PySem.W.keepIn K (.ref (S.fA k)) = true
  free : ∀ x, x ∈ G.free → mg x = none
  fname : ∀ (f : Nat) (x : Str), G.fld[f]? = some x → S.fN f = x ∧ ∀ g, S.fN g = x → g = f
  mname : ∀ (m : Nat) (x : Str) (f : Nat), G.mth[m]? = some x → S.fN f ≠ x
  cla : ∀ c C, S.P.cls c = some C → L2.Cls K (S.cA c)
  nat : ∀ (c : Nat) (C : PD.Cls) (f : Nat) (x : Str), S.P.cls c = some C → G.fld[f]? = some x → NoAttr K (S.cA c) x
  met : ∀ (c : Nat) (C : PD.Cls) (m : Nat) (x : Str) (f : Nat), S.P.cls c = some C → G.mth[m]? = some x → C.meths.lookup m = some f → Meth K (S.cA c) x (S.fA f)
structure XG (S : Sta) (G : Glo) (N : List Str) (cl : Cl) (X : Cx) (B : Blk) (W : WX) : Prop where
  K : S.K = X.K
  calm : X.calm = true
  nd : X.N.Nodup
  N : X.N = N
  sc : X.env.scope = B.sc
  fn : X.fn = B.fn
  un : X.A.units + 65 < cLine
  mod : ModG S G X.K X.mg
  calls : Calls S cl X W
  /-- within a comprehension's block -/
  deep : ∀ (s : Shared) (H : Hp) (scope : Scope) (cenv : Env) (fp : List Addr), Calls S cl (X.blk s H scope cenv fp) fun _ _ _ _ => False
section
variable {S : Sta} {G : Glo} {N : List Str} {cl : Cl} {X : Cx} {B : Blk} {W : WX}
theorem isKind_iff {sc : Scope} {x : Str} {k : NameKind} (h : isKind sc x k = true) : sc.names.lookup x = some k := by
  unfold isKind at h
  split at h <;> first | assumption | cases h
theorem XG.glob (g : XG S G N cl X B W) {x : Str} (h : isGlob B x = true) : Gl X x ∧ (x == ("__debug__" : Str)) = false ∧ x ≠ "__name__" := by
  unfold isGlob at h
  simp only [Bool.and_eq_true, Bool.not_eq_true', decide_eq_false_iff_not] at h
  refine ⟨?_, h.1.2, h.2⟩
  show X.env.scope.names.lookup x = _
  rw [g.sc]
  exact isKind_iff h.1.1
theorem XG.vis (g : XG S G N cl X B W) {x : Str} (h : isVis B x = true) : Vis X.env.scope x ∧ (x == ("__debug__" : Str)) = false ∧ (x == ("__classdict__" : Str)) = false := by
  unfold isVis at h
  simp only [Bool.and_eq_true, Bool.not_eq_true', Bool.or_eq_true] at h
  refine ⟨?_, h.1.2, h.2⟩
  rw [g.sc]
  rcases h.1.1 with (z | z) | z
  · exact .inl (isKind_iff z)
  · exact .inr (.inl (isKind_iff z))
  · exact .inr (.inr (isKind_iff z))
theorem XG.loc (g : XG S G N cl X B W) {x : Str} (h : isLoc B x = true) : Loc X.env.scope x ∧ (X.fn x = true ∨ X.env.scope.names.lookup x = some .local) := by
  unfold isLoc at h
  simp only [Bool.and_eq_true, Bool.or_eq_true] at h
  rw [g.sc, g.fn]
  rcases h with z | ⟨z, z2⟩
  · exact ⟨.inl (isKind_iff z), .inr (isKind_iff z)⟩
  · exact ⟨.inr (isKind_iff z), .inl z2⟩
theorem XG.free (g : XG S G N cl X B W) {x : Str} (h : isFree G x = true) : X.mg x = none := g.mod.free x (by unfold isFree at h; simpa using h)
theorem tab_mem {G : Glo} {p : Str × GV} (h : G.tab.contains p = true) : p ∈ G.tab := by simpa using h

theorem sVar (g : XG S G N cl X B W) {i : Nat} {x : Str} {pos : Pos} (h1 : N[i]? = some x) (h2 : isVis B x = true) : PE X (.Name x pos) (tE S W (evE S.P cl (.var i))) := by
  obtain ⟨v1, v2, v3⟩ := g.vis h2
  refine impE (pe_var (i := i) (by rw [g.N]; exact h1) v1 v2 v3) fun σ H Q ⟨ι, δ, M, sl, rm, h⟩ => ?_
  rw [evE] at h
  split at h
  · rename_i d e
    obtain ⟨v, e2, r⟩ := sl.2 i d e
    exact ⟨v, e2, rd_ok rm h v r⟩
  · exact False.elim h
theorem sCon {e : Expr} {c : CE} {v : V} {d : D} (hp : PE X e (tC v)) (he : ∀ δ M, evE S.P cl c δ M = .ok d M) (hr : ∀ ι H, RV S ι H d v) : PE X e (tE S W (evE S.P cl c)) :=
  impE hp fun σ H Q ⟨ι, δ, M, sl, rm, h⟩ => by
    rw [he] at h
    exact rd_ok rm h v (hr ι H)
theorem opIs_eq {op : Bop} {o : Operator} (h : opIs op o = true) : o = pyB op := by
  cases op <;> cases o <;> first | rfl | cases h
theorem copIs_eq {op : Cop} {o : CmpOp} (h : copIs op o = true) : o = pyC op := by
  cases op <;> cases o <;> first | rfl | cases h
theorem sBin (g : XG S G N cl X B W) {op : Bop} {a b : CE} {l r : Expr} {pos : Pos} (ho : binShown op = true) (ha : PE X l (tE S W (evE S.P cl a))) (hb : PE X r (tE S W (evE S.P cl b))) :
    PE X (.BinOp l (pyB op) r pos) (tE S W (evE S.P cl (.bin op a b))) := by
  refine impE (pe_op (opBin g.K ho) ha hb) fun σ H Q ⟨ι, δ, M, sl, rm, h⟩ => ?_
  rw [evE] at h
  refine tE_of sl rm (rd_bind h) fun x ι1 M1 H1 st1 sl1 k1 v rv => ?_
  refine tE_of sl1 st1.rm (rd_bind k1) fun y ι2 M2 H2 st2 sl2 k2 u ru => ?_
  exact rB_of (nox_bin _ _ _ _) st2.rm (rv.ext st2.ext) ru k2
theorem sNeg {a : CE} {l : Expr} {pos : Pos} (ha : PE X l (tE S W (evE S.P cl a))) : PE X (.UnaryOp .USub l pos) (tE S W (evE S.P cl (.neg a))) := by
  refine impE (pe_un un_neg ha) fun σ H Q ⟨ι, δ, M, sl, rm, h⟩ => ?_
  rw [evE] at h
  refine tE_of sl rm (rd_bind h) fun x ι1 M1 H1 st1 sl1 k1 v rv => ?_
  cases x with
  | int i =>
    cases rv
    exact ⟨i, rfl, rd_ok st1.rm k1 _ rfl⟩
  | _ => exact False.elim k1
theorem sCmp (g : XG S G N cl X B W) {op : Cop} {a b : CE} {l r : Expr} {pos : Pos} (ho : cmpShown op = true) (hm : behindInMarks (pyC op) r = false) (ha : PE X l (tE S W (evE S.P cl a))) (hb : PE X r (tE S W (evE S.P cl b))) :
    Both X S W (.Compare l [pyC op] [r] pos) (evE S.P cl (.cmp op a b)) := by
  have key : ∀ σ H (Q : VK), tE S W (evE S.P cl (.cmp op a b)) σ H Q → tOp (rC S (cmpD op)) (tE S W (evE S.P cl a)) (tE S W (evE S.P cl b)) σ H Q := fun σ H Q ⟨ι, δ, M, sl, rm, h⟩ => by
    rw [evE] at h
    refine tE_of sl rm (rd_bind h) fun x ι1 M1 H1 st1 sl1 k1 v rv => ?_
    refine tE_of sl1 st1.rm (rd_bind k1) fun y ι2 M2 H2 st2 sl2 k2 u ru => ?_
    exact rC_of st2.rm (rv.ext st2.ext) ru k2
  exact ⟨impE (pe_cmpR (opCmp g.K g.un ho) ha hb hm) key, impT (pt_cmpR (opCmp g.K g.un ho) ha hb hm) fun σ H Q h => key _ _ _ (tB_of (X := X) h)⟩
theorem sIsN {a : CE} {l : Expr} {j : Nat} {pos pos' : Pos} (ha : PE X l (tE S W (evE S.P cl a))) : Both X S W (.Compare l [.Is] [.Constant .none j pos'] pos) (evE S.P cl (.isN a)) := by
  have key : ∀ σ H (Q : VK), tE S W (evE S.P cl (.isN a)) σ H Q → tIsN (tE S W (evE S.P cl a)) σ H Q := fun σ H Q ⟨ι, δ, M, sl, rm, h⟩ => by
    rw [evE] at h
    refine tE_of sl rm (rd_bind h) fun x ι1 M1 H1 st1 sl1 k1 v rv => ?_
    refine rd_ok st1.rm k1 _ ?_
    show V.bl _ = V.bl _
    congr 1
    cases x with
    | non => rw [show v = .non from rv]; rfl
    | bl b => rw [show v = .bl b from rv]; rfl
    | int b => rw [show v = .int b from rv]; rfl
    | str b => rw [rv.1]; rfl
    | tup b => obtain ⟨p, vs, e, _⟩ := rv; rw [e]; rfl
    | ref b => obtain ⟨p, _, e⟩ := rv; rw [e]; rfl
    | fn b => rw [show v = .ref _ from rv]; rfl
    | exc b k => obtain ⟨p, e, _⟩ := rv; rw [e]; rfl
    | fro b => obtain ⟨p, e, _⟩ := rv; rw [e]; rfl
  exact ⟨impE (pe_cmp (pc_isN ha)) key, impT (pt_cmp (pc_isN ha)) fun σ H Q h => key _ _ _ (tB_of (X := X) h)⟩
theorem sNotN {a : CE} {l : Expr} {j : Nat} {pos pos' : Pos} (ha : PE X l (tE S W (evE S.P cl a))) : Both X S W (.Compare l [.IsNot] [.Constant .none j pos'] pos) (evE S.P cl (.notN a)) := by
  have key : ∀ σ H (Q : VK), tE S W (evE S.P cl (.notN a)) σ H Q → tNotN (tE S W (evE S.P cl a)) σ H Q := fun σ H Q ⟨ι, δ, M, sl, rm, h⟩ => by
    rw [evE] at h
    refine tE_of sl rm (rd_bind h) fun x ι1 M1 H1 st1 sl1 k1 v rv => ?_
    refine rd_ok st1.rm k1 _ ?_
    show V.bl _ = V.bl _
    congr 2
    cases x with
    | non => rw [show v = .non from rv]; rfl
    | bl b => rw [show v = .bl b from rv]; rfl
    | int b => rw [show v = .int b from rv]; rfl
    | str b => rw [rv.1]; rfl
    | tup b => obtain ⟨p, vs, e, _⟩ := rv; rw [e]; rfl
    | ref b => obtain ⟨p, _, e⟩ := rv; rw [e]; rfl
    | fn b => rw [show v = .ref _ from rv]; rfl
    | exc b k => obtain ⟨p, e, _⟩ := rv; rw [e]; rfl
    | fro b => obtain ⟨p, e, _⟩ := rv; rw [e]; rfl
  exact ⟨impE (pe_cmp (pc_notN ha)) key, impT (pt_cmp (pc_notN ha)) fun σ H Q h => key _ _ _ (tB_of (X := X) h)⟩
theorem sChain (g : XG S G N cl X B W) {op op' : Cop} {a b c : CE} {l r r' : Expr} {pos : Pos} (ho : cmpShown op = true) (ho' : cmpShown op' = true) (hm : lastMarks [pyC op, pyC op'] [r, r'] = false)
    (ha : PE X l (tE S W (evE S.P cl a))) (hb : PE X r (tE S W (evE S.P cl b))) (hc : PE X r' (tE S W (evE S.P cl c))) : Both X S W (.Compare l [pyC op, pyC op'] [r, r'] pos) (evE S.P cl (.chain op op' a b c)) := by
  have key : ∀ σ H (Q : VK), tE S W (evE S.P cl (.chain op op' a b c)) σ H Q → tChain (rC S (cmpD op)) (rC S (cmpD op')) (tE S W (evE S.P cl a)) (tE S W (evE S.P cl b)) (tE S W (evE S.P cl c)) σ H Q := fun σ H Q ⟨ι, δ, M, sl, rm, h⟩ => by
    rw [evE] at h
    refine tE_of sl rm (rd_bind h) fun x ι1 M1 H1 st1 sl1 k1 v rv => ?_
    refine tE_of sl1 st1.rm (rd_bind k1) fun y ι2 M2 H2 st2 sl2 k2 u ru => ?_
    cases e1 : cmpD op x y M2 with
    | none => rw [e1] at k2; exact False.elim k2
    | some k =>
      rw [e1] at k2
      refine ⟨ι2, M2, x, y, k, st2.rm, rv.ext st2.ext, ru, e1, k, rfl, ?_⟩
      cases k with
      | false => exact rd_ok st2.rm k2 _ rfl
      | true =>
        rw [if_pos rfl]
        refine tE_of sl2 st2.rm (rd_bind k2) fun z ι3 M3 H3 st3 sl3 k3 w rw' => ?_
        exact rC_of st3.rm (ru.ext st3.ext) rw' k3
  exact ⟨impE (pe_chain (opCmp g.K g.un ho) (opCmp g.K g.un ho') ha hb hc hm) key, impT (pt_chain (opCmp g.K g.un ho) (opCmp g.K g.un ho') ha hb hc hm) fun σ H Q h => key _ _ _ (tB_of (X := X) h)⟩
theorem sNot {a : CE} {l : Expr} {pos : Pos} (ha : Both X S W l (evE S.P cl a)) : Both X S W (.UnaryOp .Not l pos) (evE S.P cl (.not a)) := by
  refine ⟨impE (pe_not ha.1) fun σ H Q ⟨ι, δ, M, sl, rm, h⟩ => ?_, impT (pt_not ha.2) fun σ H Q ⟨ι, δ, M, sl, rm, h⟩ => ?_⟩
  · rw [evE] at h
    refine tE_of sl rm (rd_bind h) fun x ι1 M1 H1 st1 sl1 k1 v rv => ?_
    cases x with
    | bl b =>
      cases rv
      exact ⟨b, rfl, rd_ok st1.rm k1 _ rfl⟩
    | _ => exact False.elim k1
  · rw [evE] at h
    refine tT_of sl rm (rd_bind h) fun x ι1 M1 H1 st1 sl1 k1 => ?_
    cases x with
    | bl b =>
      obtain ⟨c, e, q⟩ := rd_ok st1.rm k1
      cases e
      exact ⟨b, rfl, q⟩
    | _ => exact False.elim k1
theorem sIf {c a b : CE} {t x y : Expr} {pos : Pos} (hc : PT X t (tT S W (evE S.P cl c))) (ha : Both X S W x (evE S.P cl a)) (hb : Both X S W y (evE S.P cl b)) : Both X S W (.IfExp t x y pos) (evE S.P cl (.ife c a b)) := by
  have pe : PE X (.IfExp t x y pos) (tE S W (evE S.P cl (.ife c a b))) := by
    refine impE (pe_ifExp hc ha.1 hb.1) fun σ H Q ⟨ι, δ, M, sl, rm, h⟩ => ?_
    rw [evE] at h
    refine tT_of sl rm (rd_bind h) fun d ι1 M1 H1 st1 sl1 k1 => ?_
    cases d with
    | bl k =>
      cases k with
      | true => exact ⟨true, rfl, by rw [if_pos rfl]; exact ⟨ι1, δ, M1, sl1, st1.rm, k1⟩⟩
      | false => exact ⟨false, rfl, by rw [if_neg Bool.false_ne_true]; exact ⟨ι1, δ, M1, sl1, st1.rm, k1⟩⟩
    | _ => exact False.elim k1
  refine ⟨pe, ⟨fun pins s σ H Q I ⟨ι, δ, M, sl, rm, h⟩ => ?_⟩⟩
  show wpAny _ _ (do if ← isTrue t X.env (eval t X.env) then isTrue x X.env (eval x X.env) else isTrue y X.env (eval y X.env)) _ _ s
  rw [evE] at h
  refine wpAny_bind (thn (hc.run pins s σ H (fun k H1 => if k = true then tT S W (evE S.P cl a) σ H1 Q else tT S W (evE S.P cl b) σ H1 Q) I (tT_of sl rm (rd_bind h) fun d ι1 M1 H1 st1 sl1 k1 => ?_)) fun k s1 ⟨H1, I1, q1⟩ => ?_)
  · cases d with
    | bl k =>
      cases k with
      | true => exact ⟨true, rfl, by rw [if_pos rfl]; exact ⟨ι1, δ, M1, sl1, st1.rm, k1⟩⟩
      | false => exact ⟨false, rfl, by rw [if_neg Bool.false_ne_true]; exact ⟨ι1, δ, M1, sl1, st1.rm, k1⟩⟩
    | _ => exact False.elim k1
  · cases k with
    | true => exact ha.2.run pins s1 σ H1 Q I1 q1
    | false => exact hb.2.run pins s1 σ H1 Q I1 q1
theorem sIdx (g : XG S G N cl X B W) {a i : CE} {x y : Expr} {pos : Pos} (hs : noSlice y = true) (ha : PE X x (tE S W (evE S.P cl a))) (hi : PE X y (tE S W (evE S.P cl i))) : PE X (.Subscript x y pos) (tE S W (evE S.P cl (.idx a i))) := by
  refine impE (pe_ix (ixOk g.K (by have := g.un; omega)) ha hi (plainIx hs)) fun σ H Q ⟨ι, δ, M, sl, rm, h⟩ => ?_
  rw [evE] at h
  refine tE_of sl rm (rd_bind h) fun x ι1 M1 H1 st1 sl1 k1 v rv => ?_
  refine tE_of sl1 st1.rm (rd_bind k1) fun y ι2 M2 H2 st2 sl2 k2 u ru => ?_
  exact rB_of (nox_idx _ _ _) st2.rm (rv.ext st2.ext) ru k2
/-- a slice's end -/
def tO (S : Sta) (W : WX) (r : Sg → Mem → Rs (Option Int)) : TO := fun σ H Q => ∃ ι δ M, SL S ι H δ σ ∧ RM S ι M H ∧ rd S W ι M σ H (r δ M) fun o ι' M' H' => Q o H'
theorem sNo : PO X none (tO S W (evO S.P cl .no)) := by
  refine ⟨fun pins s σ H Q I ⟨ι, δ, M, sl, rm, h⟩ => po_none.run pins s σ H Q I ?_⟩
  rw [evO] at h
  exact rd_ok rm h
theorem sSo {e : CE} {x : Expr} (he : PE X x (tE S W (evE S.P cl e))) : PO X (some x) (tO S W (evO S.P cl (.so e))) := by
  refine ⟨fun pins s σ H Q I ⟨ι, δ, M, sl, rm, h⟩ => (po_some he).run pins s σ H Q I ?_⟩
  rw [evO] at h
  refine tE_of sl rm (rd_bind h) fun d ι1 M1 H1 st1 sl1 k1 v rv => ?_
  cases d with
  | int i =>
    cases rv
    exact ⟨i, rfl, rd_ok st1.rm k1⟩
  | _ => exact False.elim k1
theorem sSlc (g : XG S G N cl X B W) {a : CE} {lo hi : CO} {x : Expr} {l h : Option Expr} {p2 pos : Pos} (ha : PE X x (tE S W (evE S.P cl a))) (hl : PO X l (tO S W (evO S.P cl lo))) (hh : PO X h (tO S W (evO S.P cl hi))) :
    PE X (.Subscript x (.Slice l h none p2) pos) (tE S W (evE S.P cl (.slc a lo hi))) := by
  refine impE (pe_slice (slOk g.K) ha hl hh) fun σ H Q ⟨ι, δ, M, sl, rm, h⟩ => ?_
  rw [evE] at h
  refine tE_of sl rm (rd_bind h) fun x ι1 M1 H1 st1 sl1 k1 v rv => ?_
  refine ⟨ι1, δ, M1, sl1, st1.rm, rd_mono (rd_bind k1) fun o ι2 M2 H2 st2 k2 => ?_⟩
  refine ⟨ι2, δ, M2, sl1.ext st2.ext, st2.rm, rd_mono (rd_bind k2) fun o2 ι3 M3 H3 st3 k3 => ?_⟩
  obtain ⟨z, M', e3, q⟩ := rd_nox (nox_slc _ _ _ _) k3
  exact ⟨ι3, M3, x, z, M', st3.rm, rv.ext (st2.trans st3).ext, e3, fun ι' v' H' st rv' => q ι' H' st v' rv'⟩
theorem sRev (g : XG S G N cl X B W) {a : CE} {x : Expr} {k : Nat} {p1 p2 p3 pos : Pos} (ha : PE X x (tE S W (evE S.P cl a))) :
    PE X (.Subscript x (.Slice none none (some (.UnaryOp .USub (.Constant (.int 1) k p1) p2)) p3) pos) (tE S W (evE S.P cl (.stp a (.neg (.int 1))))) := by
  refine impE (pe_revL ha) fun σ H Q ⟨ι, δ, M, sl, rm, h⟩ => ?_
  rw [evE] at h
  refine tE_of sl rm (rd_bind h) fun d ι1 M1 H1 st1 sl1 k1 v rv => ?_
  have e0 : evE S.P cl (.neg (.int 1)) δ M1 = .ok (.int (-1)) M1 := by
    rw [evE, evE]
    rfl
  rw [e0] at k1
  have k2 : rd S W ι1 M1 σ H1 (stepD d (.int (-1)) M1) (fun d ι' M' H' => ∀ v, RV S ι' H' d v → Q v H') := k1
  cases d with
  | ref n =>
    unfold stepD at k2
    simp only at k2
    cases e : seqOf M1 n with
    | none => rw [e] at k2; exact False.elim k2
    | some ds =>
      rw [e] at k2
      obtain ⟨_, p, vs, i1, h1, r1⟩ := seqOf_at st1.rm e
      exact ⟨p, vs, ref_at rv i1, .of h1, finL (Q := Q) st1.rm rfl (fun ι' v' H' st rv' => k2 ι' H' st v' rv') r1.reverse⟩
  | _ => exact False.elim k2
/-! ### lists of expressions -/
theorem sNil : PA X [] (tA S W (evEs S.P cl .nil)) := impA pa_nil fun σ H Q ⟨ι, δ, M, sl, rm, h⟩ => by
  rw [evEs] at h
  exact rd_ok rm h _ rfl
theorem sCons {e : CE} {es : CEs} {x : Expr} {xs : List Expr} (hs : noStar x = true) (he : PE X x (tE S W (evE S.P cl e))) (hr : PA X xs (tA S W (evEs S.P cl es))) : PA X (x :: xs) (tA S W (evEs S.P cl (.cons e es))) := by
  refine impA (pa_cons he hr (star_cons hs)) fun σ H Q ⟨ι, δ, M, sl, rm, h⟩ => ?_
  rw [evEs] at h
  refine tE_of sl rm (rd_bind h) fun d ι1 M1 H1 st1 sl1 k1 v rv => ?_
  refine tA_of sl1 st1.rm (rd_bind k1) fun ds ι2 M2 H2 st2 sl2 k2 vs rvs => ?_
  exact rd_ok st2.rm k2 _ (.cons (rv.ext st2.ext) rvs)
theorem evEs_len {P : Prg} {cl : Cl} : ∀ {es : CEs} {xs : List Expr} {G : Glo} {N : List Str} {B : Blk} {δ : Sg} {M M' : Mem} {ds : List D}, chkEs G N B es xs = true → evEs P cl es δ M = .ok ds M' → ds.length = xs.length
  | .nil, [], _, _, _, _, _, _, _, _, h => by rw [evEs] at h; cases h; rfl
  | .cons e es, x :: xs, G, N, B, δ, M, M', ds, hc, h => by
    rw [chkEs, Bool.and_eq_true] at hc
    rw [evEs] at h
    cases e1 : evE P cl e δ M with
    | ok d M1 =>
      rw [e1] at h
      have h' : (evEs P cl es δ M1).bind (fun ds M => .ok (d :: ds) M) = .ok ds M' := h
      cases e2 : evEs P cl es δ M1 with
      | ok r M2 =>
        rw [e2] at h'
        cases h'
        rw [List.length_cons, List.length_cons, evEs_len hc.2 e2]
      | exc c k M2 => rw [e2] at h'; cases h'
      | bad => rw [e2] at h'; cases h'
    | exc c k M1 => rw [e1] at h; cases h
    | bad => rw [e1] at h; cases h
  | .nil, _ :: _, _, _, _, _, _, _, _, hc, _ => by simp [chkEs] at hc
  | .cons _ _, [], _, _, _, _, _, _, _, hc, _ => by simp [chkEs] at hc
end
end PD

set_option Elab.async false
set_option linter.all false
set_option autoImplicit false
set_option maxRecDepth 100000
set_option maxHeartbeats 1000000
/-! PdCall0: calls, fields, built-ins' methods, walks, comprehensions: one by one. -/
namespace PD
open PySem L2 PyProof.Rows
section
variable {S : Sta} {G : Glo} {N : List Str} {cl : Cl} {X : Cx} {B : Blk} {W : WX}
/-! ### fields -/
theorem RF.look {ι : List Addr} {H : Hp} {f : Nat} {x : Str} (hx : S.fN f = x ∧ ∀ g, S.fN g = x → g = f) : ∀ {l : List (Nat × D)} {q : List (Str × V)}, RF S ι H l q →
    (match lookF f l with
      | some d => ∃ v, q.lookup x = some v ∧ RV S ι H d v
      | none => q.lookup x = none)
  | [], q, h => by rw [show q = [] from h]; rfl
  | (g, d) :: r, _, ⟨v, q, rfl, h1, h2⟩ => by
    unfold lookF
    by_cases e : g = f
    · subst e
      rw [if_pos rfl]
      refine ⟨v, ?_, h1⟩
      rw [hx.1]
      show (match x == x with | true => some v | false => List.lookup x q) = some v
      rw [beq_self_eq_true]
    · rw [if_neg e]
      have ne : (x == S.fN g) = false := beq_eq_false_iff_ne.mpr fun z => e (hx.2 g z.symm)
      have ih := RF.look hx h2
      rw [List.lookup_cons, ne]
      exact ih
theorem RF.nolook {ι : List Addr} {H : Hp} {x : Str} (hx : ∀ g, S.fN g ≠ x) : ∀ {l : List (Nat × D)} {q : List (Str × V)}, RF S ι H l q → q.lookup x = none
  | [], q, h => by rw [show q = [] from h]; rfl
  | (g, d) :: r, _, ⟨v, q, rfl, h1, h2⟩ => by
    have ne : (x == S.fN g) = false := beq_eq_false_iff_ne.mpr fun z => hx g z.symm
    rw [List.lookup_cons, ne]
    exact RF.nolook hx h2
theorem RF.put {ι : List Addr} {H : Hp} {f : Nat} {x : Str} {d : D} {v : V} (hx : S.fN f = x ∧ ∀ g, S.fN g = x → g = f) (hv : RV S ι H d v) : ∀ {l : List (Nat × D)} {q : List (Str × V)}, RF S ι H l q → RF S ι H (PD.putF f d l) (L2.putF x v q)
  | [], q, h => by
    rw [show q = [] from h]
    exact ⟨v, [], by rw [hx.1]; rfl, hv, rfl⟩
  | (g, e) :: r, _, ⟨u, q, rfl, h1, h2⟩ => by
    unfold PD.putF L2.putF
    by_cases z : g = f
    · subst z
      rw [if_pos rfl, if_pos hx.1]
      exact ⟨v, q, rfl, hv, h2⟩
    · rw [if_neg z, if_neg fun y => z (hx.2 g y)]
      exact ⟨u, _, rfl, h1, RF.put hx hv h2⟩
theorem RF.length {ι : List Addr} {H : Hp} : ∀ {l : List (Nat × D)} {q : List (Str × V)}, RF S ι H l q → q.length = l.length
  | [], q, h => by rw [show q = [] from h]; rfl
  | (g, e) :: r, _, ⟨u, q, rfl, h1, h2⟩ => by rw [List.length_cons, List.length_cons, RF.length h2]
theorem sFld (g : XG S G N cl X B W) {a : CE} {f : Nat} {x : Expr} {y : Str} {pos : Pos} (hf : G.fld[f]? = some y) (hb : okBase x = true) (ha : PE X x (tE S W (evE S.P cl a))) :
    PE X (.Attribute x y pos) (tE S W (evE S.P cl (.fld a f))) := by
  refine ⟨fun pins s σ H Q I ⟨ι, δ, M, sl, rm, h⟩ => ?_⟩
  rw [evE] at h
  refine attr_of (base_ok hb) (thn (ha.run pins s σ H (fun v H1 => ∃ a C dx fs w, v = .ref a ∧ H1 a = some (.ins C dx fs) ∧ L2.Cls X.K C ∧ NoAttr X.K C y ∧ fs.lookup y = some w ∧ Q w H1) I (tE_of sl rm (rd_bind h) fun d ι1 M1 H1 st1 sl1 k1 v rv => ?_)) fun u s1 ⟨v, H1, I1, rx, a, C, dx, fs, w, ex, ea, c, n, l, q⟩ => ?_)
  · cases d with
    | ref n =>
      unfold fldD at k1
      simp only at k1
      cases em : M1[n]? with
      | none => rw [em] at k1; exact False.elim k1
      | some o =>
        rw [em] at k1
        cases o with
        | ins c fs =>
          simp only at k1
          obtain ⟨p, hp, dx, l, e1, r1, C, hC⟩ := st1.rm.at em
          have lk := RF.look (g.mod.fname f y hf) r1
          cases e2 : lookF f fs with
          | none => rw [e2] at k1; exact False.elim k1
          | some w =>
            rw [e2] at k1 lk
            obtain ⟨w', l1, l2⟩ := lk
            exact ⟨p, _, dx, l, w', ref_at rv hp, e1, g.mod.cla c C hC, g.mod.nat c C f y hC hf, l1, rd_ok st1.rm k1 _ l2⟩
        | _ => exact False.elim k1
    | _ => exact False.elim k1
  · subst ex
    obtain rfl : u = Value.ref a := rx
    exact getattr_ok I1 ea c n l fun u' s2 I2 ru => ⟨w, H1, I2, ru, q⟩
/-! ### calls -/
theorem fn_keep (g : XG S G N cl X B W) {f : Nat} {ds : List D} {M : Mem} {ι : List Addr} {σ : St} {H : Hp} {K : D → List Addr → Mem → Hp → Prop} (h : rd S W ι M σ H (callD S.P cl f ds M) K) : PySem.W.keepIn X.K (.ref (S.fA f)) = true := by
  unfold callD at h
  cases e : S.P.fn f with
  | none =>
    unfold defaults at h
    rw [e] at h
    exact False.elim h
  | some F => exact g.mod.keep f F e
/-- the arguments, then the call of what is known -/
theorem call_with (g : XG S G N cl X B W) {es : CEs} {xs : List Expr} {pos : Pos} {f : Value} {v0 : List V} {u0 : List Value} {d0 : List D} {pins : List (Addr × Obj)} {s : Shared} {σ : St} {H : Hp} {Q : VK} {r : List V → St → Hp → VK → Prop} {h : List D → Mem → Rs D}
    {ι : List Addr} {δ : Sg} {M : Mem} (hk : PySem.W.keepIn X.K f = true) (hc : CallX X f r)
    (hr : ∀ ι M ds xs H Q, RM S ι M H → RVs S ι H ds xs → rd S W ι M σ H (h ds M) (fun d ι' M' H' => ∀ v, RV S ι' H' d v → Q v H') → r xs σ H Q)
    (hns : noStars xs = true) (hn : xs = [] → es = .nil) (ha : PA X xs (tA S W (evEs S.P cl es))) (I : Inv X pins σ H s) (hv : Vals v0 u0) (hd : RVs S ι H d0 v0) (sl : SL S ι H δ σ) (rm : RM S ι M H)
    (q : rd S W ι M σ H ((evEs S.P cl es δ M).bind fun ds M => h (d0 ++ ds) M) fun d ι' M' H' => ∀ v, RV S ι' H' d v → Q v H') :
    wpAny (model X.prog X.w) X.A (callWith pos f u0 (backTo pos (starEach xs X.env)) (backToKw pos (keywordEach [] X.env))) (EP X pins σ Q) X.xe s := by
  cases xs with
  | nil =>
    rw [hn rfl, evEs] at q
    refine PySem.W.callWith_K0 I.kIn hk ?_
    rw [List.append_nil]
    refine hc pins s σ H v0 u0 Q I hv (hr ι M d0 v0 H Q rm hd ?_)
    have q' : rd S W ι M σ H (h (d0 ++ []) M) (fun d ι' M' H' => ∀ v, RV S ι' H' d v → Q v H') := q
    rwa [List.append_nil] at q'
  | cons y ys =>
    obtain ⟨n1, n2⟩ := noStars_cons hns
    refine PySem.W.callWith_K (h₀ := X.base) I.ok.mod.kin hk ?_ (star_cons n1) (stars_back n2)
    refine thn (ha.run pos pins s σ H (fun vs H1 => r (v0 ++ vs) σ H1 Q) I (tA_of sl rm (rd_bind q) fun ds ι1 M1 H1 st1 sl1 k1 vs rvs => hr ι1 M1 _ _ H1 Q st1.rm ((hd.ext st1.ext).append rvs) k1)) fun us s1 ⟨vs, H1, I1, rv, q1⟩ => ⟨I1.kIn, ?_⟩
    exact hc pins s1 σ H1 _ _ Q I1 (hv.append rv) q1
theorem sCall (g : XG S G N cl X B W) {f : Nat} {es : CEs} {x : Str} {xs : List Expr} {p pos : Pos} (hg : isGlob B x = true) (ht : (x, GV.fn f) ∈ G.tab) (hs : noStars xs = true) (hn : xs = [] → es = .nil) (ha : PA X xs (tA S W (evEs S.P cl es))) :
    PE X (.Call (.Name x p) xs [] pos) (tE S W (evE S.P cl (.call f es))) := by
  obtain ⟨g1, g2, g3⟩ := g.glob hg
  obtain ⟨m1, m2⟩ := g.mod.fn x f ht
  refine ⟨fun pins s σ H Q I ⟨ι, δ, M, sl, rm, h⟩ => ?_⟩
  rw [evE] at h
  exact wpAny_Call_Name_kw (ld_glob I g1 m1 (call_with g (v0 := []) (u0 := []) (d0 := []) m2 (g.calls.fn f) (fun ι M ds xs H Q rm rv q => ⟨ι, M, ds, rm, rv, q⟩) hs hn ha I .nil .nil sl rm h) g2)
theorem sNew (g : XG S G N cl X B W) {c : Nat} {es : CEs} {x : Str} {xs : List Expr} {p pos : Pos} (hg : isGlob B x = true) (ht : (x, GV.cls c) ∈ G.tab) (hs : noStars xs = true) (hn : xs = [] → es = .nil) (ha : PA X xs (tA S W (evEs S.P cl es))) :
    PE X (.Call (.Name x p) xs [] pos) (tE S W (evE S.P cl (.new c es))) := by
  obtain ⟨g1, g2, g3⟩ := g.glob hg
  obtain ⟨m1, m2⟩ := g.mod.cls x c ht
  refine ⟨fun pins s σ H Q I ⟨ι, δ, M, sl, rm, h⟩ => ?_⟩
  rw [evE] at h
  exact wpAny_Call_Name_kw (ld_glob I g1 m1 (call_with g (v0 := []) (u0 := []) (d0 := []) m2 (g.calls.new c) (fun ι M ds xs H Q rm rv q => ⟨ι, M, ds, rm, rv, q⟩) hs hn ha I .nil .nil sl rm h) g2)
/-- the name's value is called: what it does is looked at where the slots are known -/
theorem sCallV (g : XG S G N cl X B W) {i : Nat} {es : CEs} {x : Str} {xs : List Expr} {p pos : Pos} (h1 : N[i]? = some x) (h2 : isVis B x = true) (hs : noStars xs = true) (hn : xs = [] → es = .nil) (ha : PA X xs (tA S W (evEs S.P cl es))) :
    PE X (.Call (.Name x p) xs [] pos) (tE S W (evE S.P cl (.callV i es))) := by
  obtain ⟨v1, v2, v3⟩ := g.vis h2
  refine ⟨fun pins s σ H Q I ⟨ι, δ, M, sl, rm, h⟩ => ?_⟩
  rw [evE] at h
  split at h
  · rename_i k e
    obtain ⟨v, e2, r⟩ := sl.2 i _ e
    have hv : v = .ref (S.fA k) := r
    subst hv
    refine wpAny_Call_Name_kw (thn ((pe_var (pos := p) (i := i) (by rw [g.N]; exact h1) v1 v2 v3).run pins s σ H (fun v H1 => v = .ref (S.fA k) ∧ H1 = H) I ⟨_, e2, rfl, rfl⟩) fun u s1 ⟨v, H1, I1, rv, ev, eH⟩ => ?_)
    subst ev eH
    obtain rfl : u = Value.ref (S.fA k) := rv
    cases hF : S.P.fn k with
    | some F =>
      rw [hF, if_pos (show (some F).isSome = true from rfl)] at h
      exact call_with g (v0 := []) (u0 := []) (d0 := []) (g.mod.keep k F hF) (g.calls.fn k) (fun ι M ds xs H Q rm rv q => ⟨ι, M, ds, rm, rv, q⟩) hs hn ha I1 .nil .nil sl rm h
    | none =>
      rw [hF, if_neg (by simp)] at h
      exact False.elim h
  · exact False.elim h
theorem few_ok {env : Env} {pos : Pos} {xs : List Expr} (hs : noStars xs = true) (hl : xs.length < 30) : methodCallForm (xs.length + ([] : List Keyword).length) (backTo pos (starEach xs env)) (backToKw pos (keywordEach [] env)) = true := by
  unfold methodCallForm
  rw [stars_all hs]
  have e : backToKw pos (keywordEach [] env) = [] := rfl
  rw [e]
  simp
  omega
theorem meth_tree {o : Expr} {name : Str} {apos pos : Pos} {xs : List Expr} {env : Env} (hb : okBase o = true) (hs : noStars xs = true) (hl : xs.length < 30) (hline : (apos.endLine == pos.line) = true) :
    eval (.Call (.Attribute o name apos) xs [] pos) env = (do
      let ov ← eval o env
      standAt apos.atName
      let (f, first) ← holding [ov] (getMethod ov name (do return (← importBound o env).getD true))
      callWith pos f first (backTo pos (starEach xs env)) (backToKw pos (keywordEach [] env))) := by
  have hpos : methodCallPos true o env apos pos = pure pos := by unfold methodCallPos; simp [hline]
  rw [arm_eval_Call, base_ok hb]
  unfold methodCall
  rw [few_ok hs hl]
  unfold calleeOf
  simp only [hpos, if_true, pure_bind]
theorem sMeth (g : XG S G N cl X B W) {a : CE} {m : Nat} {es : CEs} {o : Expr} {y : Str} {xs : List Expr} {apos pos : Pos} (hm : G.mth[m]? = some y) (hb : okBase o = true) (hline : (apos.endLine == pos.line) = true) (hl : xs.length < 30) (hs : noStars xs = true) (hn : xs = [] → es = .nil)
    (ho : PE X o (tE S W (evE S.P cl a))) (ha : PA X xs (tA S W (evEs S.P cl es))) : PE X (.Call (.Attribute o y apos) xs [] pos) (tE S W (evE S.P cl (.meth a m es))) := by
  refine ⟨fun pins s σ H Q I ⟨ι, δ, M, sl, rm, h⟩ => ?_⟩
  rw [evE] at h
  refine PySem.W.methodCall_KW (pl := do return (← importBound o X.env).getD true) (thn (ho.run pins s σ H (fun v H1 => ∃ ι1 M1 p f C dx fs n, RM S ι1 M1 H1 ∧ SL S ι1 H1 δ σ ∧ v = .ref p ∧ RV S ι1 H1 (.ref n) v ∧ H1 p = some (.ins C dx fs) ∧ L2.Cls X.K C ∧ Meth X.K C y (S.fA f) ∧ fs.lookup y = none ∧
    rd S W ι1 M1 σ H1 ((evEs S.P cl es δ M1).bind fun ds M => callD S.P cl f (.ref n :: ds) M) fun d ι' M' H' => ∀ v, RV S ι' H' d v → Q v H') I (tE_of sl rm (rd_bind h) fun d ι1 M1 H1 st1 sl1 k1 v rv => ?_)) fun u s1 ⟨v, H1, I1, rx, ι1, M1, p, f, C, dx, fs, n, rm1, sl1, ev, rv, e1, hC, hM, l, q⟩ => ?_) (meth_tree hb hs hl hline)
  · cases d with
    | ref n =>
      simp only at k1
      cases em : M1[n]? with
      | none => rw [em] at k1; exact False.elim k1
      | some o =>
        rw [em] at k1
        cases o with
        | ins c fs =>
          simp only at k1
          obtain ⟨p, hp, dx, l, e1, r1, C, hC⟩ := st1.rm.at em
          rw [hC] at k1
          simp only at k1
          cases e2 : C.meths.lookup m with
          | none => rw [e2] at k1; exact False.elim k1
          | some f =>
            rw [e2] at k1
            exact ⟨ι1, M1, p, f, _, dx, l, n, st1.rm, sl1, ref_at rv hp, rv, e1, g.mod.cla c C hC, g.mod.met c C m y f hC hm e2, RF.nolook (fun f => g.mod.mname m y f hm) r1, k1⟩
        | _ => exact False.elim k1
    | _ => exact False.elim k1
  · subst ev
    obtain rfl : u = Value.ref p := rx
    refine getmeth_ok I1 e1 hC hM l ?_
    exact call_with g (v0 := [.ref p]) (u0 := [.ref p]) (d0 := [.ref n]) hM.kp (g.calls.fn f) (fun ι M ds xs H Q rm rv q => ⟨ι, M, ds, rm, rv, q⟩) hs hn ha I1 (.cons rfl .nil) (.one rv) sl1 rm1 q
/-! ### built-in functions -/
theorem sBltB (g : XG S G N cl X B W) {b : Blt} {es : CEs} {x : Str} {id : String} {y : Expr} {ys : List Expr} {p pos : Pos} (hg : isGlob B x = true) (hf : isFree G x = true) (hv : bootBuiltins x = some (.builtin id)) (hs : noStars (y :: ys) = true) (ha : PA X (y :: ys) (tA S W (evEs S.P cl es)))
    (hc : CallR X (.builtin id) (rA S (bltD b))) : PE X (.Call (.Name x p) (y :: ys) [] pos) (tE S W (evE S.P cl (.blt b es))) := by
  obtain ⟨g1, g2, g3⟩ := g.glob hg
  obtain ⟨n1, n2⟩ := noStars_cons hs
  refine impE (pe_callB hc g1 (g.free hf) hv ha g3 g2 (star_cons n1) (stars_back n2)) fun σ H Q ⟨ι, δ, M, sl, rm, h⟩ => ?_
  rw [evE] at h
  exact tA_of sl rm (rd_bind h) fun ds ι1 M1 H1 st1 sl1 k1 vs rvs => rA_of (nox_blt _ _ _) st1.rm rvs k1
theorem sBltT (g : XG S G N cl X B W) {b : Blt} {es : CEs} {x : Str} {id : String} {y : Expr} {ys : List Expr} {p pos : Pos} (hg : isGlob B x = true) (hf : isFree G x = true) (hv : bootBuiltins x = some (.type id)) (hs : noStars (y :: ys) = true) (ha : PA X (y :: ys) (tA S W (evEs S.P cl es)))
    (hc : CallR X (.type id) (rA S (bltD b))) : PE X (.Call (.Name x p) (y :: ys) [] pos) (tE S W (evE S.P cl (.blt b es))) := by
  obtain ⟨g1, g2, g3⟩ := g.glob hg
  obtain ⟨n1, n2⟩ := noStars_cons hs
  refine impE (pe_callTy hc g1 (g.free hf) hv ha g3 g2 (star_cons n1) (stars_back n2)) fun σ H Q ⟨ι, δ, M, sl, rm, h⟩ => ?_
  rw [evE] at h
  exact tA_of sl rm (rd_bind h) fun ds ι1 M1 H1 st1 sl1 k1 vs rvs => rA_of (nox_blt _ _ _) st1.rm rvs k1
theorem boot_len' : bootBuiltins "len" = some (.builtin "len") := by decide +kernel
theorem boot_any' : bootBuiltins "any" = some (.builtin "any") := by decide +kernel
theorem boot_all' : bootBuiltins "all" = some (.builtin "all") := by decide +kernel
theorem boot_sum' : bootBuiltins "sum" = some (.builtin "sum") := by decide +kernel
theorem sBlt (g : XG S G N cl X B W) {b : Blt} {es : CEs} {x : Str} {y : Expr} {ys : List Expr} {p pos : Pos} (hb : bltName b = some x) (hg : isGlob B x = true) (hf : isFree G x = true) (hs : noStars (y :: ys) = true) (ha : PA X (y :: ys) (tA S W (evEs S.P cl es))) :
    PE X (.Call (.Name x p) (y :: ys) [] pos) (tE S W (evE S.P cl (.blt b es))) := by
  cases b with
  | len => cases hb; exact sBltB g hg hf boot_len' hs ha (bLen g.K)
  | any => cases hb; exact sBltB g hg hf boot_any' hs ha (bAny g.calm)
  | all => cases hb; exact sBltB g hg hf boot_all' hs ha (bAll g.calm)
  | sum => cases hb; exact sBltB g hg hf boot_sum' hs ha (bSum g.K g.calm)
  | max => cases hb; exact sBltB g hg hf boot_max hs ha (bMax g.calm)
  | min => cases hb; exact sBltB g hg hf boot_min hs ha (bMin g.calm)
  | int => cases hb; exact sBltT g hg hf boot_int hs ha bInt
  | str => cases hb; exact sBltT g hg hf boot_str hs ha bStr
  | tuple => cases hb; exact sBltT g hg hf boot_tuple hs ha (bTuple g.K)
  | list => cases hb; exact sBltT g hg hf boot_list hs ha (bList g.K g.calm)
  | sorted => cases hb
  | dictT => cases hb
  | dictK => cases hb
  | lenSet => cases hb
/-! ### isinstance of a built-in type -/
def tyS : Ty → String
  | .int => "int" | .str => "str" | .bool => "bool" | .tuple => "tuple" | .list => "list"
theorem boot_ty (t : Ty) : bootBuiltins (tyName t) = some (.type (tyS t)) := by cases t <;> decide +kernel
theorem sqT_ty {K : PySem.W.Frag} {H : Hp} {a : Addr} {vs : List V} (h : SqT K H a vs) : TyX K H (.ref a) (.type "tuple") := by
  rcases h with (h | ⟨o, h⟩) | ⟨o, its, n, e, c, _⟩
  · exact .base (.tup h)
  · exact .fTuple h
  · exact .kTuple e c
theorem isTy_ok (hK : S.K = X.K) {ι : List Addr} {M : Mem} {H : Hp} {d : D} {v : V} {t : Ty} {b : Bool} (R : RM S ι M H) (r : RV S ι H d v) (h : PD.isTy d t M = some b) : ∃ ty : String, TyX X.K H v (.type ty) ∧ kitB ty (tyS t) = some b := by
  cases d with
  | non => cases r; exact ⟨_, .base .non, by cases t <;> cases h <;> decide +kernel⟩
  | bl k => cases r; exact ⟨_, .base (.bl k), by cases t <;> cases h <;> decide +kernel⟩
  | int k => cases r; exact ⟨_, .base (.int k), by cases t <;> cases h <;> decide +kernel⟩
  | str k => obtain ⟨rfl, _⟩ := r; exact ⟨_, .base (.str _), by cases t <;> cases h <;> decide +kernel⟩
  | tup k =>
    obtain ⟨a, vs, rfl, s, _⟩ := r
    rw [hK] at s
    exact ⟨_, sqT_ty s, by cases t <;> cases h <;> decide +kernel⟩
  | ref n =>
    unfold PD.isTy at h
    simp only at h
    cases em : M[n]? with
    | none => rw [em] at h; cases h
    | some o =>
      rw [em] at h
      cases o with
      | lst ds =>
        obtain ⟨a, ha, vs, h1, _⟩ := R.at em
        rw [ref_at r ha]
        exact ⟨_, .base (.lst h1), by cases t <;> cases h <;> decide +kernel⟩
      | _ => cases h
  | _ => cases h
theorem sIsTy (g : XG S G N cl X B W) {a : CE} {t : Ty} {y : Expr} {p p2 pos : Pos} (hg : isGlob B "isinstance" = true) (hf : isFree G "isinstance" = true) (hg2 : isGlob B (tyName t) = true) (hf2 : isFree G (tyName t) = true) (hs : noStar y = true) (ha : PE X y (tE S W (evE S.P cl a))) :
    PE X (.Call (.Name "isinstance" p) [y, .Name (tyName t) p2] [] pos) (tE S W (evE S.P cl (.isTy a t))) := by
  obtain ⟨g1, g2, g3⟩ := g.glob hg
  obtain ⟨k1, k2, k3⟩ := g.glob hg2
  have hA := pa_cons ha (pa_cons (pe_bltn (pos := p2) k1 (g.free hf2) (boot_ty t) (show RelV (.ty (tyS t)) (.type (tyS t)) from rfl) k3 k2) pa_nil) (star_cons hs)
  refine impE (pe_callB call_isi g1 (g.free hf) boot_isinstance hA g3 g2 (star_cons hs) rfl) fun σ H Q ⟨ι, δ, M, sl, rm, h⟩ => ?_
  rw [evE] at h
  refine tE_of sl rm (rd_bind h) fun d ι1 M1 H1 st1 sl1 k1 v rv => ?_
  cases e : PD.isTy d t M1 with
  | none => rw [e] at k1; exact False.elim k1
  | some b =>
    rw [e] at k1
    obtain ⟨ty, h1, h2⟩ := isTy_ok g.K st1.rm rv e
    exact ⟨v, .ty (tyS t), _, _, b, rfl, .ty _, h1, kit_ty h2, rd_ok st1.rm k1 _ rfl⟩
/-! ### built-in methods -/
/-- a method of a receiver of kind k, by values -/
def rM (S : Sta) (m : Bm) (k : Nat) : V → List V → Hp → VK → Prop := fun x xs H Q => ∃ ι M e ds z M', RM S ι M H ∧ RV S ι H e x ∧ RVs S ι H ds xs ∧ kindD e M = k ∧ bmD m e ds M = .ok z M' ∧ ∀ ι' v H', Step S ι M H ι' M' H' → RV S ι' H' z v → Q v H'
structure BmS (X : Cx) (S : Sta) (m : Bm) (y : Str) (k : Nat) (T id : String) : Prop where
  pa : PlainAttrs T
  slot : Slot T y id
  hty : typeOf (.builtin id) = pure (.type "method_descriptor")
  ty : ∀ ι M H d x, RM S ι M H → RV S ι H d x → kindD d M = k → tyV X.K T x H
  mt : MtR X id (rM S m k)
theorem kind3 (hK : S.K = X.K) : ∀ ι M H d x, RM S ι M H → RV S ι H d x → kindD d M = 3 → tyV X.K "list" x H := by
  intro ι M H d x R r h
  cases d with
  | fro ns =>
    obtain ⟨a, rfl, t⟩ := r
    rw [hK] at t
    exact .inl ⟨rfl, _, t.seq⟩
  | ref n =>
    unfold kindD at h
    simp only at h
    cases em : M[n]? with
    | none => rw [em] at h; cases h
    | some o =>
      rw [em] at h
      cases o with
      | lst ds =>
        obtain ⟨a, ha, vs, h1, _⟩ := R.at em
        rw [ref_at r ha]
        exact .inl ⟨rfl, vs, .of h1⟩
      | dct t kvs => cases t <;> cases h
      | ins c fs => cases h
  | _ => cases h
theorem kind1 : ∀ ι M H d x, RM S ι M H → RV S ι H d x → kindD d M = 1 → tyV X.K "str" x H := by
  intro ι M H d x R r h
  cases d with
  | str a =>
    rw [r.1]
    rfl
  | ref n =>
    unfold kindD at h
    simp only at h
    split at h <;> cases h
  | _ => cases h
theorem kind4 : ∀ ι M H d x, RM S ι M H → RV S ι H d x → kindD d M = 4 → tyV X.K "dict" x H := by
  intro ι M H d x R r h
  cases d with
  | ref n =>
    unfold kindD at h
    simp only at h
    cases em : M[n]? with
    | none => rw [em] at h; cases h
    | some o =>
      rw [em] at h
      cases o with
      | lst ds => cases h
      | dct t kvs =>
        cases t with
        | true => cases h
        | false =>
          obtain ⟨a, ha, kv, h1, _⟩ := R.at em
          rw [ref_at r ha]
          exact .inr (.inr (.inl ⟨rfl, .inl ⟨kv, h1⟩⟩))
      | ins c fs => cases h
  | _ => cases h
theorem mAppend : MtR X "list.append" (rM S .append 3) := by
  intro pins s σ H x xs v us Q I rx rs h
  obtain ⟨ι, M, e, ds, z, M', R, r, rv, hk, h, q⟩ := h
  cases e with
  | ref n =>
    cases ds with
    | nil => cases h
    | cons d ds =>
      cases ds with
      | cons d2 ds => cases h
      | nil =>
        have h' : (match M[n]? with
          | some (.lst ds) => if ds.length < SZ then Rs.ok D.non (M.set n (.lst (ds ++ [d]))) else .bad
          | _ => .bad) = .ok z M' := h
        cases em : M[n]? with
        | none => rw [em] at h'; cases h'
        | some o =>
          rw [em] at h'
          cases o with
          | lst es =>
            simp only at h'
            split at h'
            · rename_i hl
              cases h'
              obtain ⟨a, ha, vs, h1, r1⟩ := R.at em
              obtain ⟨y, rfl, ry⟩ := rvs1 rv
              exact mt_append pins s σ H x [y] v us Q I rx rs ⟨a, vs, y, ref_at r ha, rfl, h1, by rw [r1.length, ← SZ_eq]; exact hl, q ι _ _ (Step.write R ha fun x e => ⟨_, e, (r1.ext x).append (.one (ry.ext x))⟩) rfl⟩
            · cases h'
          | _ => cases h'
  | _ => cases ds <;> first | cases h | (rename_i d ds; cases ds <;> cases h)
theorem mClear : MtR X "list.clear" (rM S .clear 3) := by
  intro pins s σ H x xs v us Q I rx rs h
  obtain ⟨ι, M, e, ds, z, M', R, r, rv, hk, h, q⟩ := h
  cases ds with
  | cons d ds => cases e <;> cases h
  | nil =>
    cases e with
    | ref n =>
      have h' : (match M[n]? with
        | some (.lst _) => Rs.ok D.non (M.set n (.lst []))
        | _ => .bad) = .ok z M' := h
      cases em : M[n]? with
      | none => rw [em] at h'; cases h'
      | some o =>
        rw [em] at h'
        cases o with
        | lst es =>
          cases h'
          obtain ⟨a, ha, vs, h1, r1⟩ := R.at em
          have rv' : xs = [] := rv
          subst rv'
          exact mt_clear pins s σ H x [] v us Q I rx rs ⟨a, vs, ref_at r ha, rfl, h1, q ι _ _ (Step.write R ha fun x e => ⟨_, e, .nil⟩) rfl⟩
        | _ => cases h'
    | _ => cases h
theorem bmS (hK : S.K = X.K) {m : Bm} {y : Str} {k : Nat} (hn : bmName m = some y) (hk : bmOk m k = true) : ∃ T id, BmS X S m y k T id := by
  cases m with
  | append =>
    cases hn
    have e : k = 3 := by
      unfold bmOk at hk
      split at hk <;> first | rfl | contradiction
    subst e
    exact ⟨"list", "list.append", F.plainAttrs_list, F.slot_list_append, F.type_list_append, kind3 hK, mAppend⟩
  | clear =>
    cases hn
    have e : k = 3 := by
      unfold bmOk at hk
      split at hk <;> first | rfl | contradiction
    subst e
    exact ⟨"list", "list.clear", F.plainAttrs_list, F.slot_list_clear, F.type_list_clear, kind3 hK, mClear⟩
  | _ => cases hn
theorem sBm (g : XG S G N cl X B W) {a : CE} {m : Bm} {es : CEs} {o : Expr} {y : Str} {xs : List Expr} {apos pos : Pos} (hm : bmName m = some y) (hb : okBase o = true) (hline : (apos.endLine == pos.line) = true) (hl : xs.length < 30) (hs : noStars xs = true) (hn : xs = [] → es = .nil)
    (ho : PE X o (tE S W (evE S.P cl a))) (ha : PA X xs (tA S W (evEs S.P cl es))) : PE X (.Call (.Attribute o y apos) xs [] pos) (tE S W (evE S.P cl (.bm m a es))) := by
  refine ⟨fun pins s σ H Q I ⟨ι, δ, M, sl, rm, h⟩ => ?_⟩
  rw [evE] at h
  have hfew : ((backTo pos (starEach xs X.env)).all (fun x => !x.1) && (backToKw pos (keywordEach [] X.env)).all (fun x => x.1.isSome) && decide (xs.length + ([] : List Keyword).length + (if ([] : List Keyword).isEmpty then 0 else 1) < 30)) = true := few_ok (env := X.env) (pos := pos) hs hl
  have hO := ho.run pins s σ H (fun v H1 => ∃ ι1 M1 d, RM S ι1 M1 H1 ∧ SL S ι1 H1 δ σ ∧ RV S ι1 H1 d v ∧ bmOk m (kindD d M1) = true ∧
    rd S W ι1 M1 σ H1 ((evEs S.P cl es δ M1).bind fun ds M => if kindD d M = kindD d M1 then bmD m d ds M else .bad) fun d ι' M' H' => ∀ v, RV S ι' H' d v → Q v H') I (tE_of sl rm (rd_bind h) fun d ι1 M1 H1 st1 sl1 k1 v rv => by
      by_cases hk : bmOk m (kindD d M1) = true
      · rw [if_pos hk] at k1
        exact ⟨ι1, M1, d, st1.rm, sl1, rv, hk, k1⟩
      · rw [if_neg hk] at k1
        exact False.elim k1)
  cases xs with
  | nil =>
    refine wpAny_Call_method0_late (base_ok hb) hline (thn hO fun v s1 ⟨x, H1, I1, r1, ι1, M1, d, rm1, sl1, rv, hk, q1⟩ => ?_)
    obtain ⟨T, id, bs⟩ := bmS g.K hm hk
    obtain ⟨h1, h2⟩ := tyV_is I1 r1 (bs.ty _ _ _ _ _ rm1 rv rfl)
    rw [hn rfl, evEs] at q1
    have q2 : rd S W ι1 M1 σ H1 (if kindD d M1 = kindD d M1 then bmD m d [] M1 else .bad) (fun d ι' M' H' => ∀ v, RV S ι' H' d v → Q v H') := q1
    rw [if_pos rfl] at q2
    obtain ⟨z, M', e1, q3⟩ := rd_nox (nox_bm _ _ _ _) q2
    exact ⟨T, id, bs.pa, bs.slot, bs.hty, h1, h2, Calls.callWith_builtin rfl (PySem.evalArgs_none (bs.mt pins s1 σ H1 x [] v [] Q I1 r1 .nil ⟨ι1, M1, d, [], z, M', rm1, rv, .nil, rfl, e1, fun ι' v H' st rv' => q3 ι' H' st v rv'⟩))⟩
  | cons y0 ys =>
    obtain ⟨n1, n2⟩ := noStars_cons hs
    refine wpAny_Call_method_late (base_ok hb) hfew hline rfl (thn hO fun v s1 ⟨x, H1, I1, r1, ι1, M1, d, rm1, sl1, rv, hk, q1⟩ => ?_)
    obtain ⟨T, id, bs⟩ := bmS g.K hm hk
    obtain ⟨h1, h2⟩ := tyV_is I1 r1 (bs.ty _ _ _ _ _ rm1 rv rfl)
    refine ⟨T, id, bs.pa, bs.slot, bs.hty, h1, h2, ?_⟩
    have hA := ha.run pos pins s1 σ H1 (fun vs H2 => rM S m (kindD d M1) x vs H2 Q) I1 (tA_of sl1 rm1 (rd_bind q1) fun ds ι2 M2 H2 st2 sl2 k2 vs rvs => by
      by_cases hk2 : kindD d M2 = kindD d M1
      · rw [if_pos hk2] at k2
        obtain ⟨z, M', e1, q3⟩ := rd_nox (nox_bm _ _ _ _) k2
        exact ⟨ι2, M2, d, ds, z, M', st2.rm, rv.ext st2.ext, rvs, hk2, e1, fun ι' v H' st rv' => q3 ι' H' st v rv'⟩
      · rw [if_neg hk2] at k2
        exact False.elim k2)
    have hs' : starEach (y0 :: ys) X.env = (false, eval y0 X.env) :: starEach ys X.env := star_cons n1
    rw [hs'] at hA ⊢
    refine Calls.callWith_builtin (by show (false || (backTo pos (starEach ys X.env)).any (·.1)) = false; rw [stars_back n2] <;> rfl) (Calls.evalArgs_plain ?_)
    exact thn hA fun us s2 ⟨vs, H2, I2, r2, q2⟩ => bs.mt pins s2 σ H2 x vs v us Q I2 r1 r2 q2
end
end PD

set_option Elab.async false
set_option linter.all false
set_option autoImplicit false
set_option maxRecDepth 100000
set_option maxHeartbeats 1000000
/-! PdWalk: what is walked, targets, comprehensions; then the induction. -/
namespace PD
open PySem L2 PyProof.Rows
/-- the iterator yields the items, where nothing else is done at the guarded list -/
structure Yld (S : Sta) (J : It) (gd : Option (Nat × List D)) (items : List D) (ι0 : List Addr) (H0 : Hp) : Prop where
  turn : ∀ (ι : List Addr) (M : Mem) (H : Hp) (i : Nat) (d : D), RM S ι M H → Ext ι0 H0 ι H → guardOk gd M = true → items[i]? = some d → J.go i H ∧ ∀ x H', J.yld i H x H' → Step S ι M H ι M H' ∧ RV S ι H' d x
  stop : ∀ (ι : List Addr) (M : Mem) (H : Hp), RM S ι M H → Ext ι0 H0 ι H → guardOk gd M = true → J.stop items.length H
def tI (S : Sta) (W : WX) (r : Sg → Mem → Rs (List D × Option (Nat × List D))) : TI := fun σ H R => ∃ ι δ M, SL S ι H δ σ ∧ RM S ι M H ∧ rd S W ι M σ H (r δ M) fun it ι' M' H' => ∀ J, Yld S J it.2 it.1 ι' H' → R J H'
section
variable {S : Sta} {G : Glo} {N : List Str} {cl : Cl} {X : Cx} {B : Blk} {W : WX}
theorem guard_at {ι0 ι : List Addr} {H0 H : Hp} {M : Mem} {n : Nat} {a : Addr} {ds : List D} (R : RM S ι M H) (x : Ext ι0 H0 ι H) (ha : ι0[n]? = some a) (h : guardOk (some (n, ds)) M = true) : ∃ vs, H a = some (.lst vs) ∧ RVs S ι H ds vs := by
  have h' : (match seqOf M n with
    | some es => decide (es = ds)
    | none => false) = true := h
  cases e : seqOf M n with
  | none => rw [e] at h'; cases h'
  | some es =>
    rw [e] at h'
    have e2 : es = ds := of_decide_eq_true h'
    subst e2
    obtain ⟨_, p, vs, i1, h1, r1⟩ := seqOf_at R e
    have := x.at ha
    rw [i1] at this
    cases this
    exact ⟨vs, h1, r1⟩
theorem yldL {K : PySem.W.Frag} {ι0 : List Addr} {H0 : Hp} {n : Nat} {a : Addr} {ds : List D} (ha : ι0[n]? = some a) : Yld S (Itl K a) (some (n, ds)) ds ι0 H0 where
  turn := fun ι M H i d R x g e => by
    obtain ⟨vs, h1, r1⟩ := guard_at R x ha g
    obtain ⟨v, e1, rv⟩ := r1.get e
    exact ⟨⟨vs, v, .of h1, e1⟩, fun y H' ⟨eH, q⟩ => by
      subst eH
      have := q vs (.of h1)
      rw [e1] at this
      cases this
      exact ⟨.refl R, rv⟩⟩
  stop := fun ι M H R x g => by
    obtain ⟨vs, h1, r1⟩ := guard_at R x ha g
    exact ⟨vs, .of h1, by rw [r1.length]; exact Nat.le_refl _⟩
theorem yldT (hK : S.K = X.K) {ι0 : List Addr} {H0 : Hp} {a : Addr} {ds : List D} {vs : List V} (t : SqT X.K H0 a vs) (r : RVs S ι0 H0 ds vs) : Yld S (Itt X.K a) none ds ι0 H0 where
  turn := fun ι M H i d R x g e => by
    have t' := x.mono.tup t
    obtain ⟨v, e1, rv⟩ := (r.ext x).get e
    exact ⟨⟨vs, v, t', e1⟩, fun y H' ⟨eH, q⟩ => by
      subst eH
      have := q vs t'
      rw [e1] at this
      cases this
      exact ⟨.refl R, rv⟩⟩
  stop := fun ι M H R x g => ⟨vs, x.mono.tup t, by rw [r.length]; exact Nat.le_refl _⟩
theorem yldF (hK : S.K = X.K) {ι0 : List Addr} {H0 : Hp} {a : Addr} {ns : List Int} (t : Fro X.K H0 a ns) : Yld S (Itl X.K a) none (ns.map .int) ι0 H0 where
  turn := fun ι M H i d R x g e => by
    have t' := (x.mono.fro t).seq
    obtain ⟨v, e1, rv⟩ := (RVs.ints (S := S) (ι := ι) (H := H) ns).get e
    exact ⟨⟨_, v, t', e1⟩, fun y H' ⟨eH, q⟩ => by
      subst eH
      have := q _ t'
      rw [e1] at this
      cases this
      exact ⟨.refl R, rv⟩⟩
  stop := fun ι M H R x g => ⟨_, (x.mono.fro t).seq, by simp⟩
theorem yldS {ι0 : List Addr} {H0 : Hp} {a : T} (o : OkT a) : Yld S (Its (toS a)) none (a.map fun c => .str [c]) ι0 H0 where
  turn := fun ι M H i d R x g e => by
    rw [List.getElem?_map] at e
    cases e1 : a[i]? with
    | none => rw [e1] at e; cases e
    | some c =>
      rw [e1] at e
      cases e
      have hi : i < a.length := (List.getElem?_eq_some_iff.mp e1).1
      refine ⟨show i < (toS a).cps.size by simpa [toS] using hi, fun y H' ⟨eH, c', e2, ev⟩ => ?_⟩
      subst eH ev
      have e3 : a[i]? = some c' := by simpa [toS] using e2
      rw [e1] at e3
      cases e3
      exact ⟨.refl R, rfl, fun x hx => by rw [List.mem_singleton] at hx; rw [hx]; exact o c (List.mem_of_getElem? e1)⟩
  stop := fun ι M H R x g => by
    show (toS a).cps.size ≤ _
    simp [toS]
theorem sSeq (g : XG S G N cl X B W) {e : CE} {tg x : Expr} (he : PE X x (tE S W (evE S.P cl e))) : PI X tg x (tI S W (evI S.P cl (.seq e))) := by
  refine ⟨fun pins s σ H R I ⟨ι, δ, M, sl, rm, h⟩ => ?_⟩
  rw [evI] at h
  have h2 := rd_bind h
  cases e1 : evE S.P cl e δ M with
  | bad => rw [e1] at h2; exact False.elim h2
  | exc c k M1 => exact (pi_list he).run pins s σ H R I ⟨ι, δ, M, sl, rm, by rw [e1] at h2 ⊢; exact h2⟩
  | ok d M1 =>
    rw [e1] at h2
    have h3 : ∀ ι1 H1, Step S ι M H ι1 M1 H1 → rd S W ι1 M1 σ H1 (itemsOf M1 d) fun it ι' M' H' => ∀ J, Yld S J it.2 it.1 ι' H' → R J H' := h2
    have go : ∀ {Q : VK}, (∀ ι1 H1 v, Step S ι M H ι1 M1 H1 → RV S ι1 H1 d v → Q v H1) → tE S W (evE S.P cl e) σ H Q := fun q => ⟨ι, δ, M, sl, rm, by rw [e1]; exact fun ι1 H1 st v rv => q ι1 H1 v st rv⟩
    cases d with
    | tup ds =>
      refine (pi_tup he).run pins s σ H R I (go fun ι1 H1 v st rv => ?_)
      obtain ⟨a, vs, rfl, t, r⟩ := rv
      rw [g.K] at t
      exact ⟨a, rfl, ⟨vs, t⟩, rd_ok st.rm (h3 ι1 H1 st) _ (yldT g.K t r)⟩
    | fro ns =>
      refine (pi_list he).run pins s σ H R I (go fun ι1 H1 v st rv => ?_)
      obtain ⟨a, rfl, t⟩ := rv
      rw [g.K] at t
      exact ⟨a, rfl, ⟨_, t.seq⟩, rd_ok st.rm (h3 ι1 H1 st) _ (yldF g.K t)⟩
    | str x =>
      refine (pi_str he).run pins s σ H R I (go fun ι1 H1 v st rv => ?_)
      have k := h3 ι1 H1 st
      unfold itemsOf at k
      simp only at k
      split at k
      · exact ⟨_, rv.1, rd_ok st.rm k _ (yldS rv.2)⟩
      · exact False.elim k
    | ref n =>
      refine (pi_list he).run pins s σ H R I (go fun ι1 H1 v st rv => ?_)
      have k := h3 ι1 H1 st
      unfold itemsOf at k
      simp only at k
      cases e2 : seqOf M1 n with
      | none => rw [e2] at k; exact False.elim k
      | some ds =>
        rw [e2] at k
        obtain ⟨_, a, vs, i1, hl, r1⟩ := seqOf_at st.rm e2
        exact ⟨a, ref_at rv i1, ⟨vs, .of hl⟩, rd_ok st.rm k _ (yldL i1)⟩
    | _ => exact (pi_list he).run pins s σ H R I (go fun ι1 H1 v st rv => False.elim (h3 ι1 H1 st))
theorem yldR {ι0 : List Addr} {H0 : Hp} {lo : Int} {n : Nat} : Yld S (Itr lo n) none ((List.range n).map fun i : Nat => D.int (lo + (i : Int))) ι0 H0 where
  turn := fun ι M H i d R x g e => by
    rw [List.getElem?_map] at e
    by_cases hi : i < n
    · rw [List.getElem?_range hi] at e
      cases e
      exact ⟨hi, fun y H' ⟨eH, ev⟩ => by subst eH ev; exact ⟨.refl R, rfl⟩⟩
    · rw [List.getElem?_eq_none (by simpa using hi)] at e
      cases e
  stop := fun ι M H R x g => by
    show n ≤ _
    simp
theorem pow62 : (2 : Int) ^ 62 = 4611686018427387904 := by decide
theorem rng_inv {ds is : List D} (h : rngItems ds = some is) : (∃ n : Int, ds = [.int n] ∧ n ≤ (SZ : Int) ∧ -(2 ^ 62) < n ∧ is = (List.range n.toNat).map fun i : Nat => D.int (i : Int)) ∨
    ∃ a n : Int, ds = [.int a, .int n] ∧ n ≤ (SZ : Int) ∧ -(2 ^ 62) < n ∧ -(2 ^ 62) < a ∧ a ≤ (SZ : Int) ∧ is = (List.range (n - a).toNat).map fun i : Nat => D.int (a + (i : Int)) := by
  unfold rngItems at h
  split at h
  · split at h
    · rename_i n hn
      cases h
      exact .inl ⟨_, rfl, hn.1, hn.2, rfl⟩
    · cases h
  · split at h
    · rename_i a n hn
      cases h
      exact .inr ⟨_, _, rfl, hn.1, hn.2.1, hn.2.2.1, hn.2.2.2, rfl⟩
    · cases h
  · cases h
theorem sRng1 (g : XG S G N cl X B W) {es : CEs} {tg y : Expr} {p pos : Pos} (hg : isGlob B "range" = true) (hf : isFree G "range" = true) (hs : noStar y = true) (hc : chkEs G N B es [y] = true) (ha : PA X [y] (tA S W (evEs S.P cl es))) :
    PI X tg (.Call (.Name "range" p) [y] [] pos) (tI S W (evI S.P cl (.rng es))) := by
  obtain ⟨g1, g2, g3⟩ := g.glob hg
  refine ⟨fun pins s σ H R I ⟨ι, δ, M, sl, rm, h⟩ => (pi_range1 g1 (g.free hf) ha (star_cons hs)).run pins s σ H R I ?_⟩
  rw [evI] at h
  refine tA_of sl rm (rd_eq (rd_bind h)) fun ds ι1 M1 H1 st1 sl1 ⟨e0, k1⟩ vs rvs => ?_
  have hl := evEs_len hc e0
  cases e : rngItems ds with
  | none => rw [e] at k1; exact False.elim k1
  | some is =>
    rw [e] at k1
    rcases rng_inv e with ⟨n, rfl, h1, h2, rfl⟩ | ⟨a, n, rfl, _⟩
    · obtain ⟨x, rfl, rx⟩ := rvs1 rvs
      cases rx
      have p62 := pow62
      have hz : (SZ : Int) = 16777216 := rfl
      refine ⟨n, rfl, by omega, by omega, ?_⟩
      have y := yldR (S := S) (ι0 := ι1) (H0 := H1) (lo := 0) (n := n.toNat)
      simp only [Int.zero_add] at y
      exact rd_ok st1.rm k1 _ y
    · cases hl
theorem sRng2 (g : XG S G N cl X B W) {es : CEs} {tg y z : Expr} {p pos : Pos} (hg : isGlob B "range" = true) (hf : isFree G "range" = true) (hs : noStar y = true) (hs2 : noStar z = true) (hc : chkEs G N B es [y, z] = true) (ha : PA X [y, z] (tA S W (evEs S.P cl es))) :
    PI X tg (.Call (.Name "range" p) [y, z] [] pos) (tI S W (evI S.P cl (.rng es))) := by
  obtain ⟨g1, g2, g3⟩ := g.glob hg
  refine ⟨fun pins s σ H R I ⟨ι, δ, M, sl, rm, h⟩ => (pi_range2 g1 (g.free hf) ha (by rw [star_cons hs, star_cons hs2]; rfl) (star_cons hs2)).run pins s σ H R I ?_⟩
  rw [evI] at h
  refine tA_of sl rm (rd_eq (rd_bind h)) fun ds ι1 M1 H1 st1 sl1 ⟨e0, k1⟩ vs rvs => ?_
  have hl := evEs_len hc e0
  cases e : rngItems ds with
  | none => rw [e] at k1; exact False.elim k1
  | some is =>
    rw [e] at k1
    rcases rng_inv e with ⟨n, rfl, h1, h2, rfl⟩ | ⟨a, n, rfl, h1, h2, h3, h4, rfl⟩
    · cases hl
    · obtain ⟨x, x2, rfl, rx, rx2⟩ := rvs2 rvs
      cases rx
      cases rx2
      have p62 := pow62
      have hz : (SZ : Int) = 16777216 := rfl
      exact ⟨a, n, rfl, ⟨by omega, by omega, by omega, by omega⟩, rd_ok st1.rm k1 _ yldR⟩
theorem enumF_get : ∀ {ds : List D} {k i : Nat} {d : D}, (enumF k ds)[i]? = some d → ∃ e, ds[i]? = some e ∧ d = .tup [.int ((k + i : Nat) : Int), e]
  | [], k, i, d, h => by simp [enumF] at h
  | x :: xs, k, 0, d, h => by
    simp only [enumF, List.getElem?_cons_zero, Option.some.injEq] at h
    exact ⟨x, rfl, h.symm⟩
  | x :: xs, k, i + 1, d, h => by
    simp only [enumF, List.getElem?_cons_succ] at h
    obtain ⟨e, h1, h2⟩ := enumF_get h
    refine ⟨e, by simpa using h1, ?_⟩
    rw [h2]
    congr 4
    omega
theorem enumF_len : ∀ (ds : List D) (k : Nat), (enumF k ds).length = ds.length
  | [], _ => rfl
  | x :: xs, k => by simp [enumF, enumF_len xs]
theorem yldE {K : PySem.W.Frag} {ι0 : List Addr} {H0 : Hp} {n : Nat} {a : Addr} {ds : List D} (ha : ι0[n]? = some a) : Yld S (Ite K a) (some (n, ds)) (enumF 0 ds) ι0 H0 where
  turn := fun ι M H i d R x g e => by
    obtain ⟨vs, h1, r1⟩ := guard_at R x ha g
    obtain ⟨e0, e1, rfl⟩ := enumF_get e
    obtain ⟨v, e2, rv⟩ := r1.get e1
    refine ⟨⟨vs, v, .of h1, e2⟩, fun y H' ⟨T, w, ev, hT, eH, q⟩ => ?_⟩
    subst ev eH
    have := q vs (.of h1)
    rw [e2] at this
    cases this
    have st := Step.tup (o := .tup [V.int ((i : Nat) : Int), v]) R hT
    exact ⟨st, T, _, rfl, .of upd_same, .cons (by rw [Nat.zero_add]; rfl) (.one (rv.ext st.ext))⟩
  stop := fun ι M H R x g => by
    obtain ⟨vs, h1, r1⟩ := guard_at R x ha g
    exact ⟨vs, .of h1, by rw [r1.length, enumF_len]; exact Nat.le_refl _⟩
theorem yldEF {ι0 : List Addr} {H0 : Hp} {a : Addr} {ns : List Int} (t : Fro X.K H0 a ns) : Yld S (Ite X.K a) none (enumF 0 (ns.map .int)) ι0 H0 where
  turn := fun ι M H i d R x g e => by
    have t' := (x.mono.fro t).seq
    obtain ⟨e0, e1, rfl⟩ := enumF_get e
    obtain ⟨v, e2, rv⟩ := (RVs.ints (S := S) (ι := ι) (H := H) ns).get e1
    refine ⟨⟨_, v, t', e2⟩, fun y H' ⟨T, w, ev, hT, eH, q⟩ => ?_⟩
    subst ev eH
    have := q _ t'
    rw [e2] at this
    cases this
    have st := Step.tup (o := .tup [V.int ((i : Nat) : Int), v]) R hT
    exact ⟨st, T, _, rfl, .of upd_same, .cons (by rw [Nat.zero_add]; rfl) (.one (rv.ext st.ext))⟩
  stop := fun ι M H R x g => ⟨_, (x.mono.fro t).seq, by simp [enumF_len]⟩
theorem sEnum (g : XG S G N cl X B W) {e : CE} {y : Expr} {elts : List Expr} {kk : Nat} {tpos p pos : Pos} (hg : isGlob B "enumerate" = true) (hf : isFree G "enumerate" = true) (hs : noStar y = true) (he : PE X y (tE S W (evE S.P cl e))) :
    PI X (.Tuple elts kk tpos) (.Call (.Name "enumerate" p) [y] [] pos) (tI S W (evI S.P cl (.enum e))) := by
  obtain ⟨g1, g2, g3⟩ := g.glob hg
  refine ⟨fun pins s σ H R I ⟨ι, δ, M, sl, rm, h⟩ => (pi_enum g1 (g.free hf) (pa_cons he pa_nil (star_cons hs)) (star_cons hs)).run pins s σ H R I ?_⟩
  rw [evI] at h
  refine tE_of sl rm (rd_bind h) fun d ι1 M1 H1 st1 sl1 k1 v rv => ?_
  cases d with
  | ref n =>
    simp only at k1
    cases e2 : seqOf M1 n with
    | none => rw [e2] at k1; exact False.elim k1
    | some ds =>
      rw [e2] at k1
      obtain ⟨_, a, vs, i1, hl, r1⟩ := seqOf_at st1.rm e2
      exact ⟨a, vs, by rw [ref_at rv i1], .of hl, rd_ok st1.rm k1 _ (yldE i1)⟩
  | fro ns =>
    obtain ⟨a, rfl, t⟩ := rv
    rw [g.K] at t
    exact ⟨a, _, rfl, t.seq, rd_ok st1.rm k1 _ (yldEF t)⟩
  | _ => exact False.elim k1

/-! ### targets -/
/-- the block's own names alone were stored -/
def OwnW (own : Option (List Nat)) (σ σ' : St) : Prop := match own with
  | none => True
  | some l => L2.wipe σ' l = L2.wipe σ l
theorem OwnW.refl (own : Option (List Nat)) (σ : St) : OwnW own σ σ := by cases own <;> first | trivial | rfl
theorem OwnW.trans {own : Option (List Nat)} {a b c : St} (h : OwnW own a b) (k : OwnW own b c) : OwnW own a c := by
  cases own with
  | none => trivial
  | some l => exact Eq.trans k h
theorem wipe_ext {a b : St} {l : List Nat} (hl : a.length = b.length) (h : ∀ i, i ∉ l → a[i]? = b[i]?) : L2.wipe a l = L2.wipe b l := by
  apply List.ext_getElem?
  intro i
  have out : ∀ (σ : St) (l : List Nat), i ∈ l → (L2.wipe σ l)[i]? = if i < σ.length then some none else none := fun σ l => by
    induction l with
    | nil => intro h; cases h
    | cons v vs ih =>
      intro hm
      unfold L2.wipe
      by_cases e : v = i
      · subst e
        by_cases hv : v < σ.length
        · rw [List.getElem?_set_self (by rw [L2.wipe_length]; exact hv), if_pos hv]
        · rw [if_neg hv, List.getElem?_eq_none (by rw [List.length_set, L2.wipe_length]; omega)]
      · rw [List.getElem?_set_ne e]
        exact ih ((List.mem_cons.mp hm).elim (fun z => absurd z.symm e) id)
  by_cases hm : i ∈ l
  · rw [out a l hm, out b l hm, hl]
  · rw [wipe_not hm, wipe_not hm]
    exact h i hm
/-- a target's reading: nothing raises there -/
def gD (S : Sta) (own : Option (List Nat)) (r : D → Sg → Mem → Rs Sg) : TG := fun v σ H Q => ∃ ι δ M d δ' M', SL S ι H δ σ ∧ RM S ι M H ∧ RV S ι H d v ∧ r d δ M = .ok δ' M' ∧ ∀ ι' σ' H', Step S ι M H ι' M' H' → SL S ι' H' δ' σ' → OwnW own σ σ' → Q σ' H'
def gDs (S : Sta) (own : Option (List Nat)) (r : List D → Sg → Mem → Rs Sg) : TGs := fun vs σ H Q => ∃ ι δ M ds δ' M', SL S ι H δ σ ∧ RM S ι M H ∧ RVs S ι H ds vs ∧ r ds δ M = .ok δ' M' ∧ ∀ ι' σ' H', Step S ι M H ι' M' H' → SL S ι' H' δ' σ' → OwnW own σ σ' → Q σ' H'
theorem impG {e : Expr} {t t' : TG} (h : PG X e t) (q : ∀ v σ H Q, t' v σ H Q → t v σ H Q) : PG X e t' := ⟨fun pins s σ H v u Q I r hw => h.run pins s σ H v u Q I r (q _ _ _ _ hw)⟩
theorem impGs {e : List Expr} {t t' : TGs} (h : PGs X e t) (q : ∀ v σ H Q, t' v σ H Q → t v σ H Q) : PGs X e t' := ⟨fun pins s σ H v u Q I r hw => h.run pins s σ H v u Q I r (q _ _ _ _ hw)⟩
theorem gNm (g : XG S G N cl X B W) {own : Option (List Nat)} {i : Nat} {x : Str} {pos : Pos} (h1 : N[i]? = some x) (h2 : isLoc B x = true) (ho : ∀ l, own = some l → i ∈ l) : PG X (.Name x pos) (gD S own (asG S.P cl (.nm i))) := by
  obtain ⟨v1, v2⟩ := g.loc h2
  refine impG (pg_name g.nd (by rw [g.N]; exact h1) v1 v2) fun v σ H Q ⟨ι, δ, M, d, δ', M', sl, rm, rv, e, q⟩ => ?_
  rw [asG] at e
  cases e
  refine q ι _ H (.refl rm) (sl.set rv) ?_
  cases own with
  | none => trivial
  | some l => exact wipe_ext (by simp) fun j hj => by rw [List.getElem?_set_ne (fun z => hj (by rw [← z]; exact ho l rfl))]
theorem ok_of {α : Type} {x : Rs α} {a : α} {M : Mem} (e : x = .ok a M) (S : Sta) (ι : List Addr) (M0 : Mem) (σ : St) (H : Hp) : rd S (fun _ _ _ _ => False) ι M0 σ H x fun b ι' M' H' => Step S ι M0 H ι' M' H' ∧ b = a ∧ M' = M := by
  rw [e]
  exact fun ι' H' st => ⟨st, rfl, rfl⟩
theorem bind_ok {α β : Type} {x : Rs α} {f : α → Mem → Rs β} {b : β} {M : Mem} (h : x.bind f = .ok b M) : ∃ a M1, x = .ok a M1 ∧ f a M1 = .ok b M := by
  cases x with
  | ok a M1 => exact ⟨a, M1, rfl, h⟩
  | exc c k M1 => cases h
  | bad => cases h
theorem tE_ok {r : Sg → Mem → Rs D} {ι : List Addr} {δ : Sg} {M M1 : Mem} {σ : St} {H : Hp} {d : D} {Q : VK} (sl : SL S ι H δ σ) (rm : RM S ι M H) (e : r δ M = .ok d M1) (q : ∀ ι1 H1 v, Step S ι M H ι1 M1 H1 → SL S ι1 H1 δ σ → RV S ι1 H1 d v → Q v H1) : tE S W r σ H Q :=
  ⟨ι, δ, M, sl, rm, by rw [e]; exact fun ι1 H1 st v rv => q ι1 H1 v st (sl.ext st.ext) rv⟩
theorem gSub' (g : XG S G N cl X B W) {own : Option (List Nat)} {a i : CE} {x y : Expr} {pos : Pos} (hs : noSlice y = true) (ha : PE X x (tE S W (evE S.P cl a))) (hi : PE X y (tE S W (evE S.P cl i))) : PG X (.Subscript x y pos) (gD S own (asG S.P cl (.sub a i))) := by
  refine impG (pg_sub ha hi (setOk (S := S) (by have := g.un; omega)) (by intro v; cases y <;> first | rfl | cases hs)) fun v σ H Q ⟨ι, δ, M, d, δ', M', sl, rm, rv, e, q⟩ => ?_
  rw [asG] at e
  obtain ⟨o, M1, e1, e⟩ := bind_ok e
  obtain ⟨k, M2, e2, e⟩ := bind_ok e
  obtain ⟨u, M3, e3, e⟩ := bind_ok e
  cases e
  refine tE_ok sl rm e1 fun ι1 H1 v1 st1 sl1 r1 => ?_
  refine tE_ok sl1 st1.rm e2 fun ι2 H2 v2 st2 sl2 r2 => ?_
  exact ⟨ι2, M2, o, k, d, _, st2.rm, r1.ext st2.ext, r2, rv.ext (st1.trans st2).ext, e3, fun ι3 H3 st3 => q ι3 σ H3 ((st1.trans st2).trans st3) (sl2.ext st3.ext) (.refl _ _)⟩
theorem gFld (g : XG S G N cl X B W) {own : Option (List Nat)} {a : CE} {f : Nat} {x : Expr} {y : Str} {pos : Pos} (hf : G.fld[f]? = some y) (hb : okBase x = true) (ha : PE X x (tE S W (evE S.P cl a))) : PG X (.Attribute x y pos) (gD S own (asG S.P cl (.fld a f))) := by
  refine ⟨fun pins s σ H v u Q I r ⟨ι, δ, M, d, δ', M', sl, rm, rv, e, q⟩ => ?_⟩
  rw [asG] at e
  obtain ⟨o, M1, e1, e⟩ := bind_ok e
  obtain ⟨w, M2, e2, e⟩ := bind_ok e
  cases e
  have hO := ha.run pins s σ H (fun ov H1 => ∃ p C dx fs, ov = .ref p ∧ H1 p = some (.ins C dx fs) ∧ L2.Cls X.K C ∧ NoAttr X.K C y ∧ fs.length < 1000 ∧ Q σ (upd H1 p (.ins C dx (L2.putF y v fs)))) I (tE_ok sl rm e1 fun ι1 H1 v1 st1 sl1 r1 => ?_)
  · show wpAny _ _ (do
      let ov ← holding [u] (eval x X.env)
      standAt pos.atName
      holding [u, ov] (setAttr ov y u)
      release [u, ov] []) _ _ s
    refine wpAny_bind (wpAny_holding (thn hO fun ov s1 ⟨v1, H1, I1, r1, p, C, dx, fs, ev, e3, hC, hN, hl, q3⟩ => ?_))
    subst ev
    obtain rfl : ov = Value.ref p := r1
    refine wpAny_bind (wpAny_standAt (wpAny_bind (wpAny_holding (setattr_ok I1 e3 hC hN hl r fun s2 I2 => ?_))))
    exact wpAny_release ⟨σ, _, I2, q3⟩
  · cases o with
    | ref n =>
      unfold setFD at e2
      simp only at e2
      cases em : M1[n]? with
      | none => rw [em] at e2; cases e2
      | some ob =>
        rw [em] at e2
        cases ob with
        | ins c fs =>
          simp only at e2
          split at e2
          · rename_i hl
            cases e2
            obtain ⟨p, hp, dx, l, e3, rf, C, hC⟩ := st1.rm.at em
            have rv1 := rv.ext st1.ext
            have st2 := Step.write (o := .ins (S.cA c) dx (L2.putF y v l)) (m := .ins c (PD.putF f d fs)) st1.rm hp fun x e => ⟨dx, _, e, RF.put (g.mod.fname f y hf) (rv1.ext x) (rf.ext x), C, hC⟩
            exact ⟨p, _, dx, l, ref_at r1 hp, e3, g.mod.cla c C hC, g.mod.nat c C f y hC hf, by rw [rf.length]; omega, q ι1 σ _ (st1.trans st2) (sl1.ext st2.ext) (.refl _ _)⟩
          · cases e2
        | _ => cases e2
    | _ => cases e2
theorem asg_cons {e : Expr} {es : List Expr} {env : Env} (h : noStar e = true) : (assignEach (e :: es) env).map (·.2) = assign e env :: (assignEach es env).map (·.2) := by
  cases e <;> first | rfl | cases h
theorem asg_len {env : Env} : ∀ {es : List Expr}, noStars es = true → (assignEach es env).length = es.length ∧ (assignEach es env).findIdx? (·.1) = none
  | [], _ => ⟨rfl, rfl⟩
  | e :: es, h => by
    obtain ⟨h1, h2⟩ := noStars_cons h
    obtain ⟨i1, i2⟩ := asg_len (env := env) h2
    have e0 : assignEach (e :: es) env = (false, assign e env) :: assignEach es env := by cases e <;> first | rfl | cases h1
    rw [e0]
    refine ⟨by rw [List.length_cons, List.length_cons, i1], ?_⟩
    rw [List.findIdx?_cons]
    simp [i2]
theorem gNil' {own : Option (List Nat)} : PGs X [] (gDs S own (asGs S.P cl .nil)) := by
  refine impGs pgs_nil fun vs σ H Q ⟨ι, δ, M, ds, δ', M', sl, rm, rv, e, q⟩ => ?_
  simp only [asGs] at e
  split at e
  · rename_i hd
    cases e
    subst hd
    exact ⟨rv, q ι σ H (.refl rm) sl (.refl _ _)⟩
  · cases e
theorem gCons' {own : Option (List Nat)} {c : CG} {cs : CGs} {e : Expr} {es : List Expr} (hs : noStar e = true) (h1 : PG X e (gD S own (asG S.P cl c))) (h2 : PGs X es (gDs S own (asGs S.P cl cs))) : PGs X (e :: es) (gDs S own (asGs S.P cl (.cons c cs))) := by
  refine impGs (pgs_cons h1 h2 (asg_cons hs)) fun vs σ H Q ⟨ι, δ, M, ds, δ', M', sl, rm, rv, e, q⟩ => ?_
  simp only [asGs] at e
  cases ds with
  | nil => cases e
  | cons d ds =>
    obtain ⟨v, r, rfl, r1, r2⟩ := rv
    obtain ⟨δ1, M1, e1, e2⟩ := bind_ok e
    refine ⟨v, r, rfl, ι, δ, M, d, δ1, M1, sl, rm, r1, e1, fun ι1 σ1 H1 st1 sl1 o1 => ?_⟩
    exact ⟨ι1, δ1, M1, ds, δ', M', sl1, st1.rm, r2.ext st1.ext, e2, fun ι2 σ2 H2 st2 sl2 o2 => q ι2 σ2 H2 (st1.trans st2) sl2 (o1.trans o2)⟩
theorem asGs_len {P : Prg} : ∀ {cs : CGs} {es : List Expr} {own : Option (List Nat)} {ds : List D} {δ δ' : Sg} {M M' : Mem}, chkGs G N B own cs es = true → asGs P cl cs ds δ M = .ok δ' M' → ds.length = es.length
  | .nil, es, own, ds, δ, δ', M, M', hc, e => by
    simp only [chkGs] at hc
    simp only [asGs] at e
    split at e
    · rename_i hd
      rw [hd]
      cases es with
      | nil => rfl
      | cons _ _ => cases hc
    · cases e
  | .cons c cs, es, own, ds, δ, δ', M, M', hc, e => by
    simp only [chkGs] at hc
    simp only [asGs] at e
    cases es with
    | nil => cases hc
    | cons x xs =>
      simp only [Bool.and_eq_true] at hc
      cases ds with
      | nil => cases e
      | cons d ds =>
        obtain ⟨δ1, M1, e1, e2⟩ := bind_ok e
        rw [List.length_cons, List.length_cons, asGs_len hc.2 e2]
theorem gTup' (g : XG S G N cl X B W) {own : Option (List Nat)} {cs : CGs} {es : List Expr} {k : Nat} {pos : Pos} (hs : noStars es = true) (hc : chkGs G N B own cs es = true) (h : PGs X es (gDs S own (asGs S.P cl cs))) : PG X (.Tuple es k pos) (gD S own (asG S.P cl (.tup cs))) := by
  obtain ⟨a1, a2⟩ := asg_len (env := X.env) hs
  refine impG (pg_tup g.calm h a1 a2) fun v σ H Q ⟨ι, δ, M, d, δ', M', sl, rm, rv, e, q⟩ => ?_
  simp only [asG] at e
  cases d with
  | tup ds =>
    obtain ⟨a, vs, rfl, t, r⟩ := rv
    rw [g.K] at t
    exact ⟨a, vs, rfl, t, by rw [r.length]; exact asGs_len hc e, ι, δ, M, ds, δ', M', sl, rm, r, e, q⟩
  | _ => cases e
/-! ### comprehensions -/
/-- a clause's tests -/
def tCd (S : Sta) (r : Sg → Mem → Rs Bool) : TT := fun σ H Q => ∃ ι δ M b M', SL S ι H δ σ ∧ RM S ι M H ∧ r δ M = .ok b M' ∧ ∀ ι' H', Step S ι M H ι' M' H' → Q b H'
theorem cNo : PTs X [] (tCd S fun δ M => evC S.P cl .no δ M) :=
  ⟨fun pins s σ H Q I ⟨ι, δ, M, b, M', sl, rm, e, q⟩ => pts_nil.run pins s σ H Q I (by
    have e : evC S.P cl .no δ M = .ok b M' := e
    rw [evC] at e
    cases e
    exact q ι H (.refl rm))⟩
theorem cSo {c : CE} {x : Expr} (h : PT X x (tT S W (evE S.P cl c))) : PTs X [x] (tCd S fun δ M => evC S.P cl (.so c) δ M) :=
  ⟨fun pins s σ H Q I ⟨ι, δ, M, b, M', sl, rm, e, q⟩ => (pts_one h).run pins s σ H Q I (by
    have e : evC S.P cl (.so c) δ M = .ok b M' := e
    rw [evC] at e
    obtain ⟨d, M1, e1, e2⟩ := bind_ok e
    refine ⟨ι, δ, M, sl, rm, ?_⟩
    rw [e1]
    intro ι1 H1 st
    cases d with
    | bl k =>
      cases e2
      exact ⟨b, rfl, q ι1 H1 st⟩
    | _ => cases e2)⟩
theorem bindN_ok {α β : Type} {x : Rs α} {f : α → Mem → Rs β} {b : β} {M : Mem} (h : x.bindN f = .ok b M) : ∃ a M1, x = .ok a M1 ∧ f a M1 = .ok b M := by
  cases x with
  | ok a M1 => exact ⟨a, M1, rfl, h⟩
  | exc c k M1 => cases h
  | bad => cases h
theorem compL_nox {tg : D → Sg → Mem → Rs Sg} {tt : Sg → Mem → Rs Bool} {te : Sg → Mem → Rs D} {gd : Option (Nat × List D)} {δ : Sg} {n : Nat} : ∀ (xs : List D) (M : Mem), NoX (compL tg tt te gd δ n xs M)
  | [], M => by
    intro c k M' h
    unfold compL at h
    split at h <;> cases h
  | x :: xs, M => by
    intro c k M' h
    unfold compL at h
    split at h
    · cases e1 : tg x δ M with
      | ok σ1 M1 =>
        rw [e1] at h
        cases e2 : tt σ1 M1 with
        | ok b M2 =>
          have h' : (tt σ1 M1).bindN _ = _ := h
          rw [e2] at h'
          have h2 : (if b = true then (te σ1 M2).bindN _ else _) = _ := h'
          split at h2
          · cases e3 : te σ1 M2 with
            | ok d M3 =>
              rw [e3] at h2
              have h3 : (match M3[n]? with
                | some (.lst acc) => if acc.length < SZ then compL tg tt te gd δ n xs (M3.set n (.lst (acc ++ [d]))) else .bad
                | _ => .bad) = Rs.exc c k M' := h2
              split at h3
              · split at h3
                · exact compL_nox xs _ _ _ _ h3
                · cases h3
              · cases h3
            | exc c k M3 => rw [e3] at h2; cases h2
            | bad => rw [e3] at h2; cases h2
          · exact compL_nox xs _ _ _ _ h2
        | exc c k M2 =>
          have h' : (tt σ1 M1).bindN _ = _ := h
          rw [e2] at h'
          cases h'
        | bad =>
          have h' : (tt σ1 M1).bindN _ = _ := h
          rw [e2] at h'
          cases h'
      | exc c k M1 => rw [e1] at h; cases h
      | bad => rw [e1] at h; cases h
    · cases h
theorem sComp (g : XG S G N cl X B W) {e : CE} {gt : CG} {src : CI} {cond : CO} {own : List Nat} {elt tg iter : Expr} {ifs : List Expr} {scope : Scope} {pos : Pos} {ow : List (Str × Nat)} (how : ow.map (·.2) = own)
    (hi : PI X tg iter (tI S W (evI S.P cl src))) (ok : BlkOk X.N X.env.scope scope ow) (hset : noSet iter = true)
    (hg : ∀ (s : Shared) (H : Hp) (C : Addr) (cL : List (Str × Addr)) (fp : List Addr), PG (X.blk s H scope (compEnvC scope cL C X.env) fp) tg (gD S (some own) (asG S.P cl gt)))
    (ht : ∀ (s : Shared) (H : Hp) (C : Addr) (cL : List (Str × Addr)) (fp : List Addr), PTs (X.blk s H scope (compEnvC scope cL C X.env) fp) ifs (tCd S fun δ M => evC S.P cl cond δ M))
    (he : ∀ (s : Shared) (H : Hp) (C : Addr) (cL : List (Str × Addr)) (fp : List Addr), PE (X.blk s H scope (compEnvC scope cL C X.env) fp) elt (tE S (fun _ _ _ _ => False) (evE S.P cl e))) :
    (∀ σ H (Q : VK), tE S W (evE S.P cl (.comp e gt src cond own)) σ H Q → tLc (tI S W (evI S.P cl src)) (gD S (some own) (asG S.P cl gt)) (tCd S fun δ M => evC S.P cl cond δ M) (tE S (fun _ _ _ _ => False) (evE S.P cl e)) (ow.map (·.2)) σ H Q) ∧
    PE X (.ListComp elt [⟨tg, iter, ifs, 0⟩] scope pos) (tE S W (evE S.P cl (.comp e gt src cond own))) := by
  have key : ∀ σ H (Q : VK), tE S W (evE S.P cl (.comp e gt src cond own)) σ H Q → tLc (tI S W (evI S.P cl src)) (gD S (some own) (asG S.P cl gt)) (tCd S fun δ M => evC S.P cl cond δ M) (tE S (fun _ _ _ _ => False) (evE S.P cl e)) (ow.map (·.2)) σ H Q := by
    intro σ H Q ⟨ι, δ, M, sl, rm, h⟩
    rw [evE] at h
    refine ⟨ι, δ, M, sl, rm, rd_mono (rd_bind h) fun it ι1 M1 H1 st1 k1 J yl D hD => ?_⟩
    rw [how]
    obtain ⟨u, M2, e2, k2⟩ := rd_nox (compL_nox _ _) (rd_bind k1)
    have stp := Step.push (o := .lst []) (m := .lst []) st1.rm hD fun x e => ⟨[], e, rfl⟩
    have slw := (sl.ext (st1.trans stp).ext).wipe own
    refine ⟨fun i m H' => m = it.1.length - i ∧ i ≤ it.1.length ∧ ∃ ι' M', Step S (ι1 ++ [D]) (M1 ++ [.lst []]) (upd H1 D (.lst [])) ι' M' H' ∧
      compL (asG S.P cl gt) (fun σ M => evC S.P cl cond σ M) (evE S.P cl e) it.2 (PD.wipe δ own) M1.length (it.1.drop i) M' = .ok u M2, ⟨it.1.length, by simp, Nat.zero_le _, ι1 ++ [D], _, .refl stp.rm, by rw [List.drop_zero]; exact e2⟩, ?_⟩
    rintro i m H' ⟨rfl, hle, ι', M', st, ec⟩
    have xt : Ext ι1 H1 ι' H' := (stp.trans st).ext
    have hDi : ∀ {ι'' : List Addr} {H'' : Hp}, Ext (ι1 ++ [D]) (upd H1 D (.lst [])) ι'' H'' → ι''[M1.length]? = some D := fun x => x.at (by rw [← st1.rm.len]; simp)
    by_cases hi' : i < it.1.length
    · have ed : it.1.drop i = it.1[i] :: it.1.drop (i + 1) := by rw [List.drop_eq_getElem_cons hi']
      rw [ed] at ec
      unfold compL at ec
      split at ec
      · rename_i hgd
        obtain ⟨go, tn⟩ := yl.turn ι' M' H' i it.1[i] st.rm xt hgd (by simp [hi'])
        refine .inr ⟨go, fun H'' => ∃ ι' M', Step S (ι1 ++ [D]) (M1 ++ [.lst []]) (upd H1 D (.lst [])) ι' M' H'' ∧
          compL (asG S.P cl gt) (fun σ M => evC S.P cl cond σ M) (evE S.P cl e) it.2 (PD.wipe δ own) M1.length (it.1.drop (i + 1)) M' = .ok u M2, fun H'' nx => ⟨_, by omega, rfl, hi', nx⟩, fun x H2 hy => ?_⟩
        obtain ⟨st2, rx⟩ := tn x H2 hy
        obtain ⟨δ3, M3, e3, ec⟩ := bindN_ok ec
        obtain ⟨b, M4, e4, ec⟩ := bindN_ok ec
        refine ⟨ι', PD.wipe δ own, M', it.1[i], δ3, M3, slw.ext (st.trans st2).ext, st2.rm, rx, e3, fun ι3 σ3 H3 st3 sl3 o3 => ⟨?_, ι3, δ3, M3, b, M4, sl3, st3.rm, e4, fun ι4 H4 st4 => ?_⟩⟩
        · exact Eq.trans o3 (wipe_ext (by rw [L2.wipe_length]) fun i hi => wipe_not hi)
        · cases b with
          | false =>
            rw [if_neg Bool.false_ne_true] at ec ⊢
            exact ⟨ι4, M4, (st.trans st2).trans (st3.trans st4), ec⟩
          | true =>
            rw [if_pos rfl] at ec ⊢
            obtain ⟨d, M5, e5, ec⟩ := bindN_ok ec
            refine tE_ok (sl3.ext st4.ext) st4.rm e5 fun ι5 H5 v st5 sl5 rv => ?_
            have st6 := ((st.trans st2).trans (st3.trans st4)).trans st5
            cases em : M5[M1.length]? with
            | none => rw [em] at ec; cases ec
            | some o =>
              rw [em] at ec
              cases o with
              | lst acc =>
                simp only at ec
                split at ec
                · rename_i hl
                  obtain ⟨a, ha, vs, h5, r5⟩ := st6.rm.at em
                  have : ι5[M1.length]? = some D := hDi st6.ext
                  rw [ha] at this
                  cases this
                  refine ⟨vs, h5, by rw [r5.length, ← SZ_eq]; exact hl, ι5, _, st6.trans (Step.write (o := .lst (vs ++ [v])) (m := .lst (acc ++ [d])) st6.rm ha fun x e => ⟨_, e, (r5.ext x).append (.one (rv.ext x))⟩), ec⟩
                · cases ec
              | _ => cases ec
      · cases ec
    · have e1 : i = it.1.length := by omega
      subst e1
      rw [List.drop_length] at ec
      unfold compL at ec
      split at ec
      · rename_i hgd
        cases ec
        refine .inl ⟨yl.stop ι' _ H' st.rm xt hgd, ?_⟩
        have k3 := k2 ι' H' (stp.trans st)
        have st0 := Step.refl st.rm
        exact k3 ι' H' st0 (.ref D) ⟨D, hDi st.ext, rfl⟩
      · cases ec
  exact ⟨key, impE (pe_lc g.calm g.nd hi ok hg ht he (folded_ok hset)) key⟩
end
end PD

set_option Elab.async false
set_option linter.all false
set_option autoImplicit false
set_option maxRecDepth 100000
set_option maxHeartbeats 4000000
/-! PdMain: the induction over expressions. -/
namespace PD
open PySem L2 PyProof.Rows
variable {S : Sta} {G : Glo} {N : List Str} {cl : Cl}
theorem XG.blk {X : Cx} {B : Blk} {W : WX} (g : XG S G N cl X B W) (s : Shared) (H : Hp) (scope : Scope) (C : Addr) (cL : List (Str × Addr)) (fp : List Addr) :
    XG S G N cl (X.blk s H scope (compEnvC scope cL C X.env) fp) ⟨relS scope B.sc, fun x => scope.names.lookup x == some .cell⟩ fun _ _ _ _ => False where
  K := g.K
  calm := g.calm
  nd := g.nd
  N := g.N
  sc := by
    show relS scope X.env.scope = _
    rw [g.sc]
  fn := rfl
  un := g.un
  mod := g.mod
  calls := g.deep s H scope _ fp
  deep := fun s' H' scope' cenv' fp' => g.deep s' H' scope' cenv' fp'
theorem nil_of {B : Blk} {es : CEs} {xs : List Expr} (h : chkEs G N B es xs = true) : xs = [] → es = .nil := fun e => by
  subst e
  cases es with
  | nil => rfl
  | cons a b =>
    simp only [chkEs] at h
    cases h
theorem sAnd1 {X : Cx} {W : WX} {c : CE} {x : Expr} {pos : Pos} (h : Both X S W x (evE S.P cl c)) : PE X (.BoolOp .And [x] pos) (tE S W (evAnd S.P cl (.cons c .nil))) ∧ PW X (.BoolOp .And [x] pos) (tT S W (evAnd S.P cl (.cons c .nil))) := by
  refine ⟨impE (pe_one h.1) fun σ H Q ⟨ι, δ, M, sl, rm, q⟩ => ?_, impW (pw_and1 h.2) fun σ H Q ⟨ι, δ, M, sl, rm, q⟩ => ?_⟩
  · rw [evAnd] at q
    refine tE_of sl rm (rd_bind q) fun d ι1 M1 H1 st1 sl1 k1 v rv => ?_
    cases d with
    | bl b =>
      cases b with
      | true =>
        have k2 : rd S W ι1 M1 σ H1 (evAnd S.P cl .nil δ M1) _ := k1
        rw [evAnd] at k2
        exact rd_ok st1.rm k2 v rv
      | false => exact rd_ok st1.rm k1 v rv
    | _ => exact False.elim k1
  · rw [evAnd] at q
    refine tT_of sl rm (rd_bind q) fun d ι1 M1 H1 st1 sl1 k1 => ?_
    cases d with
    | bl b =>
      cases b with
      | true =>
        have k2 : rd S W ι1 M1 σ H1 (evAnd S.P cl .nil δ M1) _ := k1
        rw [evAnd] at k2
        exact rd_ok st1.rm k2
      | false => exact rd_ok st1.rm k1
    | _ => exact False.elim k1
theorem sAnd2 {X : Cx} {W : WX} {c : CE} {cs : CEs} {x y : Expr} {ys : List Expr} {pos : Pos} (h : Both X S W x (evE S.P cl c)) (hr : PE X (.BoolOp .And (y :: ys) pos) (tE S W (evAnd S.P cl cs)) ∧ PW X (.BoolOp .And (y :: ys) pos) (tT S W (evAnd S.P cl cs))) :
    PE X (.BoolOp .And (x :: y :: ys) pos) (tE S W (evAnd S.P cl (.cons c cs))) ∧ PW X (.BoolOp .And (x :: y :: ys) pos) (tT S W (evAnd S.P cl (.cons c cs))) := by
  refine ⟨impE (pe_and h.1 hr.1) fun σ H Q ⟨ι, δ, M, sl, rm, q⟩ => ?_, impW (pw_and h.2 hr.2) fun σ H Q ⟨ι, δ, M, sl, rm, q⟩ => ?_⟩
  · rw [evAnd] at q
    refine tE_of sl rm (rd_bind q) fun d ι1 M1 H1 st1 sl1 k1 v rv => ?_
    cases d with
    | bl b =>
      cases rv
      cases b with
      | true => exact ⟨true, rfl, by rw [if_pos rfl]; exact ⟨ι1, δ, M1, sl1, st1.rm, k1⟩⟩
      | false => exact ⟨false, rfl, by rw [if_neg Bool.false_ne_true]; exact rd_ok st1.rm k1 _ rfl⟩
    | _ => exact False.elim k1
  · rw [evAnd] at q
    refine tT_of sl rm (rd_bind q) fun d ι1 M1 H1 st1 sl1 k1 => ?_
    cases d with
    | bl b =>
      cases b with
      | true => exact ⟨true, rfl, by rw [if_pos rfl]; exact ⟨ι1, δ, M1, sl1, st1.rm, k1⟩⟩
      | false =>
        obtain ⟨b, e, q2⟩ := rd_ok st1.rm k1
        cases e
        exact ⟨false, rfl, by rw [if_neg Bool.false_ne_true]; exact q2⟩
    | _ => exact False.elim k1
theorem sOr1 {X : Cx} {W : WX} {c : CE} {x : Expr} {pos : Pos} (h : Both X S W x (evE S.P cl c)) : PE X (.BoolOp .Or [x] pos) (tE S W (evOr S.P cl (.cons c .nil))) ∧ PW X (.BoolOp .Or [x] pos) (tT S W (evOr S.P cl (.cons c .nil))) := by
  refine ⟨impE (pe_one h.1) fun σ H Q ⟨ι, δ, M, sl, rm, q⟩ => ?_, impW (pw_or1 h.2) fun σ H Q ⟨ι, δ, M, sl, rm, q⟩ => ?_⟩
  · rw [evOr] at q
    refine tE_of sl rm (rd_bind q) fun d ι1 M1 H1 st1 sl1 k1 v rv => ?_
    cases d with
    | bl b =>
      cases b with
      | false =>
        have k2 : rd S W ι1 M1 σ H1 (evOr S.P cl .nil δ M1) _ := k1
        rw [evOr] at k2
        exact rd_ok st1.rm k2 v rv
      | true => exact rd_ok st1.rm k1 v rv
    | _ => exact False.elim k1
  · rw [evOr] at q
    refine tT_of sl rm (rd_bind q) fun d ι1 M1 H1 st1 sl1 k1 => ?_
    cases d with
    | bl b =>
      cases b with
      | false =>
        have k2 : rd S W ι1 M1 σ H1 (evOr S.P cl .nil δ M1) _ := k1
        rw [evOr] at k2
        exact rd_ok st1.rm k2
      | true => exact rd_ok st1.rm k1
    | _ => exact False.elim k1
theorem sOr2 {X : Cx} {W : WX} {c : CE} {cs : CEs} {x y : Expr} {ys : List Expr} {pos : Pos} (h : Both X S W x (evE S.P cl c)) (hr : PE X (.BoolOp .Or (y :: ys) pos) (tE S W (evOr S.P cl cs)) ∧ PW X (.BoolOp .Or (y :: ys) pos) (tT S W (evOr S.P cl cs))) :
    PE X (.BoolOp .Or (x :: y :: ys) pos) (tE S W (evOr S.P cl (.cons c cs))) ∧ PW X (.BoolOp .Or (x :: y :: ys) pos) (tT S W (evOr S.P cl (.cons c cs))) := by
  refine ⟨impE (pe_or h.1 hr.1) fun σ H Q ⟨ι, δ, M, sl, rm, q⟩ => ?_, impW (pw_or h.2 hr.2) fun σ H Q ⟨ι, δ, M, sl, rm, q⟩ => ?_⟩
  · rw [evOr] at q
    refine tE_of sl rm (rd_bind q) fun d ι1 M1 H1 st1 sl1 k1 v rv => ?_
    cases d with
    | bl b =>
      cases rv
      cases b with
      | false => exact ⟨false, rfl, by rw [if_neg Bool.false_ne_true]; exact ⟨ι1, δ, M1, sl1, st1.rm, k1⟩⟩
      | true => exact ⟨true, rfl, by rw [if_pos rfl]; exact rd_ok st1.rm k1 _ rfl⟩
    | _ => exact False.elim k1
  · rw [evOr] at q
    refine tT_of sl rm (rd_bind q) fun d ι1 M1 H1 st1 sl1 k1 => ?_
    cases d with
    | bl b =>
      cases b with
      | false => exact ⟨false, rfl, by rw [if_neg Bool.false_ne_true]; exact ⟨ι1, δ, M1, sl1, st1.rm, k1⟩⟩
      | true =>
        obtain ⟨b, e, q2⟩ := rd_ok st1.rm k1
        cases e
        exact ⟨true, rfl, by rw [if_pos rfl]; exact q2⟩
    | _ => exact False.elim k1
theorem both_eq {X : Cx} {W : WX} {e : Expr} {r r' : Sg → Mem → Rs D} (h : ∀ δ M, r' δ M = r δ M) (b : Both X S W e r) : Both X S W e r' := by
  have : r' = r := funext fun δ => funext fun M => h δ M
  rw [this]
  exact b
mutual
theorem sndE : ∀ (c : CE) {X : Cx} {B : Blk} {W : WX} (_ : XG S G N cl X B W) {e : Expr}, chkE G N B c e = true → Both X S W e (evE S.P cl c)
  | .var i, X, B, W, g, e, h => by
    rw [chkE.eq_def] at h
    dsimp only at h
    split at h
    · simp only [Bool.and_eq_true, beq_iff_eq] at h
      exact both (sVar g h.1 h.2) rfl
    · cases h
  | .int k, X, B, W, g, e, h => by
    rw [chkE.eq_def] at h
    dsimp only at h
    split at h
    · have h := of_decide_eq_true h
      subst h
      exact both (sCon (d := .int _) pe_int (fun δ M => by rw [evE]) fun _ _ => rfl) rfl
    · cases h
  | .str y, X, B, W, g, e, h => by
    rw [chkE.eq_def] at h
    dsimp only at h
    split at h
    · simp only [Bool.and_eq_true, beq_iff_eq] at h
      obtain ⟨h1, h2⟩ := h
      subst h1
      exact both (sCon (d := .str (codesOf _)) pe_str (fun δ M => by rw [evE]) fun _ _ => ⟨rfl, okT_of h2⟩) rfl
    · cases h
  | .bl b, X, B, W, g, e, h => by
    rw [chkE.eq_def] at h
    dsimp only at h
    split at h
    · simp only [beq_iff_eq] at h
      subst h
      exact both (sCon (d := .bl _) pe_bl (fun δ M => by rw [evE]) fun _ _ => rfl) rfl
    · cases h
  | .non, X, B, W, g, e, h => by
    rw [chkE.eq_def] at h
    dsimp only at h
    split at h
    · exact both (sCon (d := .non) pe_non (fun δ M => by rw [evE]) fun _ _ => rfl) rfl
    · cases h
  | .cst k, X, B, W, g, e, h => by
    rw [chkE.eq_def] at h
    dsimp only at h
    split at h
    · simp only [Bool.and_eq_true] at h
      obtain ⟨g1, g2, g3⟩ := g.glob h.1
      obtain ⟨u, v, d, m1, m2, m3, m4⟩ := g.mod.cst _ _ (tab_mem h.2)
      exact both (sCon (pe_glob g1 m1 m2 g2) (fun δ M => by rw [evE, m3]; rfl) m4) rfl
    · cases h
  | .fnv k, X, B, W, g, e, h => by
    rw [chkE.eq_def] at h
    dsimp only at h
    split at h
    · simp only [Bool.and_eq_true] at h
      obtain ⟨g1, g2, g3⟩ := g.glob h.1
      obtain ⟨m1, m2⟩ := g.mod.fn _ _ (tab_mem h.2)
      exact both (sCon (d := .fn k) (pe_glob g1 m1 (v := .ref (S.fA k)) rfl g2) (fun δ M => by rw [evE]) fun _ _ => rfl) rfl
    · cases h
  | .tup es, X, B, W, g, e, h => by
    rw [chkE.eq_def] at h
    dsimp only at h
    split at h
    · simp only [Bool.and_eq_true, decide_eq_true_eq] at h
      have ha := sndEs es g h.1.1 h.1.2
      refine both (impE (pe_tup ha) fun σ H Q ⟨ι, δ, M, sl, rm, q⟩ => ?_) rfl
      rw [evE] at q
      refine tA_of sl rm (rd_eq (rd_bind q)) fun ds ι1 M1 H1 st1 sl1 ⟨e0, k1⟩ vs rvs => ?_
      have hl := evEs_len h.1.2 e0
      have hz := sizeLine_eq
      exact ⟨by rw [rvs.length, hl]; omega, finT (Q := Q) st1.rm rfl (fun ι' v' H' st rv' => k1 ι' H' st v' rv') rvs⟩
    · cases h
  | .lst es, X, B, W, g, e, h => by
    rw [chkE.eq_def] at h
    dsimp only at h
    split at h
    · simp only [Bool.and_eq_true, decide_eq_true_eq] at h
      have ha := sndEs es g h.1.1 h.1.2
      refine both (impE (pe_lst ha) fun σ H Q ⟨ι, δ, M, sl, rm, q⟩ => ?_) rfl
      rw [evE] at q
      refine tA_of sl rm (rd_eq (rd_bind q)) fun ds ι1 M1 H1 st1 sl1 ⟨e0, k1⟩ vs rvs => ?_
      have hl := evEs_len h.1.2 e0
      have hz := sizeLine_eq
      exact ⟨by rw [rvs.length, hl]; omega, finL (Q := Q) st1.rm rfl (fun ι' v' H' st rv' => k1 ι' H' st v' rv') rvs⟩
    · cases h
  | .bin op a b, X, B, W, g, e, h => by
    rw [chkE.eq_def] at h
    dsimp only at h
    split at h
    · simp only [Bool.and_eq_true] at h
      obtain ⟨⟨⟨h1, h2⟩, h3⟩, h4⟩ := h
      rw [opIs_eq h2]
      exact both (sBin g h1 (sndE a g h3).1 (sndE b g h4).1) rfl
    · cases h
  | .neg a, X, B, W, g, e, h => by
    rw [chkE.eq_def] at h
    dsimp only at h
    split at h
    · exact both (sNeg (sndE a g h).1) rfl
    · cases h
  | .cmp op a b, X, B, W, g, e, h => by
    rw [chkE.eq_def] at h
    dsimp only at h
    split at h
    · simp only [Bool.and_eq_true, Bool.not_eq_true'] at h
      obtain ⟨⟨⟨⟨h1, h2⟩, h3⟩, h4⟩, h5⟩ := h
      rw [copIs_eq h2] at h3 ⊢
      exact sCmp g h1 h3 (sndE a g h4).1 (sndE b g h5).1
    · cases h
  | .isN a, X, B, W, g, e, h => by
    rw [chkE.eq_def] at h
    dsimp only at h
    split at h
    · exact sIsN (sndE a g h).1
    · cases h
  | .notN a, X, B, W, g, e, h => by
    rw [chkE.eq_def] at h
    dsimp only at h
    split at h
    · exact sNotN (sndE a g h).1
    · cases h
  | .chain op op' a b c, X, B, W, g, e, h => by
    rw [chkE.eq_def] at h
    dsimp only at h
    split at h
    · simp only [Bool.and_eq_true, Bool.not_eq_true'] at h
      obtain ⟨⟨⟨⟨⟨⟨⟨h1, h2⟩, h3⟩, h4⟩, h5⟩, h6⟩, h7⟩, h8⟩ := h
      rw [copIs_eq h3, copIs_eq h4] at h5 ⊢
      exact sChain g h1 h2 h5 (sndE a g h6).1 (sndE b g h7).1 (sndE c g h8).1
    · cases h
  | .and es, X, B, W, g, e, h => by
    rw [chkE.eq_def] at h
    dsimp only at h
    split at h
    · rename_i pos
      have q := sndAnd es g (pos := pos) h
      refine ⟨impE q.1 fun σ H Q ⟨ι, δ, M, sl, rm, k⟩ => ⟨ι, δ, M, sl, rm, by rw [evE] at k; exact k⟩, impT q.2.pt fun σ H Q ⟨ι, δ, M, sl, rm, k⟩ => ⟨ι, δ, M, sl, rm, by rw [evE] at k; exact k⟩⟩
    · cases h
  | .or es, X, B, W, g, e, h => by
    rw [chkE.eq_def] at h
    dsimp only at h
    split at h
    · rename_i pos
      have q := sndOr es g (pos := pos) h
      refine ⟨impE q.1 fun σ H Q ⟨ι, δ, M, sl, rm, k⟩ => ⟨ι, δ, M, sl, rm, by rw [evE] at k; exact k⟩, impT q.2.pt fun σ H Q ⟨ι, δ, M, sl, rm, k⟩ => ⟨ι, δ, M, sl, rm, by rw [evE] at k; exact k⟩⟩
    · cases h
  | .not a, X, B, W, g, e, h => by
    rw [chkE.eq_def] at h
    dsimp only at h
    split at h
    · exact sNot (sndE a g h)
    · cases h
  | .ife c a b, X, B, W, g, e, h => by
    rw [chkE.eq_def] at h
    dsimp only at h
    split at h
    · simp only [Bool.and_eq_true] at h
      exact sIf (sndE c g h.1.1).2 (sndE a g h.1.2) (sndE b g h.2)
    · cases h
  | .idx a i, X, B, W, g, e, h => by
    rw [chkE.eq_def] at h
    dsimp only at h
    split at h
    · simp only [Bool.and_eq_true] at h
      exact both (sIdx g h.1.1 (sndE a g h.1.2).1 (sndE i g h.2).1) rfl
    · cases h
  | .slc a lo hi, X, B, W, g, e, h => by
    rw [chkE.eq_def] at h
    dsimp only at h
    split at h
    · simp only [Bool.and_eq_true] at h
      exact both (sSlc g (sndE a g h.1.1).1 (sndO lo g h.1.2) (sndO hi g h.2)) rfl
    · cases h
  | .stp a s, X, B, W, g, e, h => by
    rw [chkE.eq_def] at h
    dsimp only at h
    split at h
    · simp only [Bool.and_eq_true, decide_eq_true_eq] at h
      obtain ⟨⟨h1, h2⟩, h3⟩ := h
      subst h1
      subst h2
      exact both (sRev g (sndE a g h3).1) rfl
    · cases h
  | .fld a f, X, B, W, g, e, h => by
    rw [chkE.eq_def] at h
    dsimp only at h
    split at h
    · simp only [Bool.and_eq_true, beq_iff_eq] at h
      exact both (sFld g h.1.1 h.1.2 (sndE a g h.2).1) rfl
    · cases h
  | .call f es, X, B, W, g, e, h => by
    rw [chkE.eq_def] at h
    dsimp only at h
    split at h
    · simp only [Bool.and_eq_true] at h
      exact both (sCall g h.1.1.1 (tab_mem h.1.1.2) h.1.2 (nil_of h.2) (sndEs es g h.1.2 h.2)) rfl
    · cases h
  | .callV i es, X, B, W, g, e, h => by
    rw [chkE.eq_def] at h
    dsimp only at h
    split at h
    · simp only [Bool.and_eq_true, beq_iff_eq] at h
      exact both (sCallV g h.1.1.1 h.1.1.2 h.1.2 (nil_of h.2) (sndEs es g h.1.2 h.2)) rfl
    · cases h
  | .meth a m es, X, B, W, g, e, h => by
    rw [chkE.eq_def] at h
    dsimp only at h
    split at h
    · simp only [Bool.and_eq_true, decide_eq_true_eq] at h
      obtain ⟨⟨⟨⟨⟨⟨h1, h2⟩, h3⟩, h4⟩, h5⟩, h6⟩, h7⟩ := h
      exact both (sMeth g (beq_iff_eq.mp h1) h2 h3 h4 h5 (nil_of h7) (sndE a g h6).1 (sndEs es g h5 h7)) rfl
    · cases h
  | .new c es, X, B, W, g, e, h => by
    rw [chkE.eq_def] at h
    dsimp only at h
    split at h
    · simp only [Bool.and_eq_true] at h
      exact both (sNew g h.1.1.1 (tab_mem h.1.1.2) h.1.2 (nil_of h.2) (sndEs es g h.1.2 h.2)) rfl
    · cases h
  | .blt b es, X, B, W, g, e, h => by
    rw [chkE.eq_def] at h
    dsimp only at h
    split at h
    · simp only [Bool.and_eq_true, beq_iff_eq] at h
      exact both (sBlt g h.1.1.2 h.1.1.1.1 h.1.1.1.2 h.1.2 (sndEs es g h.1.2 h.2)) rfl
    · cases h
  | .bm m a es, X, B, W, g, e, h => by
    rw [chkE.eq_def] at h
    dsimp only at h
    split at h
    · simp only [Bool.and_eq_true, decide_eq_true_eq] at h
      obtain ⟨⟨⟨⟨⟨⟨h1, h2⟩, h3⟩, h4⟩, h5⟩, h6⟩, h7⟩ := h
      exact both (sBm g (beq_iff_eq.mp h1) h2 h3 h4 h5 (nil_of h7) (sndE a g h6).1 (sndEs es g h5 h7)) rfl
    · cases h
  | .comp el gt src cond own, X, B, W, g, e, h => by
    rw [chkE.eq_def] at h
    dsimp only at h
    split at h
    · simp only [Bool.and_eq_true] at h
      obtain ⟨⟨⟨⟨⟨⟨h1, h2⟩, h3⟩, h4⟩, h5⟩, h6⟩, h7⟩ := h
      have how : (own.map fun i => (N.getD i Str.empty, i)).map (·.2) = own := by
        rw [List.map_map]
        exact List.map_id' own
      exact both (sComp g how (sndI src g h4) (by rw [g.N, g.sc]; exact blkOk_by h2) h3 (fun s H C cL fp => sndG gt (g.blk s H _ C cL fp) h5) (fun s H C cL fp => sndC cond (g.blk s H _ C cL fp) h6) (fun s H C cL fp => (sndE el (g.blk s H _ C cL fp) h7).1)).2 rfl
    · cases h
  | .isTy a t, X, B, W, g, e, h => by
    rw [chkE.eq_def] at h
    dsimp only at h
    split at h
    · simp only [Bool.and_eq_true, beq_iff_eq] at h
      obtain ⟨⟨⟨⟨⟨⟨⟨h1, h2⟩, h3⟩, h4⟩, h5⟩, h6⟩, h7⟩, h8⟩ := h
      subst h1
      subst h4
      exact both (sIsTy g h2 h3 h5 h6 h7 (sndE a g h8).1) rfl
    · cases h
  | .callK _ _ _ _, _, _, _, _, _, h => by cases h
  | .dct _ _ _, _, _, _, _, _, h => by cases h
  | .lrng _, _, _, _, _, _, h => by cases h
  | .litems _, _, _, _, _, _, h => by cases h
  | .lenS _, _, _, _, _, _, h => by cases h
  | .isCls _ _, _, _, _, _, _, h => by cases h
  | .excNum _, _, _, _, _, _, h => by cases h
theorem sndEs : ∀ (c : CEs) {X : Cx} {B : Blk} {W : WX} (_ : XG S G N cl X B W) {xs : List Expr}, noStars xs = true → chkEs G N B c xs = true → PA X xs (tA S W (evEs S.P cl c))
  | .nil, X, B, W, g, xs, hs, h => by
    simp only [chkEs] at h
    cases xs with
    | nil => exact sNil
    | cons _ _ => cases h
  | .cons c cs, X, B, W, g, xs, hs, h => by
    simp only [chkEs] at h
    cases xs with
    | nil => cases h
    | cons x xs =>
      simp only [Bool.and_eq_true] at h
      obtain ⟨n1, n2⟩ := noStars_cons hs
      exact sCons n1 (sndE c g h.1).1 (sndEs cs g n2 h.2)
theorem sndAnd : ∀ (c : CEs) {X : Cx} {B : Blk} {W : WX} (_ : XG S G N cl X B W) {x : Expr} {xs : List Expr} {pos : Pos}, chkEs G N B c (x :: xs) = true → PE X (.BoolOp .And (x :: xs) pos) (tE S W (evAnd S.P cl c)) ∧ PW X (.BoolOp .And (x :: xs) pos) (tT S W (evAnd S.P cl c))
  | .nil, X, B, W, g, x, xs, pos, h => by
    simp only [chkEs] at h
    cases h
  | .cons c cs, X, B, W, g, x, xs, pos, h => by
    simp only [chkEs, Bool.and_eq_true] at h
    cases xs with
    | nil =>
      have e := nil_of h.2 rfl
      subst e
      exact sAnd1 (sndE c g h.1)
    | cons y ys => exact sAnd2 (sndE c g h.1) (sndAnd cs g h.2)
theorem sndOr : ∀ (c : CEs) {X : Cx} {B : Blk} {W : WX} (_ : XG S G N cl X B W) {x : Expr} {xs : List Expr} {pos : Pos}, chkEs G N B c (x :: xs) = true → PE X (.BoolOp .Or (x :: xs) pos) (tE S W (evOr S.P cl c)) ∧ PW X (.BoolOp .Or (x :: xs) pos) (tT S W (evOr S.P cl c))
  | .nil, X, B, W, g, x, xs, pos, h => by
    simp only [chkEs] at h
    cases h
  | .cons c cs, X, B, W, g, x, xs, pos, h => by
    simp only [chkEs, Bool.and_eq_true] at h
    cases xs with
    | nil =>
      have e := nil_of h.2 rfl
      subst e
      exact sOr1 (sndE c g h.1)
    | cons y ys => exact sOr2 (sndE c g h.1) (sndOr cs g h.2)
theorem sndO : ∀ (c : CO) {X : Cx} {B : Blk} {W : WX} (_ : XG S G N cl X B W) {o : Option Expr}, chkO G N B c o = true → PO X o (tO S W (evO S.P cl c))
  | .no, X, B, W, g, o, h => by
    simp only [chkO] at h
    cases o with
    | none => exact sNo
    | some _ => cases h
  | .so c, X, B, W, g, o, h => by
    simp only [chkO] at h
    cases o with
    | none => cases h
    | some x => exact sSo (sndE c g h).1
theorem sndC : ∀ (c : CO) {X : Cx} {B : Blk} {W : WX} (_ : XG S G N cl X B W) {ifs : List Expr}, chkC G N B c ifs = true → PTs X ifs (tCd S fun δ M => evC S.P cl c δ M)
  | .no, X, B, W, g, ifs, h => by
    simp only [chkC] at h
    cases ifs with
    | nil => exact cNo
    | cons _ _ => cases h
  | .so c, X, B, W, g, ifs, h => by
    simp only [chkC] at h
    cases ifs with
    | nil => cases h
    | cons x xs =>
      cases xs with
      | nil => exact cSo (sndE c g h).2
      | cons _ _ => cases h
theorem sndG : ∀ (c : CG) {X : Cx} {B : Blk} {W : WX} (_ : XG S G N cl X B W) {own : Option (List Nat)} {e : Expr}, chkG G N B own c e = true → PG X e (gD S own (asG S.P cl c))
  | .nm i, X, B, W, g, own, e, h => by
    rw [chkG.eq_def] at h
    dsimp only at h
    split at h
    · simp only [Bool.and_eq_true, beq_iff_eq] at h
      exact gNm g h.1.1 h.1.2 fun l e => by
        have := h.2
        rw [e] at this
        simpa using this
    · cases h
  | .tup cs, X, B, W, g, own, e, h => by
    rw [chkG.eq_def] at h
    dsimp only at h
    split at h
    · simp only [Bool.and_eq_true] at h
      exact gTup' g h.1 h.2 (sndGs cs g h.1 h.2)
    · cases h
  | .sub a i, X, B, W, g, own, e, h => by
    rw [chkG.eq_def] at h
    dsimp only at h
    split at h
    · simp only [Bool.and_eq_true] at h
      obtain ⟨⟨h2, h3⟩, h4⟩ := h
      exact gSub' g h2 (sndE a g h3).1 (sndE i g h4).1
    · cases h
  | .fld a f, X, B, W, g, own, e, h => by
    rw [chkG.eq_def] at h
    dsimp only at h
    split at h
    · simp only [Bool.and_eq_true, beq_iff_eq] at h
      obtain ⟨⟨h2, h3⟩, h4⟩ := h
      exact gFld g h2 h3 (sndE a g h4).1
    · cases h
theorem sndGs : ∀ (c : CGs) {X : Cx} {B : Blk} {W : WX} (_ : XG S G N cl X B W) {own : Option (List Nat)} {xs : List Expr}, noStars xs = true → chkGs G N B own c xs = true → PGs X xs (gDs S own (asGs S.P cl c))
  | .nil, X, B, W, g, own, xs, hs, h => by
    simp only [chkGs] at h
    cases xs with
    | nil => exact gNil'
    | cons _ _ => cases h
  | .cons c cs, X, B, W, g, own, xs, hs, h => by
    simp only [chkGs] at h
    cases xs with
    | nil => cases h
    | cons x xs =>
      simp only [Bool.and_eq_true] at h
      obtain ⟨n1, n2⟩ := noStars_cons hs
      exact gCons' n1 (sndG c g h.1) (sndGs cs g n2 h.2)
theorem sndI : ∀ (c : CI) {X : Cx} {B : Blk} {W : WX} (_ : XG S G N cl X B W) {tg e : Expr}, chkI G N B c tg e = true → PI X tg e (tI S W (evI S.P cl c))
  | .seq c, X, B, W, g, tg, e, h => by
    simp only [chkI, Bool.and_eq_true] at h
    exact sSeq g (sndE c g h.2).1
  | .rng es, X, B, W, g, tg, e, h => by
    rw [chkI.eq_def] at h
    dsimp only at h
    split at h
    · simp only [Bool.and_eq_true, beq_iff_eq] at h
      obtain ⟨⟨⟨⟨h1, h2⟩, h3⟩, h4⟩, h5⟩ := h
      subst h1
      exact sRng1 g h2 h3 h4 h5 (sndEs es g (by unfold noStars; simp [h4]) h5)
    · simp only [Bool.and_eq_true, beq_iff_eq] at h
      obtain ⟨⟨⟨⟨⟨h1, h2⟩, h3⟩, h4⟩, h5⟩, h6⟩ := h
      subst h1
      exact sRng2 g h2 h3 h4 h5 h6 (sndEs es g (by unfold noStars; simp [h4, h5]) h6)
    · cases h
  | .enum c, X, B, W, g, tg, e, h => by
    rw [chkI.eq_def] at h
    dsimp only at h
    split at h
    · simp only [Bool.and_eq_true, beq_iff_eq] at h
      obtain ⟨⟨⟨⟨h1, h2⟩, h3⟩, h4⟩, h5⟩ := h
      subst h1
      exact sEnum g h2 h3 h4 (sndE c g h5).1
    · cases h
  | .zip _ _, _, _, _, _, _, _, h => by cases h
  | .items _, _, _, _, _, _, _, h => by cases h
end
end PD

set_option Elab.async false
set_option linter.all false
set_option autoImplicit false
set_option maxRecDepth 100000
set_option maxHeartbeats 1000000
/-! PdGc: objects that nothing names may go. -/
namespace PD
open PySem L2
/-- what the walk gathers -/
theorem reach_inv {M : Mem} {m : Nat} : ∀ (k : Nat) (w acc : List Nat), (∀ n ∈ acc, m ≤ n) → acc.Nodup → (∀ n ∈ reach M m k w acc, m ≤ n) ∧ (reach M m k w acc).Nodup
  | 0, w, acc, h1, h2 => by
    unfold reach
    exact ⟨h1, h2⟩
  | k + 1, [], acc, h1, h2 => by
    unfold reach
    exact ⟨h1, h2⟩
  | k + 1, n :: w, acc, h1, h2 => by
    unfold reach
    split
    · exact reach_inv k w acc h1 h2
    · rename_i h
      simp only [not_or] at h
      refine reach_inv k _ _ (fun j hj => ?_) ?_
      · rcases List.mem_append.mp hj with z | z
        · exact h1 j z
        · rw [List.mem_singleton] at z
          omega
      · rw [List.nodup_append]
        exact ⟨h2, by simp, fun a ha b hb e => by
          rw [List.mem_singleton] at hb
          subst hb e
          exact h.2 ha⟩
/-- numbers told anew; the same addresses -/
def Ren (f : Nat → Nat) (ι ι' : List Addr) (ok : Nat → Prop) : Prop := ∀ n, ok n → ι'[f n]? = ι[n]?
section
variable {S : Sta} {ι ι' : List Addr} {H : Hp} {f : Nat → Nat} {ok : Nat → Prop}
mutual
theorem RV.ren (r : Ren f ι ι' ok) : ∀ {d : D} {v : V}, (∀ n ∈ d.refs, ok n) → RV S ι H d v → RV S ι' H (d.ren f) v
  | .non, _, _, h => h
  | .bl _, _, _, h => h
  | .int _, _, _, h => h
  | .str _, _, _, h => h
  | .fn _, _, _, h => h
  | .exc _ _, _, _, h => h
  | .fro _, _, _, h => h
  | .tup ds, _, k, ⟨a, vs, e, t, q⟩ => ⟨a, vs, e, t, RVs.ren r k q⟩
  | .ref n, _, k, ⟨a, h, e⟩ => ⟨a, by rw [r n (k n (by simp [D.refs]))]; exact h, e⟩
theorem RVs.ren (r : Ren f ι ι' ok) : ∀ {ds : List D} {vs : List V}, (∀ n ∈ D.refss ds, ok n) → RVs S ι H ds vs → RVs S ι' H (D.rens f ds) vs
  | [], _, _, h => h
  | d :: ds, _, k, ⟨v, q, e, h, t⟩ => ⟨v, q, e, RV.ren r (fun n hn => k n (by simp [D.refss, hn])) h, RVs.ren r (fun n hn => k n (by simp [D.refss, hn])) t⟩
end
theorem refss_append : ∀ (a b : List D), D.refss (a ++ b) = D.refss a ++ D.refss b
  | [], b => rfl
  | d :: a, b => by
    show D.refs d ++ D.refss (a ++ b) = D.refs d ++ D.refss a ++ D.refss b
    rw [refss_append a b, List.append_assoc]
theorem RK.ren (r : Ren f ι ι' ok) : ∀ {l : List (D × D)} {q : List (Key × V)}, (∀ n ∈ D.refss (l.map (·.2)), ok n) → RK S ι H l q → RK S ι' H (l.map fun p => (D.ren f p.1, D.ren f p.2)) q
  | [], _, _, h => h
  | (k, d) :: l, _, hk, ⟨kk, v, q, e, h1, h2, h3, h4⟩ => by
    have ek : D.ren f k = k := by cases k <;> first | rfl | cases h1
    refine ⟨kk, v, q, e, ?_, ?_, h3.ren r fun n hn => hk n (by simp [D.refss, hn]), RK.ren r (fun n hn => hk n (by simp only [List.map_cons, D.refss, List.mem_append]; exact .inr hn)) h4⟩
    · show keyK (D.ren f k) = _
      rw [ek]
      exact h1
    · show ∀ x, D.ren f k = .str x → OkT x
      rw [ek]
      exact h2
theorem RF.ren (r : Ren f ι ι' ok) : ∀ {l : List (Nat × D)} {q : List (Str × V)}, (∀ n ∈ D.refss (l.map (·.2)), ok n) → RF S ι H l q → RF S ι' H (l.map fun p => (p.1, D.ren f p.2)) q
  | [], _, _, h => h
  | (k, d) :: l, _, hk, ⟨v, q, e, h3, h4⟩ => ⟨v, q, e, h3.ren r fun n hn => hk n (by simp [D.refss, hn]), RF.ren r (fun n hn => hk n (by simp only [List.map_cons, D.refss, List.mem_append]; exact .inr hn)) h4⟩
theorem RO.ren (r : Ren f ι ι' ok) {o : MO} {a : Addr} (k : ∀ n ∈ o.refs, ok n) (h : RO S ι H o a) : RO S ι' H (o.ren f) a := by
  cases o with
  | lst ds =>
    obtain ⟨vs, e, h⟩ := h
    exact ⟨vs, e, h.ren r k⟩
  | dct t kvs =>
    cases t with
    | true => exact False.elim h
    | false =>
      obtain ⟨kv, e, h⟩ := h
      exact ⟨kv, e, h.ren r fun n hn => k n (by
        show n ∈ D.refss (kvs.map (·.1) ++ kvs.map (·.2))
        rw [refss_append]
        exact List.mem_append_right _ hn)⟩
  | ins c fs =>
    obtain ⟨dx, l, e, h, hc⟩ := h
    exact ⟨dx, l, e, h.ren r k, hc⟩
end
theorem nodup_map {α β : Type} {f : α → β} : ∀ {l : List α}, (∀ x ∈ l, ∀ y ∈ l, f x = f y → x = y) → l.Nodup → (l.map f).Nodup
  | [], _, _ => List.nodup_nil
  | a :: l, h, n => by
    rw [List.nodup_cons] at n
    rw [List.map_cons, List.nodup_cons]
    refine ⟨fun hm => ?_, nodup_map (fun x hx y hy => h x (List.mem_cons_of_mem _ hx) y (List.mem_cons_of_mem _ hy)) n.2⟩
    obtain ⟨y, hy, e⟩ := List.mem_map.mp hm
    have := h a List.mem_cons_self y (List.mem_cons_of_mem _ hy) e.symm
    exact n.1 (by rw [this]; exact hy)
/-- the addresses that stay -/
def pickA (ι : List Addr) (acc : List Nat) : List Addr := acc.map fun n => ι.getD n 0
theorem idx_get {acc : List Nat} {n : Nat} (h : n ∈ acc) : acc[acc.idxOf n]? = some n := by
  have hl : acc.idxOf n < acc.length := List.idxOf_lt_length_iff.mpr h
  rw [List.getElem?_eq_getElem hl]
  exact congrArg some (List.getElem_idxOf hl)
theorem mem_refs {M : Mem} {o : MO} (h : o ∈ M) {n : Nat} (hn : n ∈ o.refs) : n ∈ Mem.refs M := List.mem_flatMap.mpr ⟨o, h, hn⟩
section
variable {S : Sta} {ι ι1 : List Addr} {H H1 : Hp} {M M1 : Mem}
/-- the memory without what goes -/
theorem gc_ok {m : Nat} {roots acc : List Nat} (hm : m ≤ M.length) (h : gc m roots M = some acc) (R : RM S ι M H) :
    Ren (renum m acc) ι (ι.take m ++ pickA ι acc) (fun n => n < m ∨ n ∈ acc) ∧ (∀ n ∈ roots, n < m ∨ n ∈ acc) ∧ RM S (ι.take m ++ pickA ι acc) (gcMem m acc M) H := by
  have hh : (closed m (kept m roots M) roots (M.take m ++ pickM M (kept m roots M)) && (kept m roots M).all (fun n => decide (n < M.length))) = true ∧ kept m roots M = acc := by
    unfold gc at h
    simp only at h
    split at h
    · rename_i hc
      cases h
      exact ⟨hc, rfl⟩
    · cases h
  obtain ⟨hc, rfl⟩ := hh
  generalize hacc : kept m roots M = acc at *
  rw [Bool.and_eq_true] at hc
  obtain ⟨hc1, hc2⟩ := hc
  have hlt : ∀ n ∈ acc, n < M.length := fun n hn => of_decide_eq_true (List.all_eq_true.mp hc2 n hn)
  have inv := reach_inv (M := M) (m := m) 1000 (roots ++ Mem.refs (M.take m)) [] (fun n hn => nomatch hn) List.nodup_nil
  have hacc' : reach M m 1000 (roots ++ Mem.refs (M.take m)) [] = acc := hacc
  rw [hacc'] at inv
  obtain ⟨hge, hnd⟩ := inv
  have cl : ∀ n, n ∈ roots ∨ n ∈ Mem.refs (M.take m ++ pickM M acc) → n < m ∨ n ∈ acc := fun n hn => by
    have := List.all_eq_true.mp hc1 n (List.mem_append.mpr hn)
    simp only [Bool.or_eq_true, decide_eq_true_eq, List.contains_iff_mem] at this
    exact this
  have lι := R.len
  have htk : (ι.take m).length = m := by rw [List.length_take]; omega
  have rn : Ren (renum m acc) ι (ι.take m ++ pickA ι acc) (fun n => n < m ∨ n ∈ acc) := fun n hn => by
    unfold renum
    by_cases hnm : n < m
    · rw [if_pos hnm, List.getElem?_append_left (by rw [htk]; exact hnm), List.getElem?_take_of_lt hnm]
    · rw [if_neg hnm]
      have hm' : n ∈ acc := hn.resolve_left hnm
      rw [List.getElem?_append_right (by rw [htk]; omega), htk, Nat.add_sub_cancel_left]
      unfold pickA
      rw [List.getElem?_map, idx_get hm']
      have hl : n < ι.length := by rw [lι]; exact hlt n hm'
      simp [hl]
  refine ⟨rn, fun n hn => cl n (.inl hn), ?_⟩
  refine ⟨?_, ?_, fun j o a h1 h2 => ?_⟩
  · unfold gcMem pickM pickA
    simp [lι]
  · rw [List.nodup_append]
    refine ⟨R.nd.sublist (List.take_sublist _ _), ?_, fun a ha b hb e => ?_⟩
    · unfold pickA
      refine nodup_map ?_ hnd
      intro x hx y hy e
      have l1 : x < ι.length := by rw [lι]; exact hlt x hx
      have l2 : y < ι.length := by rw [lι]; exact hlt y hy
      simp only [List.getD_eq_getElem?_getD, List.getElem?_eq_getElem l1, List.getElem?_eq_getElem l2, Option.getD_some] at e
      exact (List.getElem_inj R.nd).mp e
    · subst e
      obtain ⟨i, hi, e1⟩ := List.mem_iff_getElem.mp ha
      rw [List.length_take] at hi
      rw [List.getElem_take] at e1
      obtain ⟨n, hn, e2⟩ := List.mem_map.mp hb
      have l2 : n < ι.length := by rw [lι]; exact hlt n hn
      simp only [List.getD_eq_getElem?_getD, List.getElem?_eq_getElem l2, Option.getD_some] at e2
      have := (List.getElem_inj R.nd).mp (e1.trans e2.symm)
      have := hge n hn
      omega
  · unfold gcMem at h1
    rw [List.getElem?_map] at h1
    have hMt : (M.take m).length = m := by rw [List.length_take]; omega
    by_cases hj : j < m
    · rw [List.getElem?_append_left (by rw [hMt]; exact hj), List.getElem?_take_of_lt hj] at h1
      rw [List.getElem?_append_left (by rw [htk]; exact hj), List.getElem?_take_of_lt hj] at h2
      cases e : M[j]? with
      | none => rw [e] at h1; cases h1
      | some o' =>
        rw [e] at h1
        cases h1
        refine (R.obj j o' a e h2).ren rn fun n hn => cl n (.inr (mem_refs (List.mem_append_left _ ?_) hn))
        exact List.mem_of_getElem? (show (M.take m)[j]? = some o' by rw [List.getElem?_take_of_lt hj]; exact e)
    · rw [List.getElem?_append_right (by rw [hMt]; omega), hMt] at h1
      rw [List.getElem?_append_right (by rw [htk]; omega), htk] at h2
      unfold pickM at h1
      unfold pickA at h2
      rw [List.getElem?_map] at h1 h2
      cases e : acc[j - m]? with
      | none => rw [e] at h1; cases h1
      | some n =>
        rw [e] at h1 h2
        have hn := List.mem_of_getElem? e
        have l1 := hlt n hn
        have l2 : n < ι.length := by rw [lι]; exact l1
        simp only [Option.map_some, Option.some.injEq, List.getElem?_eq_getElem l1, List.getD_eq_getElem?_getD, List.getElem?_eq_getElem l2, Option.getD_some] at h1 h2
        subst h1 h2
        refine (R.obj n M[n] ι[n] (by simp [l1]) (by simp [l2])).ren rn fun k hk => cl k (.inr (mem_refs (List.mem_append_right _ ?_) hk))
        unfold pickM
        exact List.mem_map.mpr ⟨n, hn, by simp [l1]⟩
theorem pickA_mem {a : Addr} {acc : List Nat} (h : a ∈ pickA ι acc) (hl : ∀ n ∈ acc, n < ι.length) : a ∈ ι := by
  unfold pickA at h
  obtain ⟨n, hn, rfl⟩ := List.mem_map.mp h
  have l := hl n hn
  simp only [List.getD_eq_getElem?_getD, List.getElem?_eq_getElem l, Option.getD_some]
  exact List.getElem_mem l
theorem gc_lt {m : Nat} {roots acc : List Nat} (h : gc m roots M = some acc) : ∀ n ∈ acc, n < M.length := by
  unfold gc at h
  simp only at h
  split at h
  · rename_i hc
    cases h
    rw [Bool.and_eq_true] at hc
    exact fun n hn => of_decide_eq_true (List.all_eq_true.mp hc.2 n hn)
  · cases h
/-- behind a turn, from the loop's start -/
theorem Step.gc {m : Nat} {roots acc : List Nat} (st : Step S ι1 M1 H1 ι M H) (hm : m = M1.length) (h : PD.gc m roots M = some acc) (R1 : ι1.length = M1.length) : Step S ι1 M1 H1 (ι.take m ++ pickA ι acc) (gcMem m acc M) H := by
  obtain ⟨⟨r, e⟩, mono⟩ := st.ext
  have hle : m ≤ M.length := by
    have := st.rm.len
    rw [e, List.length_append] at this
    omega
  obtain ⟨_, _, rm⟩ := gc_ok hle h st.rm
  refine ⟨⟨⟨pickA ι acc, ?_⟩, mono⟩, rm, st.keep, fun a ha => ?_⟩
  · rw [e]
    congr 1
    rw [List.take_append_of_le_length (by omega), List.take_of_length_le (by omega)]
  · rcases List.mem_append.mp ha with z | z
    · exact st.new a (List.mem_of_mem_take z)
    · exact st.new a (pickA_mem z fun n hn => by rw [st.rm.len]; exact gc_lt h n hn)
theorem SL.ren {δ : Sg} {σ : St} {ι' : List Addr} {f : Nat → Nat} {ok : Nat → Prop} (r : Ren f ι ι' ok) (k : ∀ n ∈ δ.refs, ok n) (h : SL S ι H δ σ) : SL S ι' H (δ.ren f) σ := by
  refine ⟨by unfold Sg.ren; rw [List.length_map]; exact h.1, fun i d e => ?_⟩
  unfold Sg.ren at e
  rw [List.getElem?_map] at e
  cases e1 : δ[i]? with
  | none => rw [e1] at e; cases e
  | some o =>
    rw [e1] at e
    cases o with
    | none => cases e
    | some d0 =>
      cases e
      obtain ⟨v, h1, h2⟩ := h.2 i d0 e1
      refine ⟨v, h1, h2.ren r fun n hn => k n ?_⟩
      unfold Sg.refs
      exact List.mem_flatMap.mpr ⟨some d0, List.mem_of_getElem? e1, hn⟩
theorem gcSt_ok {δ : Sg} {σ : St} (st : Step S ι1 M1 H1 ι M H) (R1 : ι1.length = M1.length) (sl : SL S ι H δ σ) : ∃ ι', Step S ι1 M1 H1 ι' (gcSt M1.length δ M).2 H ∧ SL S ι' H (gcSt M1.length δ M).1 σ := by
  unfold gcSt
  cases h : PD.gc M1.length δ.refs M with
  | none => exact ⟨ι, st, sl⟩
  | some acc =>
    obtain ⟨⟨r, e⟩, mono⟩ := st.ext
    have hle : M1.length ≤ M.length := by
      have := st.rm.len
      rw [e, List.length_append] at this
      omega
    obtain ⟨rn, rt, rm⟩ := gc_ok hle h st.rm
    exact ⟨_, st.gc rfl h R1, sl.ren rn rt⟩
end
end PD

set_option Elab.async false
set_option linter.all false
set_option autoImplicit false
set_option maxRecDepth 100000
set_option maxHeartbeats 4000000
/-! PdStmt: what the evaluator says of statements is what the model does. -/
namespace PD
open PySem L2 PyProof.Rows
/-- the slots out of L are as they were -/
def Kp (L : List Nat) (σ σ' : St) : Prop := ∀ i, i ∉ L → σ'[i]? = σ[i]?
theorem Kp.refl (L : List Nat) (σ : St) : Kp L σ σ := fun _ _ => rfl
theorem Kp.trans {L : List Nat} {a b c : St} (h : Kp L a b) (k : Kp L b c) : Kp L a c := fun i hi => (k i hi).trans (h i hi)
theorem Kp.own {L : List Nat} {σ σ' : St} (h : OwnW (some L) σ σ') : Kp L σ σ' := fun i hi => by
  have e : L2.wipe σ' L = L2.wipe σ L := h
  have := congrArg (fun l : St => l[i]?) e
  simp only [wipe_not hi] at this
  exact this
def rS (S : Sta) (W : WX) (L : List Nat) (ι : List Addr) (M : Mem) (σ : St) (H : Hp) (D : Ends) (x : Rs Fl) : Prop := match x with
  | .ok (.next δ') M' => ∀ ι' σ' H', Step S ι M H ι' M' H' → SL S ι' H' δ' σ' → Kp L σ σ' → D.nx σ' H'
  | .ok (.brk δ') M' => ∀ ι' σ' H', Step S ι M H ι' M' H' → SL S ι' H' δ' σ' → Kp L σ σ' → D.bk σ' H'
  | .ok (.cont δ') M' => ∀ ι' σ' H', Step S ι M H ι' M' H' → SL S ι' H' δ' σ' → Kp L σ σ' → D.ct σ' H'
  | .ok (.ret d) M' => ∀ ι' v H', Step S ι M H ι' M' H' → RV S ι' H' d v → D.rt v H'
  | .exc c k M' => ∀ ι' σ' H' cls d, Step S ι M H ι' M' H' → Kp L σ σ' → S.XR c k cls d H' → W cls d σ' H'
  | .bad => False
def tS (S : Sta) (W : WX) (L : List Nat) (r : Sg → Mem → Rs Fl) : TS := fun D σ H => ∃ ι δ M, SL S ι H δ σ ∧ RM S ι M H ∧ rS S W L ι M σ H D (r δ M)
section
variable {S : Sta} {W : WX} {L : List Nat} {ι ι1 : List Addr} {M M1 : Mem} {σ σ1 : St} {H H1 : Hp} {D : Ends}
/-- from a later state -/
theorem rS.later {x : Rs Fl} (h : rS S W L ι M σ H D x) (st : Step S ι M H ι1 M1 H1) (k : Kp L σ σ1) : rS S W L ι1 M1 σ1 H1 D x := by
  cases x with
  | ok f M' =>
    cases f with
    | next δ' => exact fun ι' σ' H' s sl q => h ι' σ' H' (st.trans s) sl (k.trans q)
    | brk δ' => exact fun ι' σ' H' s sl q => h ι' σ' H' (st.trans s) sl (k.trans q)
    | cont δ' => exact fun ι' σ' H' s sl q => h ι' σ' H' (st.trans s) sl (k.trans q)
    | ret d => exact fun ι' v H' s r => h ι' v H' (st.trans s) r
  | exc c k' M' => exact fun ι' σ' H' cls d s q xr => h ι' σ' H' cls d (st.trans s) (k.trans q) xr
  | bad => exact h
theorem rS_bind {α : Type} {x : Rs α} {f : α → Mem → Rs Fl} (h : rS S W L ι M σ H D (x.bind f)) : rd S W ι M σ H x fun a ι' M' H' => rS S W L ι' M' σ H' D (f a M') := by
  cases x with
  | ok a M' =>
    intro ι' H' st
    have h' : rS S W L ι M σ H D (f a M') := h
    exact h'.later st (.refl _ _)
  | exc c k M' => exact fun ι' H' cls d st xr => h ι' σ H' cls d st (.refl _ _) xr
  | bad => exact h
theorem rS_bind0 {α : Type} {x : Rs α} {f : α → Mem → Rs Fl} (h : rS S W L ι M σ H D (x.bind f)) (st : Step S ι M H ι1 M1 H1) (k : Kp L σ σ1) : rd S W ι1 M1 σ1 H1 x fun a ι' M' H' => Step S ι M H ι' M' H' ∧ rS S W L ι M σ H D (f a M') := by
  cases x with
  | ok a M' => exact fun ι' H' s => ⟨st.trans s, h⟩
  | exc c k' M' => exact fun ι' H' cls d s xr => h ι' σ1 H' cls d (st.trans s) k xr
  | bad => exact h
end
theorem impS {X : Cx} {st : Stmt} {t t' : TS} (h : PS X st t) (q : ∀ D σ H, t' D σ H → t D σ H) : PS X st t' := ⟨fun pins s σ H D I hw => h.run pins s σ H D I (q _ _ _ hw)⟩
theorem impSs {X : Cx} {st : List Stmt} {t t' : TS} (h : PSs X st t) (q : ∀ D σ H, t' D σ H → t D σ H) : PSs X st t' := ⟨fun pins s σ H D I hw => h.run pins s σ H D I (q _ _ _ hw)⟩
section
variable {S : Sta} {G : Glo} {N : List Str} {cl : Cl} {X : Cx} {B : Blk} {W : WX} {L : List Nat}
/-! ### one by one -/
theorem tAsg_of {e : CE} {gt : CG} {te : TE} (hk : ∀ σ H (Q : VK), tE S W (evE S.P cl e) σ H Q → te σ H Q) : ∀ D σ H, tS S W L (evS S.P cl (.asg gt e)) D σ H → tAsg te (gD S (some L) (asG S.P cl gt)) D σ H := fun D σ H ⟨ι, δ, M, sl, rm, h⟩ => by
  rw [evS] at h
  refine hk σ H _ (tE_of sl rm (rS_bind h) fun d ι1 M1 H1 st1 sl1 k1 v rv => ?_)
  cases e1 : asG S.P cl gt d δ M1 with
  | ok δ2 M2 =>
    rw [e1] at k1
    exact ⟨ι1, δ, M1, d, δ2, M2, sl1, st1.rm, rv, e1, fun ι' σ' H' st sl' ow => k1 ι' σ' H' st sl' (.own ow)⟩
  | exc c k M2 => rw [e1] at k1; exact False.elim k1
  | bad => rw [e1] at k1; exact False.elim k1
theorem swap_no {t x : Expr} {l : Nat} {env : Env} (h : noComp x = true) : swapsWith x (some t) l env = pure false := by
  cases x <;> first | rfl | cases h
theorem swap_none {x : Expr} {l : Nat} {env : Env} (h : noComp x = true) : swapsWith x none l env = pure false := by
  cases x <;> first | rfl | cases h
theorem swst_no {t x : Expr} {env : Env} (h : asgForm t x = true) : swappedStores [t] x env = pure none := by
  cases x with
  | Tuple es k p => cases t <;> first | rfl | cases h
  | _ => cases t <;> rfl
theorem each_one {t : Expr} {env : Env} (h : noStar t = true) : (assignEach [t] env).map (·.2) = [assign t env] := by
  cases t <;> first | rfl | cases h
theorem kind_local {sc : Scope} {y : Str} : (sc.names.lookup y == some NameKind.local) = isKind sc y .local := by
  unfold isKind
  cases sc.names.lookup y with
  | none => rfl
  | some k => cases k <;> rfl
theorem straight_iff (g : XG S G N cl X B W) (hk : X.env.scope.kind = .function) {elt : Expr} {gs : List Comprehension} {scope : Scope} {y : Str} {py cpos : Pos} {l : Nat} : swapsWith (.ListComp elt gs scope cpos) (some (.Name y py)) l X.env = pure (straight B y py cpos scope) := by
  have hb : X.env.blockKind = .function := by unfold Env.blockKind; rw [hk]; rfl
  have e : (X.env.kindOf y == some NameKind.local) = isKind B.sc y .local := by
    show (X.env.scope.names.lookup y == some NameKind.local) = _
    rw [g.sc, kind_local]
  unfold swapsWith
  simp only [hb, e, Expr.pos]
  rfl
theorem sAsg (g : XG S G N cl X B W) {e : CE} {gt : CG} {t x : Expr} {pos : Pos} (hG : chkG G N B (some L) gt t = true) (hE : chkE G N B e x = true) (hs : noStar t = true) (hf : asgForm t x = true) : PS X (.Assign [t] x pos) (tS S W L (evS S.P cl (.asg gt e))) := by
  have pe := (sndE e g hE).1
  have pg := sndG gt g hG
  have plain : (∀ l, swapsWith x (some t) l X.env = pure false) → PS X (.Assign [t] x pos) (tS S W L (evS S.P cl (.asg gt e))) := fun hw => impS (ps_asg pe pg (hw _) (swst_no hf) (each_one hs)) (tAsg_of fun _ _ _ h => h)
  cases x with
  | ListComp elt gs scope cpos =>
    cases t with
    | Name y py =>
      refine ⟨fun pins s σ H D I h => ?_⟩
      cases hst : straight B y py cpos scope with
      | false => exact (plain fun l => by rw [straight_iff g I.ok.kind, hst]).run pins s σ H D I h
      | true =>
        have hst' := hst
        unfold straight at hst'
        simp only [Bool.and_eq_true] at hst'
        cases gt with
        | nm i =>
          rw [chkG.eq_def] at hG
          dsimp only at hG
          simp only [Bool.and_eq_true, beq_iff_eq] at hG
          cases e with
          | comp el gc src cond own =>
            rw [chkE.eq_def] at hE
            dsimp only at hE
            split at hE
            · rename_i tg iter ifs scope' cpos' heq
              cases heq
              simp only [Bool.and_eq_true] at hE
              obtain ⟨⟨⟨⟨⟨⟨h1, h2⟩, h3⟩, h4⟩, h5⟩, h6⟩, h7⟩ := hE
              have how : (own.map fun i => (N.getD i Str.empty, i)).map (·.2) = own := by
                rw [List.map_map]
                exact List.map_id' own
              have ok : BlkOk X.N X.env.scope scope (own.map fun i => (N.getD i Str.empty, i)) := by rw [g.N, g.sc]; exact blkOk_by h2
              have hgc := fun s H C cL fp => sndG gc (g.blk s H scope C cL fp) h5
              have htc := fun s H C cL fp => sndC cond (g.blk s H scope C cL fp) h6
              have hec := fun s H C cL fp => (sndE el (g.blk s H scope C cL fp) h7).1
              have key := (sComp g (pos := cpos) how (sndI src g h4) ok h3 hgc htc hec).1
              have hyl : X.env.scope.names.lookup y = some .local := by rw [g.sc]; exact isKind_iff hst'.1.1
              have ps := ps_setLc (i := i) (y := y) (py := py) (spos := pos) g.calm g.nd (by rw [g.N]; exact hG.1.1) hyl (by rw [straight_iff g I.ok.kind, hst]) (sndI src g h4) ok hgc htc hec (folded_ok h3)
              refine ps.run pins s σ H D I ?_
              obtain ⟨ι, δ, M, sl, rm, h⟩ := h
              rw [evS] at h
              refine key σ H _ (tE_of sl rm (rS_bind h) fun d ι1 M1 H1 st1 sl1 k1 v rv => ?_)
              have e1 : asG S.P cl (.nm i) d δ M1 = .ok (δ.set i (some d)) M1 := by rw [asG]
              rw [e1] at k1
              exact k1 ι1 _ H1 (.refl st1.rm) (sl1.set rv) fun j hj => by
                have hi : i ∈ L := by
                  have := hG.2
                  simpa using this
                rw [List.getElem?_set_ne fun z => hj (by rw [← z]; exact hi)]
            · cases hE
          | _ =>
            rw [chkE.eq_def] at hE
            dsimp only at hE
            first
              | cases hE
              | (split at hE <;> first | cases hE | (rename_i heq; cases heq))
        | _ =>
          rw [chkG.eq_def] at hG
          dsimp only at hG
          first
            | cases hG
            | (split at hG <;> first | cases hG | (rename_i heq; cases heq))
    | _ => exact plain fun l => rfl
  | SetComp _ _ _ _ => cases hf
  | DictComp _ _ _ _ _ => cases hf
  | _ => exact plain fun l => swap_no rfl
theorem sAug (g : XG S G N cl X B W) {i : Nat} {e : CE} {x : Str} {y : Expr} {p pos : Pos} (h1 : N[i]? = some x) (h2 : isLoc B x = true) (hL : i ∈ L) (hE : chkE G N B e y = true) : PS X (.AugAssign (.Name x p) .Add y pos) (tS S W L (evS S.P cl (.aug i .add e))) := by
  obtain ⟨v1, v2⟩ := g.loc h2
  refine impS (ps_aug g.nd (by rw [g.N]; exact h1) v1 (sndE e g hE).1 ip_add v2) fun D σ H ⟨ι, δ, M, sl, rm, h⟩ => ?_
  rw [evS] at h
  split at h
  · rename_i d hd
    obtain ⟨v, e2, rv⟩ := sl.2 i d hd
    refine ⟨v, e2, tE_of sl rm (rS_bind h) fun d2 ι1 M1 H1 st1 sl1 k1 u ru => ?_⟩
    cases d with
    | int a =>
      cases d2 with
      | int b =>
        cases rv
        cases ru
        exact ⟨a, b, rfl, rfl, k1 ι1 _ H1 (.refl st1.rm) (sl1.set rfl) fun j hj => by rw [List.getElem?_set_ne fun z => hj (by rw [← z]; exact hL)]⟩
      | _ => exact False.elim k1
    | _ => exact False.elim k1
  · exact False.elim h
theorem sExpr (g : XG S G N cl X B W) {e : CE} {x : Expr} {pos : Pos} (hn : noComp x = true) (hE : chkE G N B e x = true) : PS X (.Expr x pos) (tS S W L (evS S.P cl (.expr e))) := by
  refine impS (ps_expr (sndE e g hE).1 (swap_none hn)) fun D σ H ⟨ι, δ, M, sl, rm, h⟩ => ?_
  rw [evS] at h
  exact tE_of sl rm (rS_bind h) fun d ι1 M1 H1 st1 sl1 k1 v rv => k1 ι1 σ H1 (.refl st1.rm) sl1 (.refl _ _)
theorem sRet (g : XG S G N cl X B W) {e : CE} {x : Expr} {pos : Pos} (hE : chkE G N B e x = true) : PS X (.Return (some x) pos) (tS S W L (evS S.P cl (.ret e))) := by
  refine impS (ps_ret (sndE e g hE).1) fun D σ H ⟨ι, δ, M, sl, rm, h⟩ => ?_
  rw [evS] at h
  exact tE_of sl rm (rS_bind h) fun d ι1 M1 H1 st1 sl1 k1 v rv => k1 ι1 v H1 (.refl st1.rm) rv
theorem sRetN {pos : Pos} : PS X (.Return none pos) (tS S W L (evS S.P cl .retN)) := by
  refine impS ps_retN fun D σ H ⟨ι, δ, M, sl, rm, h⟩ => ?_
  rw [evS] at h
  exact h ι .non H (.refl rm) rfl
theorem sBrk {pos : Pos} : PS X (.Break pos) (tS S W L (evS S.P cl .brk)) := by
  refine impS ps_break fun D σ H ⟨ι, δ, M, sl, rm, h⟩ => ?_
  rw [evS] at h
  exact h ι σ H (.refl rm) sl (.refl _ _)
theorem sCont {pos : Pos} : PS X (.Continue pos) (tS S W L (evS S.P cl .cont)) := by
  refine impS ps_continue fun D σ H ⟨ι, δ, M, sl, rm, h⟩ => ?_
  rw [evS] at h
  exact h ι σ H (.refl rm) sl (.refl _ _)
theorem sIfS (g : XG S G N cl X B W) {c : CE} {s t : CSs} {x : Expr} {a b : List Stmt} {pos : Pos} (hE : chkE G N B c x = true) (ha : PSs X a (tS S W L (evSs S.P cl s))) (hb : PSs X b (tS S W L (evSs S.P cl t))) : PS X (.If x a b pos) (tS S W L (evS S.P cl (.ife c s t))) := by
  refine impS (ps_if (sndE c g hE).2 ha hb) fun D σ H ⟨ι, δ, M, sl, rm, h⟩ => ?_
  rw [evS] at h
  refine tT_of sl rm (rS_bind h) fun d ι1 M1 H1 st1 sl1 k1 => ?_
  cases d with
  | bl k =>
    cases k with
    | true => exact ⟨true, rfl, by rw [if_pos rfl]; exact ⟨ι1, δ, M1, sl1, st1.rm, k1⟩⟩
    | false => exact ⟨false, rfl, by rw [if_neg Bool.false_ne_true]; exact ⟨ι1, δ, M1, sl1, st1.rm, k1⟩⟩
  | _ => exact False.elim k1
/-- the body's end, seen from the loop's start -/
theorem body_end {ι0 ι1 : List Addr} {M0 M1 : Mem} {σ0 σ1 : St} {H0 H1 : Hp} {D : Ends} {Nx : St → Hp → Prop} {x : Rs Fl} {k : Fl → Mem → Rs Fl} (st : Step S ι0 M0 H0 ι1 M1 H1) (kp : Kp L σ0 σ1) (h : rS S W L ι0 M0 σ0 H0 D (x.bind k))
    (hn : ∀ δ M', x = .ok (.next δ) M' ∨ x = .ok (.cont δ) M' → ∀ ι' σ' H', Step S ι0 M0 H0 ι' M' H' → SL S ι' H' δ σ' → Kp L σ0 σ' → Nx σ' H')
    (hb : ∀ δ M', k (.brk δ) M' = .ok (.next δ) M') (hr : ∀ d M', k (.ret d) M' = .ok (.ret d) M') : rS S W L ι1 M1 σ1 H1 { D with nx := Nx, ct := Nx, bk := D.nx } x := by
  cases x with
  | ok f M' =>
    cases f with
    | next δ => exact fun ι' σ' H' s sl q => hn δ M' (.inl rfl) ι' σ' H' (st.trans s) sl (kp.trans q)
    | cont δ => exact fun ι' σ' H' s sl q => hn δ M' (.inr rfl) ι' σ' H' (st.trans s) sl (kp.trans q)
    | brk δ =>
      have h' : rS S W L ι0 M0 σ0 H0 D (k (.brk δ) M') := h
      rw [hb] at h'
      exact fun ι' σ' H' s sl q => h' ι' σ' H' (st.trans s) sl (kp.trans q)
    | ret d =>
      have h' : rS S W L ι0 M0 σ0 H0 D (k (.ret d) M') := h
      rw [hr] at h'
      exact fun ι' v H' s r => h' ι' v H' (st.trans s) r
  | exc c k' M' => exact fun ι' σ' H' cls d s q xr => h ι' σ' H' cls d (st.trans s) (kp.trans q) xr
  | bad => exact h
theorem sFor (g : XG S G N cl X B W) (hp : PassesOwn (model X.prog X.w) X.A X.env X.xe) {gt : CG} {src : CI} {body : CSs} {t x : Expr} {b : List Stmt} {pos : Pos} (hI : chkI G N B src t x = true) (hG : chkG G N B (some L) gt t = true) (hset : noSet x = true)
    (hb : PSs X b (tS S W L (evSs S.P cl body))) : PS X (.For t x b [] pos) (tS S W L (evS S.P cl (.for gt src body))) := by
  refine impS (ps_for hp g.calm (sndI src g hI) (sndG gt g hG) hb (folded_ok hset)) fun D σ H ⟨ι, δ, M, sl, rm, h⟩ => ?_
  rw [evS] at h
  refine ⟨ι, δ, M, sl, rm, rd_mono (rS_bind h) fun it ι0 M0 H0 st0 k0 J yl => ?_⟩
  have sl0 := sl.ext st0.ext
  have R0 := st0.rm.len
  refine ⟨fun i m σ' H' => m = it.1.length - i ∧ i ≤ it.1.length ∧ ∃ ι' δ' M', Step S ι0 M0 H0 ι' M' H' ∧ SL S ι' H' δ' σ' ∧ Kp L σ σ' ∧ rS S W L ι0 M0 σ H0 D (forL (asG S.P cl gt) (evSs S.P cl body) it.2 M0.length (it.1.drop i) δ' M'),
    ⟨it.1.length, by simp, Nat.zero_le _, ι0, δ, M0, .refl st0.rm, sl0, .refl _ _, by rw [List.drop_zero]; exact k0⟩, ?_⟩
  rintro i m σ' H' ⟨rfl, hle, ι', δ', M', st, sl', kp, hr⟩
  by_cases hi : i < it.1.length
  · have ed : it.1.drop i = it.1[i] :: it.1.drop (i + 1) := by rw [List.drop_eq_getElem_cons hi]
    rw [ed] at hr
    unfold forL at hr
    split at hr
    · rename_i hgd
      obtain ⟨go, tn⟩ := yl.turn ι' M' H' i it.1[i] st.rm st.ext hgd (by simp [hi])
      refine .inr ⟨go, fun σ'' H'' => ∃ ι' δ' M', Step S ι0 M0 H0 ι' M' H'' ∧ SL S ι' H'' δ' σ'' ∧ Kp L σ σ'' ∧ rS S W L ι0 M0 σ H0 D (forL (asG S.P cl gt) (evSs S.P cl body) it.2 M0.length (it.1.drop (i + 1)) δ' M'),
        fun σ'' H'' nx => ⟨_, by omega, rfl, hi, nx⟩, fun xv H2 hy => ?_⟩
      obtain ⟨st2, rx⟩ := tn xv H2 hy
      have st02 := st.trans st2
      cases e3 : asG S.P cl gt it.1[i] δ' M' with
      | exc c k M3 => rw [e3] at hr; exact False.elim hr
      | bad => rw [e3] at hr; exact False.elim hr
      | ok δ3 M3 =>
        rw [e3] at hr
        refine ⟨ι', δ', M', it.1[i], δ3, M3, sl'.ext st2.ext, st2.rm, rx, e3, fun ι3 σ3 H3 st3 sl3 o3 => ⟨ι3, δ3, M3, sl3, st3.rm, ?_⟩⟩
        have st03 := st02.trans st3
        have kp3 := kp.trans (Kp.own o3)
        refine body_end st03 kp3 hr (fun δ4 M4 e4 ι4 σ4 H4 st4 sl4 kp4 => ?_) (fun _ _ => rfl) (fun _ _ => rfl)
        obtain ⟨ι5, st5, sl5⟩ := gcSt_ok st4 R0 sl4
        refine ⟨ι5, _, _, st5, sl5, kp4, ?_⟩
        have hr' : rS S W L ι0 M0 σ H0 D ((evSs S.P cl body δ3 M3).bind _) := hr
        rcases e4 with e4 | e4
        · rw [e4] at hr'
          exact hr'
        · rw [e4] at hr'
          exact hr'
    · exact False.elim hr
  · have e1 : i = it.1.length := by omega
    subst e1
    rw [List.drop_length] at hr
    unfold forL at hr
    split at hr
    · rename_i hgd
      exact .inl ⟨yl.stop ι' _ H' st.rm st.ext hgd, hr ι' σ' H' st sl' kp⟩
    · exact False.elim hr
theorem sWhile (g : XG S G N cl X B W) (hp : PassesOwn (model X.prog X.w) X.A X.env X.xe) {c : CE} {body : CSs} {x : Expr} {b : List Stmt} {pos : Pos} (hE : chkE G N B c x = true)
    (hb : PSs X b (tS S W L (evSs S.P cl body))) : PS X (.While x b [] pos) (tS S W L (evS S.P cl (.while c body))) := by
  refine impS (ps_while hp (sndE c g hE).2 hb) fun D σ H ⟨ι, δ, M, sl, rm, h⟩ => ?_
  rw [evS] at h
  unfold whileE at h
  split at h
  · rename_i hk
    refine ⟨fun m σ' H' => ∃ ι' δ' M', Step S ι M H ι' M' H' ∧ SL S ι' H' δ' σ' ∧ Kp L σ σ' ∧ rS S W L ι M σ H D (whileN (evE S.P cl c) (evSs S.P cl body) M.length m δ' M'), ⟨_, ι, δ, M, .refl rm, sl, .refl _ _, h⟩, ?_⟩
    rintro m σ' H' ⟨ι', δ', M', st, sl', kp, hr⟩
    cases m with
    | zero =>
      unfold whileN at hr
      exact False.elim hr
    | succ m =>
      unfold whileN at hr
      refine tT_of sl' st.rm (rS_bind0 hr st kp) fun d ι1 M1 H1 st1 sl1 ⟨st01, k1⟩ => ?_
      cases d with
      | bl k =>
        cases k with
        | false =>
          exact ⟨false, rfl, by rw [if_neg Bool.false_ne_true]; exact k1 ι1 σ' H1 st01 sl1 kp⟩
        | true =>
          refine ⟨true, rfl, ?_⟩
          rw [if_pos rfl]
          refine ⟨fun σ'' H'' => ∃ ι' δ' M', Step S ι M H ι' M' H'' ∧ SL S ι' H'' δ' σ'' ∧ Kp L σ σ'' ∧ rS S W L ι M σ H D (whileN (evE S.P cl c) (evSs S.P cl body) M.length m δ' M'), fun σ'' H'' nx => ⟨m, Nat.lt_succ_self m, nx⟩, ι1, δ', M1, sl1, st1.rm, ?_⟩
          refine body_end st01 kp k1 (fun δ4 M4 e4 ι4 σ4 H4 st4 sl4 kp4 => ?_) (fun _ _ => rfl) (fun _ _ => rfl)
          obtain ⟨ι5, st5, sl5⟩ := gcSt_ok st4 rm.len sl4
          refine ⟨ι5, _, _, st5, sl5, kp4, ?_⟩
          have hr' : rS S W L ι M σ H D ((evSs S.P cl body δ' M1).bind _) := k1
          rcases e4 with e4 | e4
          · rw [e4] at hr'
            exact hr'
          · rw [e4] at hr'
            exact hr'
      | _ => exact False.elim k1
  · exact False.elim h
/-! ### rows of statements -/
theorem undoc_ok {t : TS} : ∀ {l : List Stmt}, PSs X (undoc l) t → PSs X l t
  | [], h => by
    unfold undoc at h
    exact h
  | s :: xs, h => by
    cases s with
    | Pass pos =>
      rw [undoc] at h
      exact impSs (pss_cons ps_pass (undoc_ok h)) fun D σ H q => q
    | Expr e pos =>
      cases e with
      | Constant c j p =>
        cases c with
        | str x =>
          rw [undoc] at h
          exact impSs (pss_cons ps_doc (undoc_ok h)) fun D σ H q => q
        | _ => exact h
      | _ => exact h
    | _ => exact h
theorem sSeqS {c : CS} {cs : CSs} {x : Stmt} {xs : List Stmt} (h1 : PS X x (tS S W L (evS S.P cl c))) (h2 : PSs X xs (tS S W L (evSs S.P cl cs))) : PSs X (x :: xs) (tS S W L (evSs S.P cl (.cons c cs))) := by
  refine impSs (pss_cons h1 h2) fun D σ H ⟨ι, δ, M, sl, rm, h⟩ => ⟨ι, δ, M, sl, rm, ?_⟩
  rw [evSs] at h
  cases e : evS S.P cl c δ M with
  | bad => rw [e] at h; exact h
  | exc k k' M1 => rw [e] at h; exact h
  | ok f M1 =>
    rw [e] at h
    cases f with
    | next δ1 =>
      have h' : rS S W L ι M σ H D (evSs S.P cl cs δ1 M1) := h
      exact fun ι' σ' H' st sl' kp => ⟨ι', δ1, M1, sl', st.rm, h'.later st kp⟩
    | brk δ1 => exact h
    | cont δ1 => exact h
    | ret d => exact h
/-- what a def's context has more -/
structure XS (S : Sta) (G : Glo) (N : List Str) (cl : Cl) (X : Cx) (B : Blk) (W : WX) : Prop extends XG S G N cl X B W where
  passes : PassesOwn (model X.prog X.w) X.A X.env X.xe
mutual
theorem sndS : ∀ (c : CS) {X : Cx} {B : Blk} {W : WX} (_ : XS S G N cl X B W) {L : List Nat} {st : Stmt}, chkS G N B L c st = true → PS X st (tS S W L (evS S.P cl c))
  | .asg gt e, X, B, W, g, L, st, h => by
    rw [chkS.eq_def] at h
    dsimp only at h
    split at h
    · simp only [Bool.and_eq_true] at h
      obtain ⟨⟨⟨h1, h2⟩, h3⟩, h4⟩ := h
      exact sAsg g.toXG h1 h2 h3 h4
    · cases h
  | .aug i op e, X, B, W, g, L, st, h => by
    rw [chkS.eq_def] at h
    dsimp only at h
    split at h
    · simp only [Bool.and_eq_true, beq_iff_eq, decide_eq_true_eq] at h
      obtain ⟨⟨⟨⟨h1, h2⟩, h3⟩, h4⟩, h5⟩ := h
      subst h4
      exact sAug g.toXG h1 h2 (by simpa using h3) h5
    · cases h
  | .expr e, X, B, W, g, L, st, h => by
    rw [chkS.eq_def] at h
    dsimp only at h
    split at h
    · simp only [Bool.and_eq_true] at h
      exact sExpr g.toXG h.1 h.2
    · cases h
  | .ret e, X, B, W, g, L, st, h => by
    rw [chkS.eq_def] at h
    dsimp only at h
    split at h
    · exact sRet g.toXG h
    · cases h
  | .retN, X, B, W, g, L, st, h => by
    rw [chkS.eq_def] at h
    dsimp only at h
    split at h
    · exact sRetN
    · cases h
  | .ife c s t, X, B, W, g, L, st, h => by
    rw [chkS.eq_def] at h
    dsimp only at h
    split at h
    · simp only [Bool.and_eq_true] at h
      exact sIfS g.toXG h.1.1 (sndSs s g h.1.2) (sndSs t g h.2)
    · cases h
  | .for gt src body, X, B, W, g, L, st, h => by
    rw [chkS.eq_def] at h
    dsimp only at h
    split at h
    · simp only [Bool.and_eq_true] at h
      obtain ⟨⟨⟨h1, h2⟩, h3⟩, h4⟩ := h
      exact sFor g.toXG g.passes h1 h2 h4 (sndSs body g h3)
    · cases h
  | .while c body, X, B, W, g, L, st, h => by
    rw [chkS.eq_def] at h
    dsimp only at h
    split at h
    · simp only [Bool.and_eq_true] at h
      exact sWhile g.toXG g.passes h.1 (sndSs body g h.2)
    · cases h
  | .brk, X, B, W, g, L, st, h => by
    rw [chkS.eq_def] at h
    dsimp only at h
    split at h
    · exact sBrk
    · cases h
  | .cont, X, B, W, g, L, st, h => by
    rw [chkS.eq_def] at h
    dsimp only at h
    split at h
    · exact sCont
    · cases h
  | .par _ _ _ _, X, B, W, g, L, st, h => by cases h
  | .raise _ _, X, B, W, g, L, st, h => by cases h
  | .try _ _ _ _, X, B, W, g, L, st, h => by cases h
  | .base _, X, B, W, g, L, st, h => by cases h
  | .kill _, X, B, W, g, L, st, h => by cases h
theorem sndSs : ∀ (c : CSs) {X : Cx} {B : Blk} {W : WX} (_ : XS S G N cl X B W) {L : List Nat} {l : List Stmt}, chkSs G N B L c l = true → PSs X l (tS S W L (evSs S.P cl c))
  | .nil, X, B, W, g, L, l, h => by
    refine undoc_ok ?_
    rw [chkSs.eq_def] at h
    dsimp only at h
    cases e : undoc l with
    | cons _ _ => rw [e] at h; cases h
    | nil =>
      refine impSs pss_nil fun D σ H ⟨ι, δ, M, sl, rm, q⟩ => ?_
      rw [evSs] at q
      exact q ι σ H (.refl rm) sl (.refl _ _)
  | .cons c cs, X, B, W, g, L, l, h => by
    cases c with
    | kill is =>
      rw [chkSs.eq_def] at h
      dsimp only at h
      refine impSs (sndSs cs g h) fun D σ H ⟨ι, δ, M, sl, rm, q⟩ => ?_
      rw [evSs, evS] at q
      exact ⟨ι, _, M, sl.forget is, rm, q⟩
    | _ =>
      refine undoc_ok ?_
      rw [chkSs.eq_def] at h
      dsimp only at h
      cases e : undoc l with
      | nil => rw [e] at h; cases h
      | cons x xs =>
        rw [e] at h
        dsimp only at h
        simp only [Bool.and_eq_true] at h
        exact sSeqS (sndS _ g h.1) (sndSs cs g h.2)
end
end
end PD

set_option Elab.async false
set_option linter.all false
set_option autoImplicit false
set_option maxRecDepth 100000
set_option maxHeartbeats 1000000
/-! PdLoc: a call in its own part of the memory, and back. -/
namespace PD
open PySem L2
section
variable {S : Sta} {ι : List Addr} {H : Hp} {M : Mem}
/-! ### what is named stands -/
mutual
theorem RV.refs : ∀ {d : D} {v : V}, RV S ι H d v → ∀ n ∈ d.refs, n < ι.length
  | .non, _, _, _, h => nomatch h
  | .bl _, _, _, _, h => nomatch h
  | .int _, _, _, _, h => nomatch h
  | .str _, _, _, _, h => nomatch h
  | .fn _, _, _, _, h => nomatch h
  | .exc _ _, _, _, _, h => nomatch h
  | .fro _, _, _, _, h => nomatch h
  | .tup ds, _, ⟨a, vs, e, t, q⟩, n, h => RVs.refs q n h
  | .ref k, _, ⟨a, h, e⟩, n, hn => by
    have e2 : n = k := by simpa [D.refs] using hn
    rw [e2]
    exact (List.getElem?_eq_some_iff.mp h).1
theorem RVs.refs : ∀ {ds : List D} {vs : List V}, RVs S ι H ds vs → ∀ n ∈ D.refss ds, n < ι.length
  | [], _, _, _, h => nomatch h
  | d :: ds, _, ⟨v, q, e, h, t⟩, n, hn => by
    rcases List.mem_append.mp (show n ∈ D.refs d ++ D.refss ds from hn) with z | z
    · exact RV.refs h n z
    · exact RVs.refs t n z
end
theorem RK.refs : ∀ {l : List (D × D)} {q : List (Key × V)}, RK S ι H l q → (∀ n ∈ D.refss (l.map (·.1)), n < ι.length) ∧ ∀ n ∈ D.refss (l.map (·.2)), n < ι.length
  | [], _, _ => ⟨fun _ h => (nomatch h), fun _ h => (nomatch h)⟩
  | (k, d) :: l, _, ⟨kk, v, q, e, h1, h2, h3, h4⟩ => by
    obtain ⟨i1, i2⟩ := RK.refs h4
    have e1 : D.refs k = [] := by cases k <;> first | rfl | cases h1
    refine ⟨fun n hn => ?_, fun n hn => ?_⟩
    · have hn' : n ∈ D.refs k ++ D.refss (l.map (·.1)) := hn
      rw [e1] at hn'
      exact i1 n hn'
    · rcases List.mem_append.mp (show n ∈ D.refs d ++ D.refss (l.map (·.2)) from hn) with z | z
      · exact h3.refs n z
      · exact i2 n z
theorem RF.refs : ∀ {l : List (Nat × D)} {q : List (Str × V)}, RF S ι H l q → ∀ n ∈ D.refss (l.map (·.2)), n < ι.length
  | [], _, _, _, h => nomatch h
  | (k, d) :: l, _, ⟨v, q, e, h3, h4⟩, n, hn => by
    rcases List.mem_append.mp (show n ∈ D.refs d ++ D.refss (l.map (·.2)) from hn) with z | z
    · exact h3.refs n z
    · exact RF.refs h4 n z
theorem RO.refs {o : MO} {a : Addr} (h : RO S ι H o a) : ∀ n ∈ o.refs, n < ι.length := by
  cases o with
  | lst ds =>
    obtain ⟨vs, e, h⟩ := h
    exact h.refs
  | dct t kvs =>
    cases t with
    | true => exact False.elim h
    | false =>
      obtain ⟨kv, e, h⟩ := h
      intro n hn
      have hn' : n ∈ D.refss (kvs.map (·.1) ++ kvs.map (·.2)) := hn
      rw [refss_append] at hn'
      rcases List.mem_append.mp hn' with z | z
      · exact h.refs.1 n z
      · exact h.refs.2 n z
  | ins c fs =>
    obtain ⟨dx, l, e, h, hc⟩ := h
    exact h.refs
/-! ### written back -/
theorem writeAll_len : ∀ (sel : List Nat) (L M : Mem), (writeAll sel L M).length = M.length
  | [], L, M => by cases L <;> rfl
  | n :: sel, [], M => rfl
  | n :: sel, o :: L, M => by
    unfold writeAll
    rw [writeAll_len sel L, List.length_set]
theorem writeAll_out {n : Nat} : ∀ (sel : List Nat) (L M : Mem), n ∉ sel → (writeAll sel L M)[n]? = M[n]?
  | [], L, M, _ => by cases L <;> rfl
  | k :: sel, [], M, _ => rfl
  | k :: sel, o :: L, M, h => by
    simp only [List.mem_cons, not_or] at h
    unfold writeAll
    rw [writeAll_out sel L _ h.2, List.getElem?_set_ne fun z => h.1 z.symm]
theorem writeAll_at : ∀ (sel : List Nat) (L M : Mem) (j n : Nat), sel.Nodup → sel[j]? = some n → n < M.length → j < L.length → (writeAll sel L M)[n]? = L[j]?
  | [], L, M, j, n, _, h, _, _ => by simp at h
  | k :: sel, [], M, j, n, _, _, _, h => by simp at h
  | k :: sel, o :: L, M, 0, n, nd, h, hn, _ => by
    simp only [List.getElem?_cons_zero, Option.some.injEq] at h
    subst h
    unfold writeAll
    rw [writeAll_out sel L _ (List.nodup_cons.mp nd).1, List.getElem?_set_self hn]
    rfl
  | k :: sel, o :: L, M, j + 1, n, nd, h, hn, hj => by
    unfold writeAll
    rw [writeAll_at sel L _ j n (List.nodup_cons.mp nd).2 (by simpa using h) (by rw [List.length_set]; exact hn) (by simpa using hj)]
    simp
theorem gc_nodup {m : Nat} {roots acc : List Nat} (h : gc m roots M = some acc) : acc.Nodup := by
  unfold gc at h
  simp only at h
  split at h
  · cases h
    exact (reach_inv (M := M) (m := m) 1000 (roots ++ Mem.refs (M.take m)) [] (fun n hn => nomatch hn) List.nodup_nil).2
  · cases h
/-- back from the callee's part: L, what it leaves (its first objects are those at sel) -/
theorem back_ok {sel : List Nat} {L : Mem} {ι1 : List Addr} {H' : Hp} (R : RM S ι M H) (hnd : sel.Nodup) (hlt : ∀ n ∈ sel, n < M.length) (ext : Ext (pickA ι sel) H ι1 H') (R1 : RM S ι1 L H') (keep : ∀ a o, H a = some o → a ∉ pickA ι sel → H' a = some o)
    (new : ∀ a ∈ ι1, a ∈ pickA ι sel ∨ H a = none) :
    Ren (unloc sel.length M.length sel) ι1 (ι ++ ι1.drop sel.length) (fun n => n < ι1.length) ∧ Step S ι M H (ι ++ ι1.drop sel.length) (back sel M L) H' := by
  obtain ⟨⟨r, e1⟩, mono⟩ := ext
  have lp : (pickA ι sel).length = sel.length := by unfold pickA; simp
  have hd : ι1.drop sel.length = r := by rw [e1, List.drop_append_of_le_length (by rw [lp]; exact Nat.le_refl _), List.drop_of_length_le (by rw [lp]; exact Nat.le_refl _)]; simp
  have lι := R.len
  have sub : ∀ a ∈ pickA ι sel, a ∈ ι := fun a ha => pickA_mem ha fun n hn => by rw [lι]; exact hlt n hn
  have l1 : ι1.length = sel.length + r.length := by rw [e1, List.length_append, lp]
  have at1 : ∀ j n, sel[j]? = some n → ι1[j]? = ι[n]? := fun j n h => by
    have hj : j < sel.length := (List.getElem?_eq_some_iff.mp h).1
    rw [e1, List.getElem?_append_left (by rw [lp]; exact hj)]
    unfold pickA
    rw [List.getElem?_map, h]
    have hl : n < ι.length := by rw [lι]; exact hlt n (List.mem_of_getElem? h)
    rw [List.getElem?_eq_getElem hl]
    simp [hl]
  have at2 : ∀ j, ι1[sel.length + j]? = r[j]? := fun j => by
    rw [e1, List.getElem?_append_right (by rw [lp]; omega), lp, Nat.add_sub_cancel_left]
  rw [hd]
  have rn : Ren (unloc sel.length M.length sel) ι1 (ι ++ r) (fun n => n < ι1.length) := fun n hn => by
    unfold unloc
    by_cases h : n < sel.length
    · rw [if_pos h]
      have e2 : sel[n]? = some sel[n] := by simp [h]
      rw [at1 n _ e2]
      have hl : sel[n] < ι.length := by rw [lι]; exact hlt _ (List.getElem_mem h)
      simp only [List.getD_eq_getElem?_getD, e2, Option.getD_some]
      rw [List.getElem?_append_left hl]
    · rw [if_neg h, List.getElem?_append_right (by rw [lι]; omega), ← lι, Nat.add_sub_cancel_left]
      have : n = sel.length + (n - sel.length) := by omega
      rw [this, at2, ← this]
  have ex : Ext ι H (ι ++ r) H' := ⟨⟨r, rfl⟩, mono⟩
  have newr : ∀ a ∈ r, H a = none := fun a ha => by
    rcases new a (by rw [e1]; exact List.mem_append_right _ ha) with z | z
    · exfalso
      have nd := R1.nd
      rw [e1, List.nodup_append] at nd
      exact nd.2.2 a z a ha rfl
    · exact z
  refine ⟨rn, ex, ⟨?_, ?_, fun n o a h1 h2 => ?_⟩, fun a o h hn => keep a o h fun z => hn (sub a z), fun a ha => ?_⟩
  · unfold back
    have := R1.len
    rw [List.length_append, List.length_append, writeAll_len, List.length_map, List.length_drop, lι]
    omega
  · rw [List.nodup_append]
    have nd := R1.nd
    rw [e1, List.nodup_append] at nd
    refine ⟨R.nd, nd.2.1, fun a ha b hb e => ?_⟩
    subst e
    obtain ⟨u, hu, _⟩ := R.here ha
    rw [newr a hb] at hu
    cases hu
  · unfold back at h1
    by_cases hn : n < M.length
    · rw [List.getElem?_append_left (by rw [writeAll_len]; exact hn)] at h1
      rw [List.getElem?_append_left (by rw [lι]; exact hn)] at h2
      by_cases hs : n ∈ sel
      · obtain ⟨j, hj, e2⟩ := List.mem_iff_getElem.mp hs
        have e3 : sel[j]? = some n := by simp [hj, e2]
        have hjL : j < L.length := by rw [← R1.len, l1]; omega
        rw [writeAll_at sel _ M j n hnd e3 hn (by rw [List.length_map, List.length_take]; omega), List.getElem?_map, List.getElem?_take_of_lt hj] at h1
        have e4 : L[j]? = some L[j] := by simp [hjL]
        rw [e4] at h1
        cases h1
        have ro := R1.obj j L[j] a e4 (by rw [at1 j n e3]; exact h2)
        exact ro.ren rn ro.refs
      · rw [writeAll_out sel _ M hs] at h1
        have ro := R.obj n o a h1 h2
        obtain ⟨u, hu, _⟩ := ro.here
        refine ro.ext ex ((keep a u hu fun z => hs ?_).trans hu.symm)
        unfold pickA at z
        obtain ⟨k, hk, e5⟩ := List.mem_map.mp z
        have lk : k < ι.length := by rw [lι]; exact hlt k hk
        simp only [List.getD_eq_getElem?_getD, List.getElem?_eq_getElem lk, Option.getD_some] at e5
        have := R.inj h2 (show ι[k]? = some a by simp [lk, e5])
        rw [this]
        exact hk
    · rw [List.getElem?_append_right (by rw [writeAll_len]; omega), writeAll_len, List.getElem?_map, List.getElem?_drop] at h1
      rw [List.getElem?_append_right (by rw [lι]; omega), lι] at h2
      cases e : L[sel.length + (n - M.length)]? with
      | none => rw [e] at h1; cases h1
      | some o' =>
        rw [e] at h1
        cases h1
        have ro := R1.obj _ o' a e (by rw [at2]; exact h2)
        exact ro.ren rn ro.refs
  · rcases List.mem_append.mp ha with z | z
    · exact .inl z
    · exact .inr (newr a z)
end
end PD

set_option Elab.async false
set_option linter.all false
set_option autoImplicit false
set_option maxRecDepth 100000
set_option maxHeartbeats 4000000
/-! PdFn: each def keeps the promise that the evaluator tells. -/
namespace PD
open PySem L2 PyProof.Rows
/-- a call's result, read -/
def rP (S : Sta) (ι : List Addr) (M : Mem) (H : Hp) (x : Rs D) (Q : VK) (E : XK) : Prop := match x with
  | .ok d M' => ∀ ι' v H', Step S ι M H ι' M' H' → RV S ι' H' d v → Q v H'
  | .exc c k M' => ∀ ι' H' cls dx, Step S ι M H ι' M' H' → S.XR c k cls dx H' → E cls dx H'
  | .bad => False
/-- a def's promise -/
noncomputable def spF (S : Sta) (f : Nat) : Sp := fun vs H Q E => ∃ ι M ds, RM S ι M H ∧ RVs S ι H ds vs ∧ rP S ι M H (runF S.P f ds M) Q E
section
variable {S : Sta} {ι : List Addr} {M : Mem} {H : Hp} {Q : VK} {E : XK}
theorem rP_of {W : WX} {σ : St} {x : Rs D} (h : rd S W ι M σ H x fun d ι' M' H' => ∀ v, RV S ι' H' d v → Q v H') : rP S ι M H x Q fun cls d H' => W cls d σ H' := by
  cases x with
  | ok d M' => exact fun ι' v H' st rv => h ι' H' st v rv
  | exc c k M' => exact fun ι' H' cls dx st xr => h ι' H' cls dx st xr
  | bad => exact h
/-- a call in its own part of the memory -/
theorem rP_loc {g : Nat} {ds : List D} {vs : List V} (R : RM S ι M H) (rv : RVs S ι H ds vs) (h : rP S ι M H (callIn (runF S.P g) ds M) Q E) : spF S g vs H Q E := by
  unfold callIn at h
  cases e1 : gc 0 (D.refss ds) M with
  | none => rw [e1] at h; exact False.elim h
  | some sel =>
    rw [e1] at h
    obtain ⟨rn, rt, rm⟩ := gc_ok (Nat.zero_le _) e1 R
    have e0 : ι.take 0 ++ pickA ι sel = pickA ι sel := by simp
    rw [e0] at rn rm
    have hlt := gc_lt e1
    have hnd := gc_nodup e1
    have sub : ∀ a ∈ pickA ι sel, a ∈ ι := fun a ha => pickA_mem ha fun n hn => by rw [R.len]; exact hlt n hn
    have lp : (pickA ι sel).length = sel.length := by unfold pickA; simp
    have ll : (gcMem 0 sel M).length = sel.length := by rw [← rm.len, lp]
    refine ⟨pickA ι sel, gcMem 0 sel M, D.rens (renum 0 sel) ds, rm, rv.ren rn rt, ?_⟩
    simp only at h
    cases e2 : runF S.P g (D.rens (renum 0 sel) ds) (gcMem 0 sel M) with
    | bad => rw [e2] at h; exact False.elim h
    | ok d L =>
      rw [e2] at h
      simp only at h
      cases e3 : gc sel.length d.refs L with
      | none => rw [e3] at h; exact False.elim h
      | some acc =>
        rw [e3] at h
        intro ι' v H' st rd'
        have hle : sel.length ≤ L.length := by
          obtain ⟨⟨r, e⟩, _⟩ := st.ext
          have := st.rm.len
          rw [e, List.length_append, lp] at this
          omega
        obtain ⟨rn2, rt2, _⟩ := gc_ok hle e3 st.rm
        have st2 := st.gc ll.symm e3 (by rw [lp, ll])
        obtain ⟨rn3, st3⟩ := back_ok R hnd hlt st2.ext st2.rm st2.keep st2.new
        have rd2 := rd'.ren rn2 rt2
        exact h _ v H' st3 (rd2.ren rn3 rd2.refs)
    | exc c k L =>
      rw [e2] at h
      simp only at h
      cases e3 : gc sel.length [] L with
      | none => rw [e3] at h; exact False.elim h
      | some acc =>
        rw [e3] at h
        intro ι' H' cls dx st xr
        have st2 := st.gc ll.symm e3 (by rw [lp, ll])
        obtain ⟨rn3, st3⟩ := back_ok R hnd hlt st2.ext st2.rm st2.keep st2.new
        exact h _ H' cls dx st3 xr
end
/-- what is known of a def in the text and behind the top -/
def DefOk (S : Sta) (G : Glo) (K : PySem.W.Frag) (f : Nat) (F : Fn) : Prop := ∃ (x qual : Str) (args : Arguments) (body : List Stmt) (scope : Scope) (N ps : List Str) (dvs : List V) (fd : FuncData),
  FunD K x qual args body scope dvs [] (S.fA f) fd ∧ FnScope N ps scope ∧ N.length = F.ns ∧ (ps.length = F.np ∧ ps = S.pS f) ∧ chkSs G N ⟨scope, fun _ => true⟩ (List.range N.length) F.body body = true ∧ (∀ ι H, RVs S ι H F.dfl dvs) ∧
  ∀ n, n ≤ F.np → F.np ≤ n + F.dfl.length → ∃ ds, Vals (dvs.drop (n + F.dfl.length - F.np)) ds ∧ Binds K fd ps ds
noncomputable def clF (P : Prg) (f : Nat) : Cl := fun g ds M => if g < f then (if P.lv g < P.lv f then callIn (runF P g) ds M else .bad) else .bad
theorem runF_eq (P : Prg) (f : Nat) (ds : List D) (M : Mem) : runF P f ds M = match P.fn f with
    | some F => runB P (clF P f) F ds M
    | none => .bad := by
  rw [runF]
  rfl
/-- a def's promise is kept, its bindings are known -/
def FnG (P : Program) (w : World) (K : PySem.W.Frag) (mg : Str → Option Value) (base : Heap) (S : Sta) (g : Nat) : Prop := ∀ F, S.P.fn g = some F → ∃ (fd : FuncData) (ps : List Str) (dvs : List V), (ps.length = F.np ∧ ps = S.pS g) ∧ (∃ oc od osl, K.lookup (S.fA g) = some ⟨oc, od, .func fd, osl⟩) ∧ FnOk P w K mg base (L2.CX P w) (2 * S.P.lv g + 2) (S.fA g) fd ps (spF S g) ∧
  (∀ ι H, RVs S ι H F.dfl dvs) ∧ ∀ n, n ≤ F.np → F.np ≤ n + F.dfl.length → ∃ ds, Vals (dvs.drop (n + F.dfl.length - F.np)) ds ∧ Binds K fd ps ds
/-- classes are made -/
def MkG (K : PySem.W.Frag) (S : Sta) : Prop := ∀ c C g, S.P.cls c = some C → C.init = some g → Mk K (S.cA c) (S.fA g)
section
variable {S : Sta} {X : Cx} {W : WX} {f k : Nat}
/-- a call that a callee answers, or lets an exception out of -/
theorem run_any {g : Nat} {fd : FuncData} {ps : List Str} {sp : Sp} {j : Nat} {dvs : List V} {ds : List Value} (F : FnOk X.prog X.w X.K X.mg X.base (L2.CX X.prog X.w) j (S.fA g) fd ps sp) (hr : Room j X.A) (hb : Binds X.K fd ps ds) (hd : Vals dvs ds) (tk : Takes X W)
    {pins : List (Addr × Obj)} {σ : St} {H : Hp} {s : Shared} {Q : VK} {us : List Value} {vs : List V} (I : Inv X pins σ H s) (r : Vals vs us) (h : sp (vs ++ dvs) H Q fun cls d H' => W cls d σ H') : wpAny (model X.prog X.w) X.A (call (.ref (S.fA g)) us) (EP X pins σ Q) X.xe s := by
  have r2 : Vals (vs ++ dvs) (us ++ ds) := r.append hd
  have hl : (us ++ ds).length = ps.length := by rw [← r2.length]; exact F.len _ _ _ _ h
  refine wpAny_call (codeAny_mono (F.run X.A X.stack s H ⟨us, []⟩ (us ++ ds) (vs ++ dvs) Q _ hr I.env0 (hb s us I.kIn hl) r2 h) fun r s' hq => ?_)
  cases r with
  | error e => exact tk e s' (XE.of_call I (fun cls d H' h => h) hq)
  | ok fl =>
    cases fl with
    | ret u => exact I.after hq
    | next => exact False.elim hq
    | brk => exact False.elim hq
    | cont => exact False.elim hq
theorem make_any {g C : Addr} {fd : FuncData} {ps : List Str} {sp : Sp} {j : Nat} {dvs : List V} {ds : List Value} (M : Mk X.K C g) (F : FnOk X.prog X.w X.K X.mg X.base (L2.CX X.prog X.w) j g fd ps sp) (hr : Room (j + 1) X.A) (hb : Binds X.K fd ps ds) (hd : Vals dvs ds) (tk : Takes X W)
    {pins : List (Addr × Obj)} {σ : St} {H : Hp} {s : Shared} {Q : VK} {us : List Value} {vs : List V} (I : Inv X pins σ H s) (r : Vals vs us)
    (h : ∀ x dx, H x = none → H dx = none → dx ≠ x → sp (.ref x :: (vs ++ dvs)) (upd (upd H dx (.own x)) x (.ins C dx [])) (fun v H2 => v = .non ∧ Q (.ref x) H2) fun cls d H' => W cls d σ H') :
    wpAny (model X.prog X.w) X.A (call (.ref C) us) (EP X pins σ Q) X.xe s := by
  have hq := h (s.heap.objs.size + 1) s.heap.objs.size (I.hok.fresh (Nat.le_succ _)) (I.hok.fresh (Nat.le_refl _)) (Nat.ne_of_lt (Nat.lt_succ_self _))
  have I2 := Inv.made (C := C) I
  have r2 : Vals (V.ref (s.heap.objs.size + 1) :: (vs ++ dvs)) (Value.ref (s.heap.objs.size + 1) :: (us ++ ds)) := .cons rfl (r.append hd)
  have hl : (Value.ref (s.heap.objs.size + 1) :: us ++ ds).length = ps.length := by
    have e := r2.length
    rw [F.len _ _ _ _ hq] at e
    exact e.symm
  refine wpAny_call (make_map (f := g) I.kIn M.makes M.init (beq_iff_eq.mp M.fn) (codeAny_mono (F.run _ X.stack _ _ ⟨Value.ref (s.heap.objs.size + 1) :: us, []⟩ (Value.ref (s.heap.objs.size + 1) :: (us ++ ds)) _ _ _ (hr.make C us [])
    (I2.env0.make C us []) (hb _ (Value.ref (s.heap.objs.size + 1) :: us) I2.kIn hl) r2 hq) fun r s' hq' => ?_))
  cases r with
  | error e => exact tk e s' (XE.of_call I2 (fun cls d H' h => h) hq')
  | ok fl =>
    cases fl with
    | ret u =>
      obtain ⟨v, H', I3, rv, ev, q3⟩ := I2.after hq'
      subst ev
      exact ⟨rv, ⟨V.ref (s.heap.objs.size + 1), H', I3, rfl, q3⟩⟩
    | next => exact False.elim hq'
    | brk => exact False.elim hq'
    | cont => exact False.elim hq'
theorem defaults_inv {P : Prg} {g : Nat} {ds es : List D} (h : defaults P g ds = some es) : ∃ F, P.fn g = some F ∧ ds.length ≤ F.np ∧ F.np ≤ ds.length + F.dfl.length ∧ es = ds ++ F.dfl.drop (ds.length + F.dfl.length - F.np) := by
  unfold defaults at h
  cases e : P.fn g with
  | none => rw [e] at h; cases h
  | some F =>
    rw [e] at h
    simp only at h
    split at h
    · rename_i hc
      cases h
      exact ⟨F, rfl, hc.1, hc.2, rfl⟩
    · cases h
theorem clF_inv {P : Prg} {f g : Nat} {ds : List D} {M : Mem} {α : Prop} (h : (clF P f g ds M = .bad → False)) : g < f ∧ P.lv g < P.lv f ∧ clF P f g ds M = callIn (runF P g) ds M := by
  unfold clF at h ⊢
  by_cases h1 : g < f
  · by_cases h2 : P.lv g < P.lv f
    · refine ⟨h1, h2, ?_⟩
      rw [if_pos h1, if_pos h2]
    · rw [if_pos h1, if_neg h2] at h
      exact False.elim (h rfl)
  · rw [if_neg h1] at h
    exact False.elim (h rfl)
theorem rd_nb {α : Type} {ι : List Addr} {M : Mem} {σ : St} {H : Hp} {x : Rs α} {K : α → List Addr → Mem → Hp → Prop} (h : rd S W ι M σ H x K) : x = .bad → False := fun e => by
  rw [e] at h
  exact h
theorem calls_of (hK : S.K = X.K) (hG : ∀ g, g < f → S.P.lv g < S.P.lv f → FnG X.prog X.w X.K X.mg X.base S g) (hM : MkG X.K S) (hr : Room (2 * S.P.lv f + 1) X.A) (tk : Takes X W) : Calls S (clF S.P f) X W where
  fn := fun g pins s σ H xs us Q I rv ⟨ι, M, ds, rm, rvs, h⟩ => by
    unfold callD at h
    cases e1 : defaults S.P g ds with
    | none => rw [e1] at h; exact False.elim h
    | some es =>
      rw [e1] at h
      simp only at h
      obtain ⟨F, hF, l1, l2, rfl⟩ := defaults_inv e1
      obtain ⟨hg, hl, ec⟩ := clF_inv (α := True) (rd_nb h)
      rw [ec] at h
      obtain ⟨fd, ps, dvs, hps, _, FO, rdf, bd⟩ := hG g hg hl F hF
      obtain ⟨vd, hv, hb⟩ := bd ds.length l1 l2
      have rall := rvs.append ((rdf ι H).drop (ds.length + F.dfl.length - F.np))
      exact run_any FO (hr.mono (by omega)) hb hv tk I rv (rP_loc rm rall (rP_of h))
  new := fun c pins s σ H xs us Q I rv ⟨ι, M, ds, rm, rvs, h⟩ => by
    unfold newD at h
    split at h
    · rename_i g ms hC
      unfold callD at h
      cases e1 : defaults S.P g (.ref M.length :: ds) with
      | none => rw [e1] at h; exact False.elim h
      | some es =>
        rw [e1] at h
        simp only at h
        obtain ⟨F, hF, l1, l2, rfl⟩ := defaults_inv e1
        have h0 := rd_bind h
        obtain ⟨hg, hl, ec⟩ := clF_inv (α := True) (rd_nb h0)
        rw [ec] at h
        obtain ⟨fd, ps, dvs, hps, _, FO, rdf, bd⟩ := hG g hg hl F hF
        obtain ⟨vd, hv, hb⟩ := bd _ l1 l2
        refine make_any (hM c _ g hC rfl) FO (hr.mono (by omega)) hb hv tk I rv fun x dx hx hdx hne => ?_
        have st1 := Step.tup (o := .own x) rm hdx
        have hx1 : (upd H dx (.own x)) x = none := by rw [upd_ne (Ne.symm hne)]; exact hx
        have st2 := Step.push (o := .ins (S.cA c) dx []) (m := .ins c []) st1.rm hx1 fun y e => ⟨dx, [], e, rfl, _, hC⟩
        have st := st1.trans st2
        have lι := rm.len
        have rself : RV S (ι ++ [x]) (upd (upd H dx (.own x)) x (.ins (S.cA c) dx [])) (.ref M.length) (.ref x) := ⟨x, by rw [← lι]; simp, rfl⟩
        have rall := (RVs.cons rself (rvs.ext st.ext)).append ((rdf (ι ++ [x]) (upd (upd H dx (.own x)) x (.ins (S.cA c) dx []))).drop ((D.ref M.length :: ds).length + F.dfl.length - F.np))
        refine rP_loc st.rm rall ?_
        -- the result, as the evaluator has it
        cases e2 : callIn (runF S.P g) (.ref M.length :: ds ++ F.dfl.drop ((D.ref M.length :: ds).length + F.dfl.length - F.np)) (M ++ [.ins c []]) with
        | bad =>
          have e2' := e2
          rw [e2'] at h
          exact False.elim h
        | ok d M2 =>
          have e2' := e2
          rw [e2'] at h
          have h' : rd S W ι M σ H (if d = .non then .ok (.ref M.length) M2 else .bad) (fun d ι' M' H' => ∀ v, RV S ι' H' d v → Q v H') := h
          intro ι' v H' st3 rv3
          split at h'
          · rename_i hd
            subst hd
            exact ⟨rv3, h' ι' H' (st.trans st3) (.ref x) (rself.ext st3.ext)⟩
          · exact False.elim h'
        | exc c' k' M2 =>
          have e2' := e2
          rw [e2'] at h
          exact fun ι' H' cls dx' st3 xr => h ι' H' cls dx' (st.trans st3) xr
    · exact False.elim h
theorem takes_blk (s : Shared) (H : Hp) (scope : Scope) (cenv : Env) (fp : List Addr) : Takes (X.blk s H scope cenv fp) fun _ _ _ _ => False := fun u s' ⟨a, B, sI, pins, σ, H, cls, d, e, I, nb, up, sky, na, os, ag, w⟩ => w
theorem start_sl {ι : List Addr} {H : Hp} {N : List Str} {n : Nat} {ds : List D} {vs : List V} (r : RVs S ι H ds vs) (h1 : N.length = n) (h2 : ds.length ≤ n) : SL S ι H (ds.map some ++ List.replicate (n - ds.length) none) (L2.start N vs) := by
  unfold L2.start
  have l := r.length
  refine ⟨by simp [l, h1], fun i d e => ?_⟩
  by_cases hi : i < ds.length
  · rw [List.getElem?_append_left (by rw [List.length_map]; exact hi), List.getElem?_map] at e
    cases e1 : ds[i]? with
    | none => rw [e1] at e; cases e
    | some d' =>
      rw [e1] at e
      cases e
      obtain ⟨v, h3, h4⟩ := r.get e1
      refine ⟨v, ?_, h4⟩
      rw [List.getElem?_append_left (by rw [List.length_map, l]; exact hi), List.getElem?_map, h3]
      rfl
  · rw [List.getElem?_append_right (by rw [List.length_map]; omega), List.getElem?_replicate] at e
    split at e <;> cases e
end
/-- each def keeps its promise -/
theorem fn_all {P : Program} {w : World} {K : PySem.W.Frag} {mg : Str → Option Value} {base : Heap} {S : Sta} {G : Glo} (hK : S.K = K) (hmod : ModG S G K mg) (hM : MkG K S) (hd : ∀ f F, S.P.fn f = some F → DefOk S G K f F) : ∀ f, FnG P w K mg base S f := by
  intro f
  induction f using Nat.strongRecOn with
  | ind f ih =>
    intro F hF
    obtain ⟨x, qual, args, body, scope, N, ps, dvs, fd, FD, FS, hN, ⟨hps, hpS⟩, hchk, rdf, bd⟩ := hd f F hF
    have hlk : ∃ oc od osl, K.lookup (S.fA f) = some ⟨oc, od, .func fd, osl⟩ := by
      obtain ⟨oc, od, dV, kV, doc, pm, an, cdv, ct, osl, rfl, lk, _⟩ := FD.ex
      exact ⟨oc, od, osl, lk⟩
    refine ⟨fd, ps, dvs, ⟨hps, hpS⟩, hlk, ?_, rdf, bd⟩
    refine FD.ok (k := 2 * S.P.lv f + 1) FS (fun vs H Q E h => ?_) fun cdv A outer s H vs Q E hr h => ?_
    · obtain ⟨ι, M, ds, rm, rv, h⟩ := h
      rw [rv.length, hps]
      rw [runF_eq, hF] at h
      simp only at h
      unfold runB at h
      split at h
      · rename_i hc
        exact hc.1
      · exact False.elim h
    · obtain ⟨ι, M, ds, rm, rv, h⟩ := h
      rw [runF_eq, hF] at h
      simp only at h
      unfold runB at h
      split at h
      · rename_i hc
        obtain ⟨hl, hns⟩ := hc
        have tk : Takes (cxOf (L2.CX P w) P w K mg base N qual scope (S.fA f) cdv A outer s H E) (fun cls d _ H => E cls d H) := takes_of rfl rfl rfl rfl
        have xs : XS S G N (clF S.P f) (cxOf (L2.CX P w) P w K mg base N qual scope (S.fA f) cdv A outer s H E) ⟨scope, fun _ => true⟩ (fun cls d _ H => E cls d H) :=
          { K := hK, calm := rfl, nd := FS.nd, N := rfl, sc := rfl, fn := rfl, un := (by
              have := hr.un
              show (A.deeper (envOfC qual scope s.heap.objs.size (S.fA f) cdv)).units + 65 < cLine
              omega), mod := hmod,
            calls := calls_of hK (fun g hg _ => ih g hg) hM hr tk,
            deep := fun s' H' scope' cenv' fp' => calls_of (X := (cxOf (L2.CX P w) P w K mg base N qual scope (S.fA f) cdv A outer s H E).blk s' H' scope' cenv' fp') hK (fun g hg _ => ih g hg) hM hr (takes_blk s' H' scope' cenv' fp'),
            passes := passes_of rfl }
        refine ⟨_, sndSs F.body xs hchk, ι, _, M, start_sl (n := F.ns) rv hN (by omega), rm, ?_⟩
        rw [hl]
        cases e : evSs S.P (clF S.P f) F.body (ds.map some ++ List.replicate (F.ns - F.np) none) M with
        | bad => rw [e] at h; exact h
        | exc c k M' => rw [e] at h; exact fun ι' σ' H' cls dx st kp xr => h ι' H' cls dx st xr
        | ok fl M' =>
          rw [e] at h
          cases fl with
          | next δ' => exact fun ι' σ' H' st sl kp => h ι' .non H' st rfl
          | ret d => exact fun ι' v H' st rv' => h ι' v H' st rv'
          | brk δ' => exact False.elim h
          | cont δ' => exact False.elim h
      · exact False.elim h
end PD

set_option Elab.async false
set_option linter.all false
set_option autoImplicit false
set_option maxRecDepth 100000
set_option maxHeartbeats 1000000
/-! PdHead: what is behind the top, by names. -/
namespace PD
open PySem L2 PyProof.Rows
/-- a default as the text has it -/
def dvOk : D → He.Dv → Bool
  | .non, .non => true
  | .bl b, .bl c => b == c
  | .int i, .int j => decide (i = j)
  | .str x, .str y => codesOf y == x && x.all fun c => decide (c < 0x110000)
  | _, _ => false
def dvsOk : List D → List He.Dv → Bool
  | [], [] => true
  | d :: ds, v :: vs => dvOk d v && dvsOk ds vs
  | _, _ => false
theorem dvOk_rv {S : Sta} {K : PySem.W.Frag} {ι : List Addr} {H : Hp} {d : D} {v : He.Dv} (h : dvOk d v = true) : RV S ι H d (v.v K) := by
  cases d <;> cases v <;> first | cases h | skip
  · rfl
  · have e := eq_of_beq (show (_ == _) = true from h)
    subst e
    rfl
  · have e := of_decide_eq_true (show decide (_ = _) = true from h)
    subst e
    rfl
  · obtain ⟨h1, h2⟩ := Bool.and_eq_true_iff.mp h
    have e := eq_of_beq h1
    subst e
    exact ⟨rfl, okT_of h2⟩
theorem dvsOk_rv {S : Sta} {K : PySem.W.Frag} {ι : List Addr} {H : Hp} : ∀ {ds : List D} {vs : List He.Dv}, dvsOk ds vs = true → RVs S ι H ds (vs.map (He.Dv.v K))
  | [], [], _ => rfl
  | [], _ :: _, h => by cases h
  | _ :: _, [], h => by cases h
  | d :: ds, v :: vs, h => by
    obtain ⟨h1, h2⟩ := Bool.and_eq_true_iff.mp (show (dvOk d v && dvsOk ds vs) = true from h)
    exact .cons (dvOk_rv h1) (dvsOk_rv h2)
/-- how a def binds what it is given -/
def BindN (d : He.DefD) (ps : List Str) : Prop := ∀ (kV doc pm : Value) (an : Option Addr) (cdv ct : Value) (us : List Value), us.length = ps.length → bindArgs (PySem.W.fnOf d.name d.qual d.params d.body d.scope .none kV doc pm an cdv ct) ⟨us, []⟩ = pure (ps.zip us)
def BindD (d : He.DefD) (ps : List Str) (n : Nat) : Prop := ∀ (T : Addr) (kV doc pm : Value) (an : Option Addr) (cdv ct : Value) (us its : List Value), us.length = n → its.length = d.dfl.length →
  ∃ k, bindArgs (PySem.W.fnOf d.name d.qual d.params d.body d.scope (.ref T) kV doc pm an cdv ct) ⟨us, []⟩ = seqItems? (.ref T) >>= k ∧ k (some its.toArray) = pure (ps.zip (us ++ its.drop (n + d.dfl.length - ps.length)))
/-- one def of the text, with what is seen of it there -/
structure DI (G : Glo) where
  k : Nat
  lv : Nat
  F : Fn
  d : He.DefD
  N : List Str
  ps : List Str
  sc : FnScope N ps d.scope
  hN : N.length = F.ns
  hps : ps.length = F.np
  chk : chkSs G N ⟨d.scope, fun _ => true⟩ (List.range N.length) F.body d.body = true
  kw : d.kwd = []
  dv : dvsOk F.dfl d.dfl = true
  bd : (d.dfl = [] ∧ BindN d ps) ∨ (d.dfl ≠ [] ∧ ∀ n, n ≤ ps.length → ps.length ≤ n + d.dfl.length → BindD d ps n)
/-- one class: its number, name, methods -/
structure CI' where
  c : Nat
  name : Str
  C : PD.Cls
/-- the law's program, in compact form -/
structure PI' (G : Glo) where
  tab : List (DI G)
  cs : List CI'
  cst : Nat → Option D
  sub : Nat → Nat → Bool
  made : Nat → List D → Option (Option Int)
variable {G : Glo}
def fnd (T : PI' G) (k : Nat) : Option (DI G) := T.tab.find? fun d => d.k == k
def fndC (T : PI' G) (c : Nat) : Option CI' := T.cs.find? fun d => d.c == c
def prgOf (T : PI' G) : Prg where
  fn := fun k => (fnd T k).map (·.F)
  cls := fun c => (fndC T c).map (·.C)
  cst := T.cst
  sub := T.sub
  made := T.made
  lv := fun k => match fnd T k with
    | some d => d.lv
    | none => 0
def plOf (T : PI' G) (k : Nat) : Str × Option Str := match fnd T k with
  | some d => d.d.at_
  | none => (Str.empty, none)
def cnOf (T : PI' G) (c : Nat) : Str := match fndC T c with
  | some d => d.name
  | none => Str.empty
def staOf (T : PI' G) (K : PySem.W.Frag) : Sta where
  K := K
  P := prgOf T
  fA := fun k => He.fAd K (plOf T k)
  cA := fun c => He.ga K (cnOf T c)
  fN := fldN G
  pS := fun k => match fnd T k with
    | some d => d.ps
    | none => []
  XI := fun _ _ _ => False
  XR := fun _ _ _ _ _ => False
/-- the facts that are asked -/
def faOf (T : PI' G) : List He.Fa :=
  (G.tab.map fun p => He.Fa.glo p.1) ++ G.free.map .free ++ T.cs.flatMap fun c => [.cls c.name, .keep c.name] ++ (G.fld.map fun f => He.Fa.noat c.name f) ++ (c.C.meths.map fun m => He.Fa.meth c.name (mthN G m.1)) ++ (match c.C.init with
    | some _ => [.mkr c.name]
    | none => [])
def fnOf' (T : PI' G) : List He.DefD := T.tab.map (·.d)
def nodupB (l : List Str) : Bool := match l with
  | [] => true
  | x :: r => !r.contains x && nodupB r
theorem nodupB_ok : ∀ {l : List Str}, nodupB l = true → l.Nodup
  | [], _ => List.nodup_nil
  | x :: r, h => by
    unfold nodupB at h
    rw [Bool.and_eq_true, Bool.not_eq_true'] at h
    rw [List.nodup_cons]
    refine ⟨fun hm => ?_, nodupB_ok h.2⟩
    have : r.contains x = true := by simpa using hm
    rw [h.1] at this
    cases this
/-- what is looked at by a program: names against numbers -/
def okT (T : PI' G) : Bool :=
  (G.tab.all fun p => match p.2 with
    | .fn k => (fnd T k).isSome && decide (plOf T k = (p.1, none))
    | .cls c => (fndC T c).isSome && decide (cnOf T c = p.1)
    | .cst _ => false) &&
  nodupB G.fld && G.fld.all (fun x => !decide (x = Str.empty)) && (G.mth.all fun m => !G.fld.contains m && !decide (m = Str.empty)) &&
  (T.cs.all fun c => c.C.meths.all (fun m => decide (m.1 < G.mth.length) && decide (plOf T m.2 = (c.name, some (mthN G m.1)))) && (match c.C.init with
    | some g => decide (plOf T g = (c.name, some ("__init__" : Str)))
    | none => true))
theorem lookup_mem {α : Type} {m : Nat} {f : α} : ∀ {l : List (Nat × α)}, l.lookup m = some f → (m, f) ∈ l
  | [], h => by cases h
  | (a, b) :: l, h => by
    rw [List.lookup_cons] at h
    cases e : (m == a) with
    | true =>
      rw [e] at h
      cases h
      rw [eq_of_beq e]
      exact List.mem_cons_self
    | false =>
      rw [e] at h
      exact List.mem_cons_of_mem _ (lookup_mem h)
section
variable {T : PI' G} {K : PySem.W.Frag} {h : Heap} {mg : Str → Option Value}
theorem fact_of (c : He.SaysD (faOf T) (fnOf' T) K) {f : He.Fa} (hf : f ∈ faOf T) : f.ok K = true := by
  have c1 := (He.ba (show (((faOf T).all fun f => f.ok K) && (fnOf' T).all fun d => d.ok K) = true from congrArg (fun z : He.AlD => z.1) c)).1
  exact List.all_eq_true.mp c1 f hf
theorem def_of (c : He.SaysD (faOf T) (fnOf' T) K) {d : DI G} (hd : d ∈ T.tab) : ∃ fd, FunD K d.d.name d.d.qual d.d.params d.d.body d.d.scope (d.d.dvs K) (d.d.kws K) (He.fAd K d.d.at_) fd := by
  obtain ⟨i, hi, e⟩ := List.mem_iff_getElem.mp hd
  exact c.def_ i (d := d.d) (by
    unfold fnOf'
    rw [List.getElem?_map, List.getElem?_eq_getElem hi, e]
    rfl)
theorem fnd_mem {k : Nat} {d : DI G} (e : fnd T k = some d) : d ∈ T.tab ∧ d.k = k := by
  unfold fnd at e
  exact ⟨List.mem_of_find?_eq_some e, by simpa using List.find?_some e⟩
theorem fndC_mem {c : Nat} {d : CI'} (e : fndC T c = some d) : d ∈ T.cs ∧ d.c = c := by
  unfold fndC at e
  exact ⟨List.mem_of_find?_eq_some e, by simpa using List.find?_some e⟩
theorem keep_of (c : He.SaysD (faOf T) (fnOf' T) K) {k : Nat} {F : Fn} (e : (prgOf T).fn k = some F) : PySem.W.keepIn K (.ref ((staOf T K).fA k)) = true := by
  have e' : (fnd T k).map (·.F) = some F := e
  cases e1 : fnd T k with
  | none => rw [e1] at e'; cases e'
  | some d =>
    obtain ⟨fd, hF⟩ := def_of c (fnd_mem e1).1
    have : (staOf T K).fA k = He.fAd K d.d.at_ := by
      show He.fAd K (plOf T k) = _
      unfold plOf
      rw [e1]
    rw [this]
    exact hF.kp
theorem cls_inv {c : Nat} {C : PD.Cls} (e : (prgOf T).cls c = some C) : ∃ d ∈ T.cs, d.C = C ∧ (staOf T K).cA c = He.ga K d.name := by
  have e' : (fndC T c).map (·.C) = some C := e
  cases e1 : fndC T c with
  | none => rw [e1] at e'; cases e'
  | some d =>
    rw [e1] at e'
    cases e'
    refine ⟨d, (fndC_mem e1).1, rfl, ?_⟩
    show He.ga K (cnOf T c) = _
    unfold cnOf
    rw [e1]
theorem fa_cls {d : CI'} (hd : d ∈ T.cs) {f : He.Fa} (hf : f ∈ [.cls d.name, .keep d.name] ++ (G.fld.map fun f => He.Fa.noat d.name f) ++ (d.C.meths.map fun m => He.Fa.meth d.name (mthN G m.1)) ++ (match d.C.init with
    | some _ => [He.Fa.mkr d.name]
    | none => [])) : f ∈ faOf T := List.mem_append_right _ (List.mem_flatMap.mpr ⟨d, hd, hf⟩)
theorem getD_of {l : List Str} {i : Nat} {x : Str} (h : l[i]? = some x) : l.getD i Str.empty = x := by
  rw [List.getD_eq_getElem?_getD, h]
  rfl
theorem modG (ok : okT T = true) (X : K.In h) (Gn : h.Ns mainGlobals mg) (c : He.SaysD (faOf T) (fnOf' T) K) : ModG (staOf T K) G K mg := by
  unfold okT at ok
  simp only [Bool.and_eq_true] at ok
  obtain ⟨⟨⟨⟨o1, o2⟩, o3⟩, o4⟩, o5⟩ := ok
  have glo : ∀ p ∈ G.tab, mg p.1 = some (.ref (He.ga K p.1)) := fun p hp => He.glo_ok X Gn (fact_of c (List.mem_append_left _ (List.mem_append_left _ (List.mem_map.mpr ⟨p, hp, rfl⟩))))
  have nd := nodupB_ok o2
  refine ⟨fun x k hx => ?_, fun x k hx => ?_, fun x k hx => ?_, fun k F hF => keep_of c hF, fun x hx => ?_, fun f x hf => ?_, fun m x f hm => ?_, fun cc C hC => ?_, fun cc C f x hC hf => ?_, fun cc C m x f hC hm hf => ?_⟩
  · have q := List.all_eq_true.mp o1 _ hx
    simp only [Bool.and_eq_true, decide_eq_true_eq] at q
    obtain ⟨q1, q2⟩ := q
    have e : (staOf T K).fA k = He.ga K x := by
      show He.fAd K (plOf T k) = _
      rw [q2]
      rfl
    refine ⟨by rw [e]; exact glo _ hx, ?_⟩
    obtain ⟨d, e1⟩ := Option.isSome_iff_exists.mp q1
    exact keep_of c (F := d.F) (by show (fnd T k).map (·.F) = _; rw [e1]; rfl)
  · have q := List.all_eq_true.mp o1 _ hx
    simp only [Bool.and_eq_true, decide_eq_true_eq] at q
    obtain ⟨q1, q2⟩ := q
    have e : (staOf T K).cA k = He.ga K x := by
      show He.ga K (cnOf T k) = _
      rw [q2]
    obtain ⟨d, e1⟩ := Option.isSome_iff_exists.mp q1
    have hd := (fndC_mem e1).1
    have en : d.name = x := by
      unfold cnOf at q2
      rw [e1] at q2
      exact q2
    refine ⟨by rw [e]; exact glo _ hx, ?_⟩
    rw [e, ← en]
    exact He.keep_ok (fact_of c (fa_cls hd (by simp)))
  · have q := List.all_eq_true.mp o1 _ hx
    cases q
  · exact He.free_ok X Gn (fact_of c (List.mem_append_left _ (List.mem_append_right _ (List.mem_map.mpr ⟨x, hx, rfl⟩))))
  · refine ⟨getD_of hf, fun g hg => ?_⟩
    have hg' : G.fld.getD g Str.empty = x := hg
    have hx := List.all_eq_true.mp o3 x (List.mem_of_getElem? hf)
    cases e : G.fld[g]? with
    | none =>
      rw [List.getD_eq_getElem?_getD, e] at hg'
      rw [← hg'] at hx
      simp at hx
    | some y =>
      rw [getD_of e] at hg'
      subst hg'
      obtain ⟨l1, e1⟩ := List.getElem?_eq_some_iff.mp e
      obtain ⟨l2, e2⟩ := List.getElem?_eq_some_iff.mp hf
      exact (List.getElem_inj nd).mp (e1.trans e2.symm)
  · intro hg
    have hg' : G.fld.getD f Str.empty = x := hg
    have hx := List.all_eq_true.mp o4 x (List.mem_of_getElem? hm)
    simp only [Bool.and_eq_true, Bool.not_eq_true', decide_eq_false_iff_not] at hx
    cases e : G.fld[f]? with
    | none =>
      rw [List.getD_eq_getElem?_getD, e] at hg'
      exact hx.2 hg'.symm
    | some y =>
      rw [getD_of e] at hg'
      subst hg'
      have : G.fld.contains y = true := by simpa using List.mem_of_getElem? e
      rw [hx.1] at this
      cases this
  · obtain ⟨d, hd, rfl, e⟩ := cls_inv (K := K) hC
    rw [e]
    exact He.cls_ok (fact_of c (fa_cls hd (by simp)))
  · obtain ⟨d, hd, rfl, e⟩ := cls_inv (K := K) hC
    rw [e]
    exact He.noat_ok (fact_of c (fa_cls hd (List.mem_append_left _ (List.mem_append_left _ (List.mem_append_right _ (List.mem_map.mpr ⟨x, List.mem_of_getElem? hf, rfl⟩))))))
  · obtain ⟨d, hd, rfl, e⟩ := cls_inv (K := K) hC
    have hmem : (m, f) ∈ d.C.meths := lookup_mem hf
    have q := List.all_eq_true.mp o5 d hd
    simp only [Bool.and_eq_true] at q
    have q2 := List.all_eq_true.mp q.1 _ hmem
    simp only [Bool.and_eq_true, decide_eq_true_eq] at q2
    have en : mthN G m = x := getD_of hm
    have ef : (staOf T K).fA f = He.ma K (He.ga K d.name) x := by
      show He.fAd K (plOf T f) = _
      rw [q2.2, en]
      rfl
    rw [e, ef]
    exact He.meth_ok (fact_of c (fa_cls hd (List.mem_append_left _ (List.mem_append_right _ (List.mem_map.mpr ⟨(m, f), hmem, by rw [en]⟩)))))
theorem mkG (ok : okT T = true) (c : He.SaysD (faOf T) (fnOf' T) K) : MkG K (staOf T K) := by
  unfold okT at ok
  simp only [Bool.and_eq_true] at ok
  obtain ⟨_, o5⟩ := ok
  intro cc C g hC hg
  obtain ⟨d, hd, rfl, e⟩ := cls_inv (K := K) hC
  have q := List.all_eq_true.mp o5 d hd
  simp only [Bool.and_eq_true] at q
  have q2 := q.2
  rw [hg] at q2
  have ef : (staOf T K).fA g = He.ma K (He.ga K d.name) "__init__" := by
    show He.fAd K (plOf T g) = _
    rw [of_decide_eq_true q2]
    rfl
  rw [e, ef]
  exact He.mkr_ok (fact_of c (fa_cls hd (by rw [hg]; simp)))
theorem defG (c : He.SaysD (faOf T) (fnOf' T) K) : ∀ f F, (staOf T K).P.fn f = some F → DefOk (staOf T K) G K f F := by
  intro f F hF
  have e' : (fnd T f).map (·.F) = some F := hF
  cases e1 : fnd T f with
  | none => rw [e1] at e'; cases e'
  | some d =>
    rw [e1] at e'
    cases e'
    obtain ⟨fd, FD⟩ := def_of c (fnd_mem e1).1
    have ea : (staOf T K).fA f = He.fAd K d.d.at_ := by
      show He.fAd K (plOf T f) = _
      unfold plOf
      rw [e1]
    have ek : d.d.kws K = [] := by
      unfold He.DefD.kws
      rw [d.kw]
      rfl
    rw [ek, ← ea] at FD
    have len : ∀ {ds : List D} {vs : List He.Dv}, dvsOk ds vs = true → ds.length = vs.length := by
      intro ds
      induction ds with
      | nil => intro vs hh; cases vs with
        | nil => rfl
        | cons _ _ => cases hh
      | cons a as ih => intro vs hh; cases vs with
        | nil => cases hh
        | cons b bs => rw [List.length_cons, List.length_cons, ih (Bool.and_eq_true_iff.mp (show (dvOk a b && dvsOk as bs) = true from hh)).2]
    have hl : d.F.dfl.length = d.d.dfl.length := len d.dv
    refine ⟨_, _, _, _, _, d.N, d.ps, d.d.dvs K, fd, FD, d.sc, d.hN, ⟨d.hps, by show d.ps = (match fnd T f with | some d => d.ps | none => []); rw [e1]⟩, d.chk, fun ι H => dvsOk_rv d.dv, fun n h1 h2 => ?_⟩
    rw [← d.hps] at h1 h2 ⊢
    have hdl : (d.d.dvs K).length = d.d.dfl.length := by unfold He.DefD.dvs; simp
    rcases d.bd with ⟨e0, b⟩ | ⟨e0, b⟩
    · have e2 : d.d.dvs K = [] := by
        unfold He.DefD.dvs
        rw [e0]
        rfl
      rw [e2] at FD ⊢
      refine ⟨[], by rw [List.drop_nil]; exact .nil, FD.bindsN b⟩
    · have h2' : d.ps.length ≤ n + d.F.dfl.length := h2
      have q := FD.binds1 (ps := d.ps) n (n + d.F.dfl.length - d.ps.length) (fun z => e0 (List.eq_nil_of_length_eq_zero (by rw [← hdl, z]; rfl))) (by
        rw [hdl, hl]
        omega) (fun T kV doc pm an cdv ct us its hu hi => by
          have := b n h1 (by omega) T kV doc pm an cdv ct us its hu (by rw [hi, hdl])
          rw [hl]
          exact this)
      exact q
/-- all defs keep their promises -/
theorem all_ok {P : Program} {w : World} {base : Heap} (ok : okT T = true) (X : K.In h) (Gn : h.Ns mainGlobals mg) (c : He.SaysD (faOf T) (fnOf' T) K) : ∀ f, FnG P w K mg base (staOf T K) f := fn_all rfl (modG ok X Gn c) (mkG ok c) (defG c)
end
/-- a law's end -/
theorem walkB {l : PySem.W.OpenLaw} {n k : Nat} {q : Program} {loose : List Str} {XP : (Str → Option Value) → Heap → Prop} {YP : World → Heap → Prop} {d : DefRec} {x : Str}
    (hn : l.most = some n) (hn2 : n ≤ sizeLine) (hdf : d.params.defaults = []) (hr : Room k callerA)
    (F : ∀ (w : World) (mg : Str → Option Value) (fa : Addr) (h : Heap), YP w h → h.Ns mainGlobals mg → mg d.name = some (.ref fa) →
      ∃ (K : PySem.W.Frag) (fd : FuncData) (sp : Sp), K.In h ∧ (∀ (s : Shared) (u : Value), BindsTo s fd ⟨[u], []⟩ [(x, u)]) ∧
        (∀ (H : Hp) (a : Addr) (ns : List Int), ns.length ≤ n → (∀ k ∈ ns, Builtin.Int.intBits k ≤ 1048576) → Only H → SqL K H a (ns.map V.int) → sp [.ref a] H (fun v _ => v = .bl true) fun _ _ _ => False) ∧
        ∀ base : Heap, K.In base → base.Ns mainGlobals mg → FnOk l.prog w K mg base (L2.CX l.prog w) k fa fd [x] sp) :
    PySem.W.WalkO q loose XP YP l.row.toRowW d [] (fun f vs => PySem.call f vs) := by
  refine Att.attach_callB hn hdf fun w s₀ s₁ mg mb fa o pm cd doc a vs ns G Y ho hd hcd hmg hobj hints hlen hbits hg => ?_
  obtain ⟨K, fd, sp, KX, hb, hsp, hF⟩ := F w mg fa _ Y G.T.g hmg
  exact law_call KX G.T.g G.T.b G.T.builtins G.T.nolimit hg hobj hints (Nat.le_trans hlen hn2) hr hF hb (fun H hO hS => hsp H a ns hlen hbits hO hS) fun H e s' ⟨_, _, _, _, _, _, _, _, _, _, _, _, z⟩ => z
/-- from the evaluator's word to the promise -/
theorem law_sp {T : PI' G} {K : PySem.W.Frag} {f : Nat} {H : Hp} {a : Addr} {ns : List Int} (hO : Only H) (hS : SqL K H a (ns.map V.int)) (h : ∃ M, runF (prgOf T) f [.fro ns] [] = .ok (.bl true) M) :
    spF (staOf T K) f [.ref a] H (fun v _ => v = .bl true) fun _ _ _ => False := by
  obtain ⟨M, e⟩ := h
  refine ⟨[], [], [.fro ns], ⟨rfl, List.nodup_nil, fun n o a h1 _ => by simp at h1⟩, .one ⟨a, rfl, ?_⟩, ?_⟩
  · rcases hS with (h1 | ⟨o, h1⟩) | h1
    · rcases hO a with h2 | ⟨o, xs, h2⟩ <;> rw [h2] at h1 <;> cases h1
    · exact .inl ⟨o, h1⟩
    · exact .inr fun H' => .inr h1
  · rw [show (staOf T K).P = prgOf T from rfl, e]
    exact fun ι' v H' st rv => rv
/-- the law's end, all put together -/
theorem law_end {l : PySem.W.OpenLaw} {T : PI' G} {n : Nat} {q : Program} {loose : List Str} {XP : (Str → Option Value) → Heap → Prop} {YP : World → Heap → Prop} {d : DefRec} {f : Nat} {di : DI G} (x : Str)
    (hn : l.most = some n) (hn2 : n ≤ sizeLine) (hdf : d.params.defaults = []) (hr : Room (2 * (prgOf T).lv f + 2) callerA) (ok : okT T = true) (hY : ∀ w h, YP w h → ∃ K : PySem.W.Frag, K.In h ∧ He.SaysD (faOf T) (fnOf' T) K)
    (hname : (d.name, GV.fn f) ∈ G.tab) (hdi : di ∈ T.tab) (hfd : fnd T f = some di) (hps : di.ps = [x]) (hdfl : di.d.dfl = [])
    (hev : ∀ ns : List Int, ns.length ≤ n → (∀ k ∈ ns, Builtin.Int.intBits k ≤ 1048576) → ∃ M, runF (prgOf T) f [.fro ns] [] = .ok (.bl true) M) :
    PySem.W.WalkO q loose XP YP l.row.toRowW d [] (fun f vs => PySem.call f vs) := by
  refine walkB (x := x) hn hn2 hdf hr fun w mg fa h Y Gn hmg => ?_
  obtain ⟨K, KX, c⟩ := hY w h Y
  have hm := ((modG ok KX Gn c).fn d.name f hname).1
  rw [hmg] at hm
  cases hm
  have hF : (prgOf T).fn f = some di.F := by
    show (fnd T f).map (·.F) = _
    rw [hfd]
    rfl
  obtain ⟨fd, FD⟩ := def_of c hdi
  have ea : (staOf T K).fA f = He.fAd K di.d.at_ := by
    show He.fAd K (plOf T f) = _
    unfold plOf
    rw [hfd]
  have ed : di.d.dvs K = [] := by
    unfold He.DefD.dvs
    rw [hdfl]
    rfl
  have ek : di.d.kws K = [] := by
    unfold He.DefD.kws
    rw [di.kw]
    rfl
  rw [ed, ek, ← ea] at FD
  have bn : BindN di.d di.ps := by
    rcases di.bd with ⟨_, b⟩ | ⟨e0, _⟩
    · exact b
    · exact absurd hdfl e0
  have hb := FD.bindsA bn
  refine ⟨K, fd, spF (staOf T K) f, KX, fun s u => ?_, fun H a ns h1 h2 hO hS => law_sp hO hS (hev ns h1 h2), fun base hKb hNb => ?_⟩
  · have := hb s [u] (by rw [hps]; rfl)
    rw [hps] at this
    exact this
  · obtain ⟨fd', ps, dvs, ⟨hl, hpS⟩, ⟨oc, od, osl, lk⟩, FO, _⟩ := all_ok (P := l.prog) (w := w) (base := base) ok hKb hNb c f di.F hF
    obtain ⟨oc2, od2, dV, kV, doc, pm, an, cdv, ct, osl2, rfl, lk2, _⟩ := FD.ex
    rw [lk2] at lk
    cases lk
    have e2 : ps = [x] := by
      rw [hpS]
      show (match fnd T f with | some d => d.ps | none => []) = _
      rw [hfd]
      exact hps
    rw [e2] at FO
    exact FO
end PD

set_option Elab.async false
set_option linter.all false
set_option autoImplicit false
set_option maxRecDepth 100000
set_option maxHeartbeats 1000000
/-! PdLaw: the evaluator's ways, for the plain laws. -/
namespace PD
open PySem
theorem bind_ok' {α β : Type} (a : α) (M : Mem) (f : α → Mem → Rs β) : (Rs.ok a M).bind f = f a M := rfl
theorem bindN_ok' {α β : Type} (a : α) (M : Mem) (f : α → Mem → Rs β) : (Rs.ok a M).bindN f = f a M := rfl
theorem bind_exc' {α β : Type} (c : Nat) (k : Option Int) (M : Mem) (f : α → Mem → Rs β) : (Rs.exc c k M).bind f = .exc c k M := rfl
theorem runF_of {P : Prg} {f : Nat} {F : Fn} (h : P.fn f = some F) (ds : List D) (M : Mem) : runF P f ds M = runB P (clF P f) F ds M := by
  rw [runF_eq, h]
theorem cl_of {P : Prg} {f g : Nat} {ds : List D} {M : Mem} (h1 : g < f) (h2 : P.lv g < P.lv f) : clF P f g ds M = callIn (runF P g) ds M := by
  unfold clF
  rw [if_pos h1, if_pos h2]
theorem mul_ok (i j : Int) (h : i.natAbs < 2 ^ 63) : mulOk i j = true := by
  unfold mulOk
  simp [h]
theorem mul_okR (i j : Int) (h : j.natAbs < 2 ^ 63) : mulOk i j = true := by
  unfold mulOk
  simp [h]
/-! ### numbers told anew as they are -/
mutual
theorem D.ren_id {f : Nat → Nat} : ∀ (d : D), (∀ n ∈ d.refs, f n = n) → d.ren f = d
  | .non, _ => rfl
  | .bl _, _ => rfl
  | .int _, _ => rfl
  | .str _, _ => rfl
  | .fn _, _ => rfl
  | .exc _ _, _ => rfl
  | .fro _, _ => rfl
  | .ref n, h => congrArg D.ref (h n (by simp [D.refs]))
  | .tup ds, h => congrArg D.tup (D.rens_id ds h)
theorem D.rens_id {f : Nat → Nat} : ∀ (ds : List D), (∀ n ∈ D.refss ds, f n = n) → D.rens f ds = ds
  | [], _ => rfl
  | d :: ds, h => by
    show d.ren f :: D.rens f ds = _
    rw [D.ren_id d fun n hn => h n (List.mem_append_left _ hn), D.rens_id ds fun n hn => h n (List.mem_append_right _ hn)]
end
theorem pairs_id {f : Nat → Nat} : ∀ (l : List (D × D)), (∀ n ∈ D.refss (l.map (·.1)), f n = n) → (∀ n ∈ D.refss (l.map (·.2)), f n = n) → (l.map fun p => (D.ren f p.1, D.ren f p.2)) = l
  | [], _, _ => rfl
  | (a, b) :: l, h1, h2 => by
    rw [List.map_cons, pairs_id l (fun n hn => h1 n (List.mem_append_right _ hn)) (fun n hn => h2 n (List.mem_append_right _ hn)), D.ren_id a fun n hn => h1 n (List.mem_append_left _ hn), D.ren_id b fun n hn => h2 n (List.mem_append_left _ hn)]
theorem flds_id {f : Nat → Nat} : ∀ (l : List (Nat × D)), (∀ n ∈ D.refss (l.map (·.2)), f n = n) → (l.map fun p => (p.1, D.ren f p.2)) = l
  | [], _ => rfl
  | (a, b) :: l, h2 => by
    rw [List.map_cons, flds_id l (fun n hn => h2 n (List.mem_append_right _ hn)), D.ren_id b fun n hn => h2 n (List.mem_append_left _ hn)]
theorem MO.ren_id {f : Nat → Nat} (o : MO) (h : ∀ n ∈ o.refs, f n = n) : o.ren f = o := by
  cases o with
  | lst ds => exact congrArg MO.lst (D.rens_id ds h)
  | dct t kvs =>
    have h' : ∀ n ∈ D.refss (kvs.map (·.1) ++ kvs.map (·.2)), f n = n := h
    rw [refss_append] at h'
    exact congrArg (MO.dct t) (pairs_id kvs (fun n hn => h' n (List.mem_append_left _ hn)) (fun n hn => h' n (List.mem_append_right _ hn)))
  | ins c fs => exact congrArg (MO.ins c) (flds_id fs h)
theorem Mem.ren_id {f : Nat → Nat} : ∀ (M : Mem), (∀ n ∈ Mem.refs M, f n = n) → M.map (MO.ren f) = M
  | [], _ => rfl
  | o :: M, h => by
    have h' : ∀ n ∈ o.refs ++ Mem.refs M, f n = n := h
    rw [List.map_cons, Mem.ren_id M fun n hn => h' n (List.mem_append_right _ hn), MO.ren_id o fun n hn => h' n (List.mem_append_left _ hn)]
theorem Sg.ren_id {f : Nat → Nat} : ∀ (σ : Sg), (∀ n ∈ σ.refs, f n = n) → σ.ren f = σ
  | [], _ => rfl
  | none :: σ, h => by
    show none :: Sg.ren f σ = _
    rw [Sg.ren_id σ h]
  | some d :: σ, h => by
    have h' : ∀ n ∈ d.refs ++ Sg.refs σ, f n = n := h
    show some (d.ren f) :: Sg.ren f σ = _
    rw [Sg.ren_id σ fun n hn => h' n (List.mem_append_right _ hn), D.ren_id d fun n hn => h' n (List.mem_append_left _ hn)]
/-! ### the walk where all is below -/
theorem reach_low {M : Mem} {m : Nat} : ∀ (k : Nat) (w acc : List Nat), (∀ n ∈ w, n < m) → reach M m k w acc = acc
  | 0, w, acc, _ => by unfold reach; rfl
  | k + 1, [], acc, _ => by unfold reach; rfl
  | k + 1, n :: w, acc, h => by
    unfold reach
    rw [if_pos (Or.inl (h n List.mem_cons_self))]
    exact reach_low k w acc fun j hj => h j (List.mem_cons_of_mem _ hj)
theorem gc_low {m : Nat} {roots : List Nat} {M : Mem} (h1 : ∀ n ∈ roots, n < m) (h2 : ∀ n ∈ Mem.refs (M.take m), n < m) : gc m roots M = some [] := by
  have e : kept m roots M = [] := by
    unfold kept
    refine reach_low _ _ _ fun n hn => ?_
    rcases List.mem_append.mp hn with z | z
    · exact h1 n z
    · exact h2 n z
  unfold gc
  simp only [e]
  have c : closed m [] roots (M.take m ++ pickM M []) = true := by
    unfold closed pickM
    rw [List.map_nil, List.append_nil]
    refine List.all_eq_true.mpr fun n hn => ?_
    rcases List.mem_append.mp hn with z | z
    · simp [h1 n z]
    · simp [h2 n z]
  rw [c]
  rfl
theorem gcMem_low {m : Nat} {M : Mem} (h2 : ∀ n ∈ Mem.refs (M.take m), n < m) : gcMem m [] M = M.take m := by
  unfold gcMem pickM
  rw [List.map_nil, List.append_nil]
  refine Mem.ren_id _ fun n hn => ?_
  unfold renum
  rw [if_pos (h2 n hn)]
/-- behind a turn: what was made in it goes -/
theorem gcSt_low {m : Nat} {σ : Sg} {M : Mem} (h1 : ∀ n ∈ σ.refs, n < m) (h2 : ∀ n ∈ Mem.refs (M.take m), n < m) : gcSt m σ M = (σ, M.take m) := by
  unfold gcSt
  rw [gc_low h1 h2]
  show (Sg.ren (renum m []) σ, gcMem m [] M) = _
  rw [gcMem_low h2, Sg.ren_id σ fun n hn => by unfold renum; rw [if_pos (h1 n hn)]]
/-! ### data that names nothing -/
theorem refss_map {α : Type} {f : α → D} (h : ∀ a, (f a).refs = []) : ∀ l : List α, D.refss (l.map f) = []
  | [] => rfl
  | a :: l => by
    show (f a).refs ++ D.refss (l.map f) = []
    rw [h a, refss_map h l]
    rfl
theorem rens_map {α : Type} {f : α → D} (h : ∀ a, (f a).refs = []) (g : Nat → Nat) (l : List α) : D.rens g (l.map f) = l.map f := D.rens_id _ fun n hn => by
  rw [refss_map h l] at hn
  cases hn
/-! ### a for's turns -/
section
variable {tg : D → Sg → Mem → Rs Sg} {tb : Sg → Mem → Rs Fl} {gd : Option (Nat × List D)} {m : Nat} {x : D} {xs : List D} {σ σ1 σ2 : Sg} {M M1 M2 : Mem}
theorem forL_nil (h : guardOk gd M = true) : forL tg tb gd m [] σ M = .ok (.next σ) M := by
  unfold forL
  rw [if_pos h]
theorem forL_next (h : guardOk gd M = true) (h1 : tg x σ M = .ok σ1 M1) (h2 : tb σ1 M1 = .ok (.next σ2) M2) : forL tg tb gd m (x :: xs) σ M = forL tg tb gd m xs (gcSt m σ2 M2).1 (gcSt m σ2 M2).2 := by
  rw [forL, if_pos h, h1, bindN_ok', h2, bind_ok']
theorem forL_cont (h : guardOk gd M = true) (h1 : tg x σ M = .ok σ1 M1) (h2 : tb σ1 M1 = .ok (.cont σ2) M2) : forL tg tb gd m (x :: xs) σ M = forL tg tb gd m xs (gcSt m σ2 M2).1 (gcSt m σ2 M2).2 := by
  rw [forL, if_pos h, h1, bindN_ok', h2, bind_ok']
theorem forL_ret {d : D} (h : guardOk gd M = true) (h1 : tg x σ M = .ok σ1 M1) (h2 : tb σ1 M1 = .ok (.ret d) M2) : forL tg tb gd m (x :: xs) σ M = .ok (.ret d) M2 := by
  rw [forL, if_pos h, h1, bindN_ok', h2, bind_ok']
theorem forL_brk (h : guardOk gd M = true) (h1 : tg x σ M = .ok σ1 M1) (h2 : tb σ1 M1 = .ok (.brk σ2) M2) : forL tg tb gd m (x :: xs) σ M = .ok (.next σ2) M2 := by
  rw [forL, if_pos h, h1, bindN_ok', h2, bind_ok']
theorem forL_exc {c : Nat} {k : Option Int} (h : guardOk gd M = true) (h1 : tg x σ M = .ok σ1 M1) (h2 : tb σ1 M1 = .exc c k M2) : forL tg tb gd m (x :: xs) σ M = .exc c k M2 := by
  rw [forL, if_pos h, h1, bindN_ok', h2, bind_exc']
end
theorem guard_none (M : Mem) : guardOk none M = true := rfl
theorem eqO_str (M : Mem) (x y : PD.T) : eqO M (.str x) (.str y) = some (decide (x = y)) := by simp [eqO, D.clean]
theorem eqO_int (M : Mem) (x y : Int) : eqO M (.int x) (.int y) = some (decide (x = y)) := by simp [eqO, D.clean]
theorem for_ev {P : Prg} {cl : Nat → List D → Mem → Rs D} {g : CG} {src : CI} {body : CSs} {σ : Sg} {M M1 : Mem} {is : List D} {gd : Option (Nat × List D)} (h : evI P cl src σ M = .ok (is, gd) M1) : evS P cl (.for g src body) σ M = forL (asG P cl g) (evSs P cl body) gd M1.length is σ M1 := by
  rw [evS, h, bind_ok']
/-! ### a call's part of the memory -/
theorem callIn_ok {run : List D → Mem → Rs D} {ds : List D} {M L : Mem} {sel acc : List Nat} {d : D} (h1 : gc 0 (D.refss ds) M = some sel) (h2 : run (D.rens (renum 0 sel) ds) (gcMem 0 sel M) = .ok d L) (h3 : gc sel.length d.refs L = some acc) :
    callIn run ds M = .ok ((d.ren (renum sel.length acc)).ren (unloc sel.length M.length sel)) (back sel M (gcMem sel.length acc L)) := by
  unfold callIn
  rw [h1]
  simp only [h2, h3]
/-- what is named, each once, where the objects name nothing -/
def onceL : List Nat → List Nat → List Nat
  | acc, [] => acc
  | acc, n :: w => if n ∈ acc then onceL acc w else onceL (acc ++ [n]) w
/-- objects that name nothing -/
def FlatAt (M : Mem) (n : Nat) : Prop := ∃ o, M[n]? = some o ∧ o.refs = []
theorem reach_flat {M : Mem} : ∀ (w acc : List Nat) (k : Nat), w.length < k → (∀ n ∈ w, FlatAt M n) → reach M 0 k w acc = onceL acc w
  | [], acc, k, hk, _ => by
    cases k with
    | zero => cases hk
    | succ k => unfold reach; rfl
  | n :: w, acc, k, hk, h => by
    cases k with
    | zero => cases hk
    | succ k =>
      have hk' : w.length < k := by simpa using hk
      have hw : ∀ j ∈ w, FlatAt M j := fun j hj => h j (List.mem_cons_of_mem _ hj)
      unfold reach onceL
      by_cases hn : n ∈ acc
      · rw [if_pos (Or.inr hn), if_pos hn]
        exact reach_flat w acc k hk' hw
      · rw [if_neg (by simp [hn]), if_neg hn]
        obtain ⟨o, e1, e2⟩ := h n List.mem_cons_self
        rw [e1]
        simp only [e2, List.nil_append]
        exact reach_flat w _ k hk' hw
theorem onceL_mem {n : Nat} : ∀ (w acc : List Nat), n ∈ onceL acc w ↔ n ∈ acc ∨ n ∈ w
  | [], acc => by simp [onceL]
  | j :: w, acc => by
    unfold onceL
    split
    · rename_i h
      rw [onceL_mem w acc]
      constructor
      · rintro (z | z)
        · exact .inl z
        · exact .inr (List.mem_cons_of_mem _ z)
      · rintro (z | z)
        · exact .inl z
        · rcases List.mem_cons.mp z with e | z
          · exact .inl (by rw [e]; exact h)
          · exact .inr z
    · rw [onceL_mem w _]
      simp [or_assoc]
theorem gc_flat {roots : List Nat} {M : Mem} (hl : roots.length < 1000) (h : ∀ n ∈ roots, FlatAt M n) : gc 0 roots M = some (onceL [] roots) := by
  have e : kept 0 roots M = onceL [] roots := by
    unfold kept
    have : roots ++ Mem.refs (M.take 0) = roots := by simp [Mem.refs]
    rw [this]
    exact reach_flat roots [] 1000 hl h
  unfold gc
  simp only [e]
  have mem : ∀ n, n ∈ onceL [] roots ↔ n ∈ roots := fun n => by rw [onceL_mem]; simp
  have c : closed 0 (onceL [] roots) roots (M.take 0 ++ pickM M (onceL [] roots)) = true := by
    unfold closed
    refine List.all_eq_true.mpr fun n hn => ?_
    rcases List.mem_append.mp hn with z | z
    · simp [(mem n).mpr z]
    · exfalso
      rw [List.take_zero, List.nil_append] at z
      obtain ⟨o, ho, hr⟩ := List.mem_flatMap.mp z
      unfold pickM at ho
      obtain ⟨j, hj, e2⟩ := List.mem_map.mp ho
      obtain ⟨o', e3, e4⟩ := h j ((mem j).mp hj)
      rw [e3] at e2
      have : o' = o := e2
      rw [← this, e4] at hr
      cases hr
  have b : (onceL [] roots).all (fun n => decide (n < M.length)) = true := List.all_eq_true.mpr fun n hn => by
    obtain ⟨o, e1, _⟩ := h n ((mem n).mp hn)
    exact decide_eq_true (List.getElem?_eq_some_iff.mp e1).1
  rw [c, b]
  rfl
theorem refs_flat : ∀ {L : Mem}, (∀ o ∈ L, o.refs = []) → Mem.refs L = []
  | [], _ => rfl
  | o :: L, h => by
    show o.refs ++ Mem.refs L = []
    rw [h o List.mem_cons_self, refs_flat fun p hp => h p (List.mem_cons_of_mem _ hp)]
    rfl
theorem map_flat {f : Nat → Nat} {L : Mem} (h : ∀ o ∈ L, o.refs = []) : L.map (MO.ren f) = L := Mem.ren_id L fun n hn => by
  rw [refs_flat h] at hn
  cases hn
theorem pick_flat {M : Mem} {sel : List Nat} (h : ∀ n ∈ sel, FlatAt M n) : ∀ o ∈ pickM M sel, o.refs = [] := fun o ho => by
  unfold pickM at ho
  obtain ⟨j, hj, e⟩ := List.mem_map.mp ho
  obtain ⟨o', e1, e2⟩ := h j hj
  rw [e1] at e
  have : o' = o := e
  rw [← this]
  exact e2
theorem gcMem_flat {M : Mem} {sel : List Nat} (h : ∀ n ∈ sel, FlatAt M n) : gcMem 0 sel M = pickM M sel := by
  unfold gcMem
  rw [List.take_zero, List.nil_append]
  exact map_flat (pick_flat h)
/-- a call whose arguments reach objects that name nothing, and that gives no object (what it made goes) -/
theorem callIn_flat {run : List D → Mem → Rs D} {ds : List D} {M L J : Mem} {sel : List Nat} {d : D} (hs : onceL [] (D.refss ds) = sel) (hl : (D.refss ds).length < 1000) (hf : ∀ n ∈ sel, FlatAt M n)
    (hr : run (D.rens (renum 0 sel) ds) (pickM M sel) = .ok d J) (hJ : J.take sel.length = L) (hfL : ∀ o ∈ L, o.refs = []) (hd : d.refs = []) (hL : L.length = sel.length) : callIn run ds M = .ok d (writeAll sel L M) := by
  have mem : ∀ n, n ∈ sel ↔ n ∈ D.refss ds := fun n => by rw [← hs, onceL_mem]; simp
  have h1 : gc 0 (D.refss ds) M = some sel := by rw [gc_flat hl fun n hn => hf n ((mem n).mpr hn), hs]
  have hm := gcMem_flat hf
  have low : ∀ n ∈ Mem.refs (J.take sel.length), n < sel.length := fun n hn => by rw [hJ, refs_flat hfL] at hn; cases hn
  have h3 : gc sel.length d.refs J = some [] := gc_low (fun n hn => by rw [hd] at hn; cases hn) low
  rw [callIn_ok h1 (by rw [hm]; exact hr) h3, gcMem_low low, hJ]
  have e1 : (d.ren (renum sel.length [])).ren (unloc sel.length M.length sel) = d := by
    have q : ∀ f : Nat → Nat, d.ren f = d := fun f => D.ren_id d fun n hn => (by rw [hd] at hn; cases hn)
    rw [q, q]
  rw [e1]
  unfold back
  rw [List.take_of_length_le (by omega), List.drop_of_length_le (by omega), map_flat hfL, List.map_nil, List.append_nil]
/-- .. and that makes one, and gives it -/
theorem callIn_new {run : List D → Mem → Rs D} {ds : List D} {M L : Mem} {sel : List Nat} {o : MO} (hs : onceL [] (D.refss ds) = sel) (hl : (D.refss ds).length < 1000) (hf : ∀ n ∈ sel, FlatAt M n)
    (hr : run (D.rens (renum 0 sel) ds) (pickM M sel) = .ok (.ref sel.length) (L ++ [o])) (hL : L.length = sel.length) (hfL : ∀ o ∈ L, o.refs = []) (ho : o.refs = []) : callIn run ds M = .ok (.ref M.length) (writeAll sel L M ++ [o]) := by
  have mem : ∀ n, n ∈ sel ↔ n ∈ D.refss ds := fun n => by rw [← hs, onceL_mem]; simp
  have h1 : gc 0 (D.refss ds) M = some sel := by rw [gc_flat hl fun n hn => hf n ((mem n).mpr hn), hs]
  have hm := gcMem_flat hf
  have tk : (L ++ [o]).take sel.length = L := by rw [← hL]; simp
  have at1 : (L ++ [o])[sel.length]? = some o := by rw [← hL]; simp
  have h3 : gc sel.length (D.ref sel.length).refs (L ++ [o]) = some [sel.length] := by
    have e : kept sel.length [sel.length] (L ++ [o]) = [sel.length] := by
      unfold kept
      rw [tk, refs_flat hfL, List.append_nil]
      rw [reach, if_neg (by simp), at1]
      simp only [ho, List.nil_append]
      unfold reach
      rfl
    show gc sel.length [sel.length] (L ++ [o]) = _
    unfold gc
    simp only [e]
    have c : closed sel.length [sel.length] [sel.length] ((L ++ [o]).take sel.length ++ pickM (L ++ [o]) [sel.length]) = true := by
      have : Mem.refs ((L ++ [o]).take sel.length ++ pickM (L ++ [o]) [sel.length]) = [] := refs_flat fun p hp => by
        rcases List.mem_append.mp hp with z | z
        · rw [tk] at z
          exact hfL p z
        · unfold pickM at z
          simp only [List.map_cons, List.map_nil, at1, Option.getD_some, List.mem_singleton] at z
          rw [z]
          exact ho
      unfold closed
      rw [this]
      simp
    rw [c]
    simp [hL]
  rw [callIn_ok h1 (by rw [hm]; exact hr) h3]
  have g : gcMem sel.length [sel.length] (L ++ [o]) = L ++ [o] := by
    unfold gcMem pickM
    rw [tk]
    simp only [List.map_cons, List.map_nil, at1, Option.getD_some]
    exact map_flat fun p hp => by
      rcases List.mem_append.mp hp with z | z
      · exact hfL p z
      · rw [List.mem_singleton] at z
        rw [z]
        exact ho
  rw [g]
  have e1 : ((D.ref sel.length).ren (renum sel.length [sel.length])).ren (unloc sel.length M.length sel) = .ref M.length := by
    show D.ref (unloc sel.length M.length sel (renum sel.length [sel.length] sel.length)) = _
    unfold renum unloc
    simp
  rw [e1]
  unfold back
  rw [tk, map_flat hfL]
  have : (L ++ [o]).drop sel.length = [o] := by rw [← hL]; simp
  rw [this]
  have e2 : [o].map (MO.ren (unloc sel.length M.length sel)) = [o] := map_flat fun p hp => by
    rw [List.mem_singleton] at hp
    rw [hp]
    exact ho
  rw [e2]
/-! ### lists of plain data are the same where their items are -/
theorem viewF_lst {M : Mem} {i : Nat} {xs : List D} (h : M[i]? = some (.lst xs)) (c : D.cleans xs 7 = true) : viewF M (.ref i) = some (.list (D.pys xs)) := by
  have c8 : D.clean (.tup xs) 8 = true := c
  have e : view M 8 (.ref i) = some (.list (D.pys xs)) := by
    show (match M[i]? with | some (.lst ds) => (viewDs (fun m => view M 7 (.ref m)) ds).map PyData.list | _ => none) = _
    rw [h]
    have hv2 := viewD_clean (fun m => view M 7 (.ref m)) (.tup xs) 8 c8
    have hv3 : (viewDs (fun m => view M 7 (.ref m)) xs).map PyData.tuple = some (.tuple (D.pys xs)) := hv2
    cases e2 : viewDs (fun m => view M 7 (.ref m)) xs with
    | none => rw [e2] at hv3; cases hv3
    | some ps =>
      rw [e2] at hv3
      cases hv3
      show Option.map PyData.list (viewDs (fun m => view M 7 (.ref m)) xs) = _
      rw [e2]
      rfl
  have d := depth_clean (.tup xs) 8 c8
  have d' : (PyData.list (D.pys xs)).depth ≤ 64 := by
    have : (PyData.tuple (D.pys xs)).depth ≤ 8 := d
    have e3 : (PyData.list (D.pys xs)).depth = (PyData.tuple (D.pys xs)).depth := rfl
    omega
  unfold viewF
  rw [if_neg (by simp [D.clean]), e]
  simp only
  rw [if_pos d']
theorem eqO_lst {M : Mem} {i j : Nat} {xs ys : List D} (hi : M[i]? = some (.lst xs)) (hj : M[j]? = some (.lst ys)) (cx : D.cleans xs 7 = true) (cy : D.cleans ys 7 = true) : eqO M (.ref i) (.ref j) = some (decide (xs = ys)) := by
  unfold eqO
  rw [if_neg (by simp [D.clean]), viewF_lst hi cx, viewF_lst hj cy]
  show some (PyData.eqvAll (D.pys xs) (D.pys ys)) = _
  rw [eqvs_clean xs ys 7 7 cx cy]
theorem cleans_map {α : Type} {f : α → D} {k : Nat} (h : ∀ a, D.clean (f a) k = true) : ∀ l : List α, D.cleans (l.map f) k = true
  | [] => rfl
  | a :: l => by
    rw [List.map_cons]
    show (D.clean (f a) k && D.cleans (l.map f) k) = true
    rw [h a, cleans_map h l]
    rfl
theorem eqO_clean {M : Mem} {x y : D} (hx : D.clean x 20 = true) (hy : D.clean y 20 = true) : eqO M x y = some (decide (x = y)) := by
  unfold eqO
  rw [hx, hy]
  rfl
/-! ### a comprehension whose turns leave the memory as it is -/
theorem compL_map {tg : D → Sg → Mem → Rs Sg} {tt : Sg → Mem → Rs Bool} {te : Sg → Mem → Rs D} {gd : Option (Nat × List D)} {σ : Sg} {n : Nat} {v : D → D} : ∀ (xs acc : List D) (M : Mem), M[n]? = some (.lst acc) → (∀ ds, guardOk gd (M.set n (.lst ds)) = true) → acc.length + xs.length ≤ SZ →
    (∀ x ∈ xs, ∀ ds, ∃ σ1, tg x σ (M.set n (.lst ds)) = .ok σ1 (M.set n (.lst ds)) ∧ tt σ1 (M.set n (.lst ds)) = .ok true (M.set n (.lst ds)) ∧ te σ1 (M.set n (.lst ds)) = .ok (v x) (M.set n (.lst ds))) →
    compL tg tt te gd σ n xs M = .ok () (M.set n (.lst (acc ++ xs.map v)))
  | [], acc, M, h, hg, _, _ => by
    have e : M.set n (.lst acc) = M := by
      obtain ⟨hl, e⟩ := List.getElem?_eq_some_iff.mp h
      rw [← e]
      exact List.set_getElem_self hl
    unfold compL
    have g0 := hg acc
    rw [e] at g0
    rw [if_pos g0, List.map_nil, List.append_nil, e]
  | x :: xs, acc, M, h, hg, hl, hx => by
    have hn := (List.getElem?_eq_some_iff.mp h).1
    have e : M.set n (.lst acc) = M := by
      obtain ⟨hl, e⟩ := List.getElem?_eq_some_iff.mp h
      rw [← e]
      exact List.set_getElem_self hl
    obtain ⟨σ1, h1, h2, h3⟩ := hx x List.mem_cons_self acc
    have g0 := hg acc
    rw [e] at h1 h2 h3 g0
    unfold compL
    rw [if_pos g0, h1, bindN_ok', h2, bindN_ok', if_pos rfl, h3, bindN_ok', h]
    simp only
    rw [List.length_cons] at hl
    rw [if_pos (by omega)]
    have ss : ∀ ds, (M.set n (.lst (acc ++ [v x]))).set n (.lst ds) = M.set n (.lst ds) := fun ds => List.set_set ..
    rw [compL_map xs (acc ++ [v x]) (M.set n (.lst (acc ++ [v x]))) (by rw [List.getElem?_set_self hn]) (fun ds => by rw [ss]; exact hg ds) (by rw [List.length_append]; simp; omega) (fun y hy ds => by
      rw [ss]
      exact hx y (List.mem_cons_of_mem _ hy) ds), ss, List.append_assoc]
    rfl
/-- a call of which the first argument is an object that names nothing, the others name none -/
theorem callIn_at1 {run : List D → Mem → Rs D} {ds0 : List D} {M J : Mem} {o o' : MO} {d : D} {j : Nat} (h : M[j]? = some o) (ho : o.refs = []) (hds : D.refss ds0 = []) (hr : run (.ref 0 :: ds0) [o] = .ok d J) (hJ : J.take 1 = [o']) (ho' : o'.refs = []) (hd : d.refs = []) :
    callIn run (.ref j :: ds0) M = .ok d (M.set j o') := by
  have e1 : D.refss (.ref j :: ds0) = [j] := by
    show [j] ++ D.refss ds0 = [j]
    rw [hds]
    rfl
  have e2 : D.rens (renum 0 [j]) (.ref j :: ds0) = .ref 0 :: ds0 := by
    show D.ref (renum 0 [j] j) :: D.rens (renum 0 [j]) ds0 = _
    rw [D.rens_id ds0 fun n hn => (by rw [hds] at hn; cases hn)]
    unfold renum
    simp
  have e3 : pickM M [j] = [o] := by
    unfold pickM
    simp [h]
  have := callIn_flat (run := run) (ds := .ref j :: ds0) (M := M) (L := [o']) (J := J) (sel := [j]) (d := d) (by rw [e1]; rfl) (by rw [e1]; show 1 < 1000; decide) (fun n hn => by
    rw [List.mem_singleton] at hn
    subst hn
    exact ⟨o, h, ho⟩) (by rw [e2, e3]; exact hr) hJ (fun p hp => by rw [List.mem_singleton] at hp; rw [hp]; exact ho') hd rfl
  rw [this]
  rfl
/-! ### rows of statements -/
section
variable {P : Prg} {cl : Nat → List D → Mem → Rs D} {ss s t : CSs} {σ : Sg} {M M1 : Mem}
theorem ss_asg {i : Nat} {e : CE} {d : D} (h : evE P cl e σ M = .ok d M1) : evSs P cl (.cons (.asg (.nm i) e) ss) σ M = evSs P cl ss (σ.set i (some d)) M1 := by
  rw [evSs, evS, h, bind_ok', asG, bindN_ok', bind_ok']
theorem ss_asg' {i : Nat} {e : CE} {d : D} {σ' : Sg} {M' : Mem} (h : evE P cl e σ M = .ok d M1) (hs : σ.set i (some d) = σ' := by rfl) (hM : M1 = M' := by rfl) : evSs P cl (.cons (.asg (.nm i) e) ss) σ M = evSs P cl ss σ' M' := by
  rw [ss_asg h, hs, hM]
theorem ss_asgG {g : CG} {e : CE} {d : D} {σ' : Sg} {M2 : Mem} (h : evE P cl e σ M = .ok d M1) (h2 : asG P cl g d σ M1 = .ok σ' M2) : evSs P cl (.cons (.asg g e) ss) σ M = evSs P cl ss σ' M2 := by
  rw [evSs, evS, h, bind_ok', h2, bindN_ok', bind_ok']
theorem ss_ifT {c : CE} (h : evE P cl c σ M = .ok (.bl true) M1) : evSs P cl (.cons (.ife c s t) ss) σ M = (evSs P cl s σ M1).bind fun f M => match f with
    | .next σ => evSs P cl ss σ M
    | f => .ok f M := by
  rw [evSs, evS, h, bind_ok']
  all_goals rfl
theorem ss_ifF {c : CE} (h : evE P cl c σ M = .ok (.bl false) M1) : evSs P cl (.cons (.ife c s t) ss) σ M = (evSs P cl t σ M1).bind fun f M => match f with
    | .next σ => evSs P cl ss σ M
    | f => .ok f M := by
  rw [evSs, evS, h, bind_ok']
  all_goals rfl
theorem ss_ifN {c : CE} (h : evE P cl c σ M = .ok (.bl false) M1) : evSs P cl (.cons (.ife c s .nil) ss) σ M = evSs P cl ss σ M1 := by
  rw [ss_ifF h, evSs, bind_ok']
theorem ss_ret {e : CE} {d : D} (h : evE P cl e σ M = .ok d M1) : evSs P cl (.cons (.ret e) ss) σ M = .ok (.ret d) M1 := by
  rw [evSs, evS, h, bind_ok', bind_ok']
theorem ss_expr {e : CE} {d : D} (h : evE P cl e σ M = .ok d M1) : evSs P cl (.cons (.expr e) ss) σ M = evSs P cl ss σ M1 := by
  rw [evSs, evS, h, bind_ok', bind_ok']
theorem ss_forN {g : CG} {src : CI} {body : CSs} {is : List D} {gd : Option (Nat × List D)} {σ2 : Sg} {M2 : Mem} (h : evI P cl src σ M = .ok (is, gd) M1) (h2 : forL (asG P cl g) (evSs P cl body) gd M1.length is σ M1 = .ok (.next σ2) M2) :
    evSs P cl (.cons (.for g src body) ss) σ M = evSs P cl ss σ2 M2 := by
  rw [evSs, for_ev h, h2, bind_ok']
theorem ss_kill {is : List Nat} : evSs P cl (.cons (.kill is) ss) σ M = evSs P cl ss (PD.wipe σ is) M := by
  rw [evSs, evS, bind_ok']
theorem ss_nil : evSs P cl .nil σ M = .ok (.next σ) M := by rw [evSs]
end
theorem set_same {M : Mem} {j : Nat} {o : MO} (h : M[j]? = some o) : M.set j o = M := by
  obtain ⟨hl, e⟩ := List.getElem?_eq_some_iff.mp h
  rw [← e]
  exact List.set_getElem_self hl
/-- .. two objects -/
theorem callIn_at2 {run : List D → Mem → Rs D} {ds0 : List D} {M J : Mem} {o o' p p' : MO} {d : D} {i j : Nat} (hij : i ≠ j) (h : M[i]? = some o) (h' : M[j]? = some p) (ho : o.refs = []) (hp : p.refs = []) (hds : D.refss ds0 = []) (hr : run (.ref 0 :: .ref 1 :: ds0) [o, p] = .ok d J)
    (hJ : J.take 2 = [o', p']) (ho' : o'.refs = []) (hp' : p'.refs = []) (hd : d.refs = []) : callIn run (.ref i :: .ref j :: ds0) M = .ok d ((M.set i o').set j p') := by
  have hji : ¬ j = i := fun e => hij e.symm
  have e1 : D.refss (.ref i :: .ref j :: ds0) = [i, j] := by
    show [i] ++ ([j] ++ D.refss ds0) = [i, j]
    rw [hds]
    rfl
  have eo : onceL [] [i, j] = [i, j] := by simp [onceL, hji]
  have e2 : D.rens (renum 0 [i, j]) (.ref i :: .ref j :: ds0) = .ref 0 :: .ref 1 :: ds0 := by
    show D.ref (renum 0 [i, j] i) :: D.ref (renum 0 [i, j] j) :: D.rens (renum 0 [i, j]) ds0 = _
    rw [D.rens_id ds0 fun n hn => (by rw [hds] at hn; cases hn)]
    unfold renum
    have hb : (i == j) = false := beq_eq_false_iff_ne.mpr hij
    simp [List.idxOf_cons, hb]
  have e3 : pickM M [i, j] = [o, p] := by
    unfold pickM
    simp [h, h']
  have := callIn_flat (run := run) (ds := .ref i :: .ref j :: ds0) (M := M) (L := [o', p']) (J := J) (sel := [i, j]) (d := d) (by rw [e1, eo]) (by rw [e1]; show 2 < 1000; decide) (fun n hn => by
    simp only [List.mem_cons, List.not_mem_nil, or_false] at hn
    rcases hn with rfl | rfl
    · exact ⟨o, h, ho⟩
    · exact ⟨p, h', hp⟩) (by rw [e2, e3]; exact hr) hJ (fun q hq => by
      simp only [List.mem_cons, List.not_mem_nil, or_false] at hq
      rcases hq with rfl | rfl
      · exact ho'
      · exact hp') hd rfl
  rw [this]
  rfl
end PD

set_option Elab.async false
set_option linter.all false
set_option autoImplicit false
set_option maxRecDepth 100000
set_option maxHeartbeats 0
namespace PD.K32
open PySem L2
abbrev prog : Program := PySem.Challenge.pw_copyclerk_k32_whole_two_rows_of_answers
def top (i : Nat) : Stmt := prog.main.body.getD i (.Pass ⟨0, 0, 0, 0⟩)
def mth (i j : Nat) : Stmt := match top i with
  | .ClassDef _ _ _ b _ _ _ _ _ _ _ => b.getD j (.Pass ⟨0, 0, 0, 0⟩)
  | _ => .Pass ⟨0, 0, 0, 0⟩
def G : Glo := ⟨[(("first_wrong" : Str), .fn 121), (("plain" : Str), .fn 122), (("_law_cell_at" : Str), .fn 160), (("_law_well" : Str), .fn 161), (("_law_pick" : Str), .fn 162), (("_law_one" : Str), .fn 163), (("_law_wrong" : Str), .fn 190), (("_law_right" : Str), .fn 191), (("_law_now" : Str), .fn 192), (("_law_answer" : Str), .fn 193), (("law" : Str), .fn 194), (("Store" : Str), .cls 11)],
  [("hands" : Str), ("houses" : Str), ("rows" : Str), ("number" : Str), ("house" : Str), ("store" : Str), ("last" : Str), ("lines" : Str), ("answer" : Str), ("broken" : Str), ("hand" : Str), ("word" : Str), ("k" : Str), ("rest" : Str), ("state" : Str), ("value" : Str), ("to" : Str), ("back" : Str), ("flags" : Str), ("letter" : Str), ("faults" : Str), ("ended" : Str), ("table" : Str), ("here" : Str), ("order" : Str), ("answers" : Str)],
  [("are_unlike" : Str), ("hand_of" : Str), ("house_of" : Str), ("stands" : Str), ("takes_hands" : Str), ("takes_houses" : Str), ("takes_row" : Str), ("takes" : Str), ("tell" : Str), ("post" : Str), ("load" : Str), ("meant" : Str), ("hand_act" : Str), ("taken_off" : Str), ("is_last" : Str), ("house_act" : Str), ("row" : Str), ("is_there" : Str), ("done" : Str), ("standing" : Str), ("fits" : Str), ("turn" : Str), ("put" : Str), ("break_off" : Str), ("post_all" : Str), ("shape" : Str), ("begin" : Str), ("hands_in" : Str), ("paper_found" : Str), ("most_in" : Str), ("run_found" : Str), ("asked" : Str), ("do" : Str), ("take_table" : Str), ("check" : Str), ("told" : Str), ("say" : Str)], [], [("len" : Str), ("any" : Str), ("all" : Str), ("int" : Str), ("list" : Str), ("max" : Str), ("min" : Str), ("sorted" : Str), ("str" : Str), ("sum" : Str), ("tuple" : Str), ("dict" : Str), ("set" : Str), ("range" : Str), ("enumerate" : Str), ("zip" : Str), ("isinstance" : Str), ("bool" : Str)]⟩
-- 4 Store.__init__
def b_Store___init__ : CSs :=
  (.cons (.asg (.fld (.var 0) 3) (.int 0)) .nil)
def f_Store___init__ : Fn := ⟨1, 1, [], b_Store___init__⟩
def n_Store___init__ : List Str := [("self" : Str)]
abbrev s_Store___init__ : Stmt := mth 1 0
theorem c_Store___init__ : chkSs G n_Store___init__ ⟨defScope s_Store___init__, fun _ => true⟩ (List.range n_Store___init__.length) b_Store___init__ (defBody s_Store___init__) = true := by decide +kernel
def d_Store___init__ : He.DefD := ⟨(("Store" : Str), some ("__init__" : Str)), ("__init__" : Str), ("Store.__init__" : Str), defArgs s_Store___init__, defBody s_Store___init__, defScope s_Store___init__, [], []⟩
def di_Store___init__ : DI G := { k := 4, lv := 0, F := f_Store___init__, d := d_Store___init__, N := n_Store___init__, ps := [("self" : Str)], sc := ⟨rfl, rfl, rfl, by decide +kernel, rfl, by decide +kernel, by decide +kernel⟩, hN := rfl, hps := rfl, chk := c_Store___init__, kw := rfl, dv := by decide +kernel, bd := .inl ⟨rfl, fun _ _ _ _ _ _ us hl => match us, hl with
    | [_], _ => rfl⟩ }

-- 120 Store.fits
def b_Store_fits : CSs :=
  (.cons (.ife (.cmp .eq (.idx (.var 1) (.int 0)) (.str [119, 114, 111, 116, 101])) (.cons (.asg (.fld (.var 0) 3) (.idx (.var 1) (.int 2))) (.cons (.ret (.bl true)) .nil)) .nil) (.cons (.ret (.cmp .eq (.idx (.var 1) (.int 2)) (.fld (.var 0) 3))) .nil))
def f_Store_fits : Fn := ⟨2, 2, [], b_Store_fits⟩
def n_Store_fits : List Str := [("self" : Str), ("answer" : Str)]
abbrev s_Store_fits : Stmt := mth 1 1
theorem c_Store_fits : chkSs G n_Store_fits ⟨defScope s_Store_fits, fun _ => true⟩ (List.range n_Store_fits.length) b_Store_fits (defBody s_Store_fits) = true := by decide +kernel
def d_Store_fits : He.DefD := ⟨(("Store" : Str), some ("fits" : Str)), ("fits" : Str), ("Store.fits" : Str), defArgs s_Store_fits, defBody s_Store_fits, defScope s_Store_fits, [], []⟩
def di_Store_fits : DI G := { k := 120, lv := 0, F := f_Store_fits, d := d_Store_fits, N := n_Store_fits, ps := [("self" : Str), ("answer" : Str)], sc := ⟨rfl, rfl, rfl, by decide +kernel, rfl, by decide +kernel, by decide +kernel⟩, hN := rfl, hps := rfl, chk := c_Store_fits, kw := rfl, dv := by decide +kernel, bd := .inl ⟨rfl, fun _ _ _ _ _ _ us hl => match us, hl with
    | [_, _], _ => rfl⟩ }

-- 121 first_wrong
def b_first_wrong : CSs :=
  (.cons (.asg (.nm 1) (.new 11 .nil)) (.cons (.for (.tup (.cons (.nm 2) (.cons (.nm 3) .nil))) (.enum (.var 0)) (.cons (.ife (.not (.meth (.var 1) 20 (.cons (.var 3) .nil))) (.cons (.ret (.var 2)) .nil) .nil) (.cons (.kill [2, 3]) .nil))) (.cons (.ret .non) .nil)))
def f_first_wrong : Fn := ⟨1, 4, [], b_first_wrong⟩
def n_first_wrong : List Str := [("answers" : Str), ("store" : Str), ("number" : Str), ("answer" : Str)]
abbrev s_first_wrong : Stmt := top 2
theorem c_first_wrong : chkSs G n_first_wrong ⟨defScope s_first_wrong, fun _ => true⟩ (List.range n_first_wrong.length) b_first_wrong (defBody s_first_wrong) = true := by decide +kernel
def d_first_wrong : He.DefD := ⟨(("first_wrong" : Str), none), ("first_wrong" : Str), ("first_wrong" : Str), defArgs s_first_wrong, defBody s_first_wrong, defScope s_first_wrong, [], []⟩
def di_first_wrong : DI G := { k := 121, lv := 1, F := f_first_wrong, d := d_first_wrong, N := n_first_wrong, ps := [("answers" : Str)], sc := ⟨rfl, rfl, rfl, by decide +kernel, rfl, by decide +kernel, by decide +kernel⟩, hN := rfl, hps := rfl, chk := c_first_wrong, kw := rfl, dv := by decide +kernel, bd := .inl ⟨rfl, fun _ _ _ _ _ _ us hl => match us, hl with
    | [_], _ => rfl⟩ }

-- 122 plain
def b_plain : CSs :=
  (.cons (.ret (.isN (.call 121 (.cons (.var 0) .nil)))) .nil)
def f_plain : Fn := ⟨1, 1, [], b_plain⟩
def n_plain : List Str := [("answers" : Str)]
abbrev s_plain : Stmt := top 3
theorem c_plain : chkSs G n_plain ⟨defScope s_plain, fun _ => true⟩ (List.range n_plain.length) b_plain (defBody s_plain) = true := by decide +kernel
def d_plain : He.DefD := ⟨(("plain" : Str), none), ("plain" : Str), ("plain" : Str), defArgs s_plain, defBody s_plain, defScope s_plain, [], []⟩
def di_plain : DI G := { k := 122, lv := 2, F := f_plain, d := d_plain, N := n_plain, ps := [("answers" : Str)], sc := ⟨rfl, rfl, rfl, by decide +kernel, rfl, by decide +kernel, by decide +kernel⟩, hN := rfl, hps := rfl, chk := c_plain, kw := rfl, dv := by decide +kernel, bd := .inl ⟨rfl, fun _ _ _ _ _ _ us hl => match us, hl with
    | [_], _ => rfl⟩ }

-- 160 _law_cell_at
def b_law_cell_at : CSs :=
  (.cons (.ife (.cmp .lt (.var 1) (.blt .len (.cons (.var 0) .nil))) (.cons (.ret (.idx (.var 0) (.var 1))) .nil) .nil) (.cons (.ret (.int 0)) .nil))
def f_law_cell_at : Fn := ⟨2, 2, [], b_law_cell_at⟩
def n_law_cell_at : List Str := [("script" : Str), ("k" : Str)]
abbrev s_law_cell_at : Stmt := top 5
theorem c_law_cell_at : chkSs G n_law_cell_at ⟨defScope s_law_cell_at, fun _ => true⟩ (List.range n_law_cell_at.length) b_law_cell_at (defBody s_law_cell_at) = true := by decide +kernel
def d_law_cell_at : He.DefD := ⟨(("_law_cell_at" : Str), none), ("_law_cell_at" : Str), ("_law_cell_at" : Str), defArgs s_law_cell_at, defBody s_law_cell_at, defScope s_law_cell_at, [], []⟩
def di_law_cell_at : DI G := { k := 160, lv := 0, F := f_law_cell_at, d := d_law_cell_at, N := n_law_cell_at, ps := [("script" : Str), ("k" : Str)], sc := ⟨rfl, rfl, rfl, by decide +kernel, rfl, by decide +kernel, by decide +kernel⟩, hN := rfl, hps := rfl, chk := c_law_cell_at, kw := rfl, dv := by decide +kernel, bd := .inl ⟨rfl, fun _ _ _ _ _ _ us hl => match us, hl with
    | [_, _], _ => rfl⟩ }

-- 161 _law_well
def b_law_well : CSs :=
  (.cons (.ret (.lst (.cons (.bin .mul (.bin .fdiv (.blt .max (.cons (.int 0) (.cons (.var 0) .nil))) (.int 2)) (.bin .sub (.int 1) (.bin .mod (.var 0) (.int 2)))) (.cons (.bin .mod (.var 0) (.int 2147483629)) .nil)))) .nil)
def f_law_well : Fn := ⟨1, 1, [], b_law_well⟩
def n_law_well : List Str := [("cell" : Str)]
abbrev s_law_well : Stmt := top 6
theorem c_law_well : chkSs G n_law_well ⟨defScope s_law_well, fun _ => true⟩ (List.range n_law_well.length) b_law_well (defBody s_law_well) = true := by decide +kernel
def d_law_well : He.DefD := ⟨(("_law_well" : Str), none), ("_law_well" : Str), ("_law_well" : Str), defArgs s_law_well, defBody s_law_well, defScope s_law_well, [], []⟩
def di_law_well : DI G := { k := 161, lv := 0, F := f_law_well, d := d_law_well, N := n_law_well, ps := [("cell" : Str)], sc := ⟨rfl, rfl, rfl, by decide +kernel, rfl, by decide +kernel, by decide +kernel⟩, hN := rfl, hps := rfl, chk := c_law_well, kw := rfl, dv := by decide +kernel, bd := .inl ⟨rfl, fun _ _ _ _ _ _ us hl => match us, hl with
    | [_], _ => rfl⟩ }

-- 162 _law_pick
def b_law_pick : CSs :=
  (.cons (.ife (.cmp .gt (.idx (.var 0) (.int 0)) (.int 0)) (.cons (.asg (.nm 2) (.bin .mod (.idx (.var 0) (.int 0)) (.var 1))) (.cons (.asg (.sub (.var 0) (.int 0)) (.bin .fdiv (.idx (.var 0) (.int 0)) (.var 1))) (.cons (.ret (.var 2)) .nil))) .nil) (.cons (.asg (.sub (.var 0) (.int 1)) (.bin .mod (.bin .add (.bin .mul (.idx (.var 0) (.int 1)) (.int 48271)) (.int 12289)) (.int 2147483647))) (.cons (.asg (.nm 3) (.bin .mod (.bin .mul (.bin .add (.idx (.var 0) (.int 1)) (.int 7919)) (.bin .add (.bin .fdiv (.idx (.var 0) (.int 1)) (.int 1009)) (.int 69621))) (.int 2147483647))) (.cons (.asg (.nm 3) (.bin .mod (.bin .mul (.var 3) (.bin .add (.bin .fdiv (.var 3) (.int 2003)) (.int 40692))) (.int 2147483629))) (.cons (.ret (.bin .mod (.bin .fdiv (.var 3) (.int 3)) (.var 1))) .nil)))))
def f_law_pick : Fn := ⟨2, 4, [], b_law_pick⟩
def n_law_pick : List Str := [("well" : Str), ("many" : Str), ("found" : Str), ("number" : Str)]
abbrev s_law_pick : Stmt := top 7
theorem c_law_pick : chkSs G n_law_pick ⟨defScope s_law_pick, fun _ => true⟩ (List.range n_law_pick.length) b_law_pick (defBody s_law_pick) = true := by decide +kernel
def d_law_pick : He.DefD := ⟨(("_law_pick" : Str), none), ("_law_pick" : Str), ("_law_pick" : Str), defArgs s_law_pick, defBody s_law_pick, defScope s_law_pick, [], []⟩
def di_law_pick : DI G := { k := 162, lv := 0, F := f_law_pick, d := d_law_pick, N := n_law_pick, ps := [("well" : Str), ("many" : Str)], sc := ⟨rfl, rfl, rfl, by decide +kernel, rfl, by decide +kernel, by decide +kernel⟩, hN := rfl, hps := rfl, chk := c_law_pick, kw := rfl, dv := by decide +kernel, bd := .inl ⟨rfl, fun _ _ _ _ _ _ us hl => match us, hl with
    | [_, _], _ => rfl⟩ }

-- 163 _law_one
def b_law_one : CSs :=
  (.cons (.ret (.idx (.var 1) (.call 162 (.cons (.var 0) (.cons (.blt .len (.cons (.var 1) .nil)) .nil))))) .nil)
def f_law_one : Fn := ⟨2, 2, [], b_law_one⟩
def n_law_one : List Str := [("well" : Str), ("some" : Str)]
abbrev s_law_one : Stmt := top 8
theorem c_law_one : chkSs G n_law_one ⟨defScope s_law_one, fun _ => true⟩ (List.range n_law_one.length) b_law_one (defBody s_law_one) = true := by decide +kernel
def d_law_one : He.DefD := ⟨(("_law_one" : Str), none), ("_law_one" : Str), ("_law_one" : Str), defArgs s_law_one, defBody s_law_one, defScope s_law_one, [], []⟩
def di_law_one : DI G := { k := 163, lv := 1, F := f_law_one, d := d_law_one, N := n_law_one, ps := [("well" : Str), ("some" : Str)], sc := ⟨rfl, rfl, rfl, by decide +kernel, rfl, by decide +kernel, by decide +kernel⟩, hN := rfl, hps := rfl, chk := c_law_one, kw := rfl, dv := by decide +kernel, bd := .inl ⟨rfl, fun _ _ _ _ _ _ us hl => match us, hl with
    | [_, _], _ => rfl⟩ }

-- 190 _law_wrong
def b_law_wrong : CSs :=
  (.cons (.asg (.nm 1) (.int 0)) (.cons (.for (.tup (.cons (.nm 2) (.cons (.tup (.cons (.nm 3) (.cons (.nm 4) (.cons (.nm 5) .nil)))) .nil))) (.enum (.var 0)) (.cons (.ife (.cmp .eq (.var 3) (.str [119, 114, 111, 116, 101])) (.cons (.asg (.nm 1) (.var 5)) .nil) (.cons (.ife (.cmp .ne (.var 5) (.var 1)) (.cons (.ret (.var 2)) .nil) .nil) .nil)) (.cons (.kill [2, 3, 4, 5]) .nil))) (.cons (.ret .non) .nil)))
def f_law_wrong : Fn := ⟨1, 6, [], b_law_wrong⟩
def n_law_wrong : List Str := [("row" : Str), ("now" : Str), ("k" : Str), ("word" : Str), ("hand" : Str), ("number" : Str)]
abbrev s_law_wrong : Stmt := top 9
theorem c_law_wrong : chkSs G n_law_wrong ⟨defScope s_law_wrong, fun _ => true⟩ (List.range n_law_wrong.length) b_law_wrong (defBody s_law_wrong) = true := by decide +kernel
def d_law_wrong : He.DefD := ⟨(("_law_wrong" : Str), none), ("_law_wrong" : Str), ("_law_wrong" : Str), defArgs s_law_wrong, defBody s_law_wrong, defScope s_law_wrong, [], []⟩
def di_law_wrong : DI G := { k := 190, lv := 0, F := f_law_wrong, d := d_law_wrong, N := n_law_wrong, ps := [("row" : Str)], sc := ⟨rfl, rfl, rfl, by decide +kernel, rfl, by decide +kernel, by decide +kernel⟩, hN := rfl, hps := rfl, chk := c_law_wrong, kw := rfl, dv := by decide +kernel, bd := .inl ⟨rfl, fun _ _ _ _ _ _ us hl => match us, hl with
    | [_], _ => rfl⟩ }

-- 191 _law_right
def b_law_right : CSs :=
  (.cons (.asg (.nm 1) (.call 190 (.cons (.var 0) .nil))) (.cons (.for (.nm 2) (.rng (.cons (.int 2) .nil)) (.cons (.asg (.nm 3) (.blt .list (.cons (.var 0) .nil))) (.cons (.asg (.nm 4) (.call 121 (.cons (.var 3) .nil))) (.cons (.asg (.nm 5) (.call 122 (.cons (.var 3) .nil))) (.cons (.ife (.or (.cons (.isTy (.var 4) .bool) (.cons (.cmp .ne (.var 4) (.var 1)) (.cons (.not (.isTy (.var 5) .bool)) (.cons (.cmp .ne (.var 5) (.isN (.var 1))) .nil))))) (.cons (.ret (.bl false)) .nil) .nil) (.cons (.ife (.cmp .ne (.var 3) (.var 0)) (.cons (.ret (.bl false)) .nil) .nil) (.cons (.expr (.bm .clear (.var 3) .nil)) (.cons (.kill [2, 3, 4, 5]) .nil)))))))) (.cons (.ret (.bl true)) .nil)))
def f_law_right : Fn := ⟨1, 6, [], b_law_right⟩
def n_law_right : List Str := [("row" : Str), ("due" : Str), ("turn" : Str), ("handed" : Str), ("found" : Str), ("good" : Str)]
abbrev s_law_right : Stmt := top 10
theorem c_law_right : chkSs G n_law_right ⟨defScope s_law_right, fun _ => true⟩ (List.range n_law_right.length) b_law_right (defBody s_law_right) = true := by decide +kernel
def d_law_right : He.DefD := ⟨(("_law_right" : Str), none), ("_law_right" : Str), ("_law_right" : Str), defArgs s_law_right, defBody s_law_right, defScope s_law_right, [], []⟩
def di_law_right : DI G := { k := 191, lv := 3, F := f_law_right, d := d_law_right, N := n_law_right, ps := [("row" : Str)], sc := ⟨rfl, rfl, rfl, by decide +kernel, rfl, by decide +kernel, by decide +kernel⟩, hN := rfl, hps := rfl, chk := c_law_right, kw := rfl, dv := by decide +kernel, bd := .inl ⟨rfl, fun _ _ _ _ _ _ us hl => match us, hl with
    | [_], _ => rfl⟩ }

-- 192 _law_now
def b_law_now : CSs :=
  (.cons (.asg (.nm 1) (.int 0)) (.cons (.for (.tup (.cons (.nm 2) (.cons (.nm 3) (.cons (.nm 4) .nil)))) (.seq (.var 0)) (.cons (.ife (.cmp .eq (.var 2) (.str [119, 114, 111, 116, 101])) (.cons (.asg (.nm 1) (.var 4)) .nil) .nil) (.cons (.kill [2, 3, 4]) .nil))) (.cons (.ret (.var 1)) .nil)))
def f_law_now : Fn := ⟨1, 5, [], b_law_now⟩
def n_law_now : List Str := [("row" : Str), ("found" : Str), ("word" : Str), ("hand" : Str), ("number" : Str)]
abbrev s_law_now : Stmt := top 11
theorem c_law_now : chkSs G n_law_now ⟨defScope s_law_now, fun _ => true⟩ (List.range n_law_now.length) b_law_now (defBody s_law_now) = true := by decide +kernel
def d_law_now : He.DefD := ⟨(("_law_now" : Str), none), ("_law_now" : Str), ("_law_now" : Str), defArgs s_law_now, defBody s_law_now, defScope s_law_now, [], []⟩
def di_law_now : DI G := { k := 192, lv := 0, F := f_law_now, d := d_law_now, N := n_law_now, ps := [("row" : Str)], sc := ⟨rfl, rfl, rfl, by decide +kernel, rfl, by decide +kernel, by decide +kernel⟩, hN := rfl, hps := rfl, chk := c_law_now, kw := rfl, dv := by decide +kernel, bd := .inl ⟨rfl, fun _ _ _ _ _ _ us hl => match us, hl with
    | [_], _ => rfl⟩ }

-- 193 _law_answer
def b_law_answer : CSs :=
  (.cons (.asg (.nm 3) (.idx (.lst (.cons (.call 162 (.cons (.var 0) (.cons (.int 4) .nil))) (.cons (.call 162 (.cons (.var 0) (.cons (.bin .pow (.int 10) (.int 20)) .nil))) .nil))) (.blt .int (.cons (.cmp .eq (.call 162 (.cons (.var 0) (.cons (.int 5) .nil))) (.int 0)) .nil)))) (.cons (.asg (.nm 4) (.idx (.lst (.cons (.bin .sub (.call 162 (.cons (.var 0) (.cons (.int 5) .nil))) (.int 2)) (.cons (.call 162 (.cons (.var 0) (.cons (.bin .pow (.int 10) (.int 49)) .nil))) .nil))) (.blt .int (.cons (.cmp .eq (.call 162 (.cons (.var 0) (.cons (.int 6) .nil))) (.int 0)) .nil)))) (.cons (.asg (.nm 5) (.call 162 (.cons (.var 0) (.cons (.int 8) .nil)))) (.cons (.ife (.cmp .lt (.var 5) (.int 3)) (.cons (.ret (.tup (.cons (.str [119, 114, 111, 116, 101]) (.cons (.var 3) (.cons (.var 4) .nil))))) .nil) .nil) (.cons (.asg (.nm 6) (.call 192 (.cons (.var 1) .nil))) (.cons (.asg (.nm 7) (.bin .add (.comp (.idx (.var 8) (.int 2)) (.nm 8) (.seq (.bin .add (.var 1) (.var 2))) .no [8]) (.lst (.cons (.int 0) .nil)))) (.cons (.ife (.cmp .lt (.var 5) (.int 6)) (.cons (.ret (.tup (.cons (.str [114, 101, 97, 100]) (.cons (.var 3) (.cons (.var 6) .nil))))) .nil) .nil) (.cons (.ret (.tup (.cons (.str [114, 101, 97, 100]) (.cons (.var 3) (.cons (.call 163 (.cons (.var 0) (.cons (.lst (.cons (.call 163 (.cons (.var 0) (.cons (.var 7) .nil))) (.cons (.call 192 (.cons (.var 2) .nil)) (.cons (.bin .sub (.int 0) (.var 6)) (.cons (.bin .add (.var 6) (.int 1)) .nil))))) .nil))) .nil))))) .nil))))))))
def f_law_answer : Fn := ⟨3, 9, [], b_law_answer⟩
def n_law_answer : List Str := [("well" : Str), ("row" : Str), ("other" : Str), ("hand" : Str), ("number" : Str), ("way" : Str), ("now" : Str), ("ahead" : Str), ("answer" : Str)]
abbrev s_law_answer : Stmt := top 12
theorem c_law_answer : chkSs G n_law_answer ⟨defScope s_law_answer, fun _ => true⟩ (List.range n_law_answer.length) b_law_answer (defBody s_law_answer) = true := by decide +kernel
def d_law_answer : He.DefD := ⟨(("_law_answer" : Str), none), ("_law_answer" : Str), ("_law_answer" : Str), defArgs s_law_answer, defBody s_law_answer, defScope s_law_answer, [], []⟩
def di_law_answer : DI G := { k := 193, lv := 2, F := f_law_answer, d := d_law_answer, N := n_law_answer, ps := [("well" : Str), ("row" : Str), ("other" : Str)], sc := ⟨rfl, rfl, rfl, by decide +kernel, rfl, by decide +kernel, by decide +kernel⟩, hN := rfl, hps := rfl, chk := c_law_answer, kw := rfl, dv := by decide +kernel, bd := .inl ⟨rfl, fun _ _ _ _ _ _ us hl => match us, hl with
    | [_, _, _], _ => rfl⟩ }

-- 194 law
def b_law : CSs :=
  (.cons (.asg (.nm 1) (.lst .nil)) (.cons (.asg (.nm 2) (.lst .nil)) (.cons (.for (.nm 3) (.seq (.slc (.var 0) .no (.so (.int 30)))) (.cons (.asg (.nm 4) (.call 161 (.cons (.var 3) .nil))) (.cons (.asg (.nm 5) (.call 162 (.cons (.var 4) (.cons (.int 4) .nil)))) (.cons (.asg (.nm 6) (.call 193 (.cons (.var 4) (.cons (.idx (.lst (.cons (.var 1) (.cons (.var 2) .nil))) (.bin .mod (.var 5) (.int 2))) (.cons (.idx (.lst (.cons (.var 2) (.cons (.var 1) .nil))) (.bin .mod (.var 5) (.int 2))) .nil))))) (.cons (.ife (.cmp .ne (.var 5) (.int 1)) (.cons (.expr (.bm .append (.var 1) (.cons (.var 6) .nil))) .nil) .nil) (.cons (.ife (.cmp .ne (.var 5) (.int 0)) (.cons (.expr (.bm .append (.var 2) (.cons (.var 6) .nil))) .nil) .nil) (.cons (.asg (.nm 7) (.slc (.var 1) .no (.so (.call 162 (.cons (.var 4) (.cons (.bin .add (.blt .len (.cons (.var 1) .nil)) (.int 1)) .nil)))))) (.cons (.for (.nm 8) (.seq (.lst (.cons (.var 1) (.cons (.var 2) (.cons (.stp (.var 1) (.neg (.int 1))) (.cons (.bin .add (.var 1) (.var 2)) (.cons (.var 7) .nil))))))) (.cons (.ife (.not (.call 191 (.cons (.var 8) .nil))) (.cons (.ret (.bl false)) .nil) .nil) (.cons (.kill [8]) .nil))) (.cons (.kill [3, 4, 5, 6, 7, 8]) .nil))))))))) (.cons (.ret (.and (.cons (.call 191 (.cons (.var 1) .nil)) (.cons (.call 191 (.cons (.var 2) .nil)) (.cons (.call 191 (.cons (.lst .nil) .nil)) .nil))))) .nil))))
def f_law : Fn := ⟨1, 9, [], b_law⟩
def n_law : List Str := [("script" : Str), ("row" : Str), ("other" : Str), ("cell" : Str), ("well" : Str), ("way" : Str), ("answer" : Str), ("begin" : Str), ("some" : Str)]
abbrev s_law : Stmt := top 13
theorem c_law : chkSs G n_law ⟨defScope s_law, fun _ => true⟩ (List.range n_law.length) b_law (defBody s_law) = true := by decide +kernel
def d_law : He.DefD := ⟨(("law" : Str), none), ("law" : Str), ("law" : Str), defArgs s_law, defBody s_law, defScope s_law, [], []⟩
def di_law : DI G := { k := 194, lv := 4, F := f_law, d := d_law, N := n_law, ps := [("script" : Str)], sc := ⟨rfl, rfl, rfl, by decide +kernel, rfl, by decide +kernel, by decide +kernel⟩, hN := rfl, hps := rfl, chk := c_law, kw := rfl, dv := by decide +kernel, bd := .inl ⟨rfl, fun _ _ _ _ _ _ us hl => match us, hl with
    | [_], _ => rfl⟩ }

def tbl : PI' G := ⟨[di_Store___init__, di_Store_fits, di_first_wrong, di_plain, di_law_cell_at, di_law_well, di_law_pick, di_law_one, di_law_wrong, di_law_right, di_law_now, di_law_answer, di_law], [⟨11, ("Store" : Str), ⟨some 4, [(20, 120)]⟩⟩], fun _ => none, fun _ _ => false, fun _ _ => none⟩
def loose : List Str := [("first_wrong" : Str), ("plain" : Str), ("_law_cell_at" : Str), ("_law_well" : Str), ("_law_pick" : Str), ("_law_one" : Str), ("_law_wrong" : Str), ("_law_right" : Str), ("_law_now" : Str), ("_law_answer" : Str), ("Store" : Str)]
abbrev P : Prg := prgOf tbl
theorem fn_4 : P.fn 4 = some f_Store___init__ := rfl
theorem lv_4 : P.lv 4 = 0 := rfl
theorem fn_120 : P.fn 120 = some f_Store_fits := rfl
theorem lv_120 : P.lv 120 = 0 := rfl
theorem fn_121 : P.fn 121 = some f_first_wrong := rfl
theorem lv_121 : P.lv 121 = 1 := rfl
theorem fn_122 : P.fn 122 = some f_plain := rfl
theorem lv_122 : P.lv 122 = 2 := rfl
theorem fn_160 : P.fn 160 = some f_law_cell_at := rfl
theorem lv_160 : P.lv 160 = 0 := rfl
theorem fn_161 : P.fn 161 = some f_law_well := rfl
theorem lv_161 : P.lv 161 = 0 := rfl
theorem fn_162 : P.fn 162 = some f_law_pick := rfl
theorem lv_162 : P.lv 162 = 0 := rfl
theorem fn_163 : P.fn 163 = some f_law_one := rfl
theorem lv_163 : P.lv 163 = 1 := rfl
theorem fn_190 : P.fn 190 = some f_law_wrong := rfl
theorem lv_190 : P.lv 190 = 0 := rfl
theorem fn_191 : P.fn 191 = some f_law_right := rfl
theorem lv_191 : P.lv 191 = 3 := rfl
theorem fn_192 : P.fn 192 = some f_law_now := rfl
theorem lv_192 : P.lv 192 = 0 := rfl
theorem fn_193 : P.fn 193 = some f_law_answer := rfl
theorem lv_193 : P.lv 193 = 2 := rfl
theorem fn_194 : P.fn 194 = some f_law := rfl
theorem lv_194 : P.lv 194 = 4 := rfl
theorem cls_11 : P.cls 11 = some ⟨some 4, [(20, 120)]⟩ := rfl
end PD.K32

set_option Elab.async false
set_option linter.all false
set_option autoImplicit false
set_option maxRecDepth 100000
set_option maxHeartbeats 1000000
namespace PD.K32
open PySem
def B31 (b : Int) : Prop := 0 ≤ b ∧ b < 2147483647
theorem pick_ev (a b m : Int) (hb : B31 b) (hm : 0 < m) (hm2 : fdivOk m = true) : ∃ p a' b', runF P 162 [.ref 0, .int m] [.lst [.int a, .int b]] = .ok (.int p) [.lst [.int a', .int b']] ∧ 0 ≤ p ∧ p < m ∧ B31 b' := by
  obtain ⟨hb0, hb1⟩ := hb
  rw [runF_of fn_162]
  by_cases ha : 0 < a
  · refine ⟨a % m, a / m, b, ?_, Int.emod_nonneg _ (by omega), Int.emod_lt_of_pos _ hm, hb0, hb1⟩
    simp [runB, f_law_pick, b_law_pick, evSs, evS, evE, asG, bind_ok', bindN_ok', idxD, atD, ixD, cmpD, Rs.ofO, binD, setD, ha, hm, hm2]
  · have q1 := Int.emod_nonneg (b * 48271 + 12289) (show (2147483647 : Int) ≠ 0 by decide)
    have q2 := Int.emod_lt_of_pos (b * 48271 + 12289) (show (0 : Int) < 2147483647 by decide)
    generalize hb' : (b * 48271 + 12289) % 2147483647 = b' at q1 q2
    have e1 : mulOk b 48271 = true := mul_ok _ _ (by omega)
    have e2 : mulOk (b' + 7919) (b' / 1009 + 69621) = true := mul_ok _ _ (by omega)
    have q3 := Int.emod_nonneg ((b' + 7919) * (b' / 1009 + 69621)) (show (2147483647 : Int) ≠ 0 by decide)
    have q4 := Int.emod_lt_of_pos ((b' + 7919) * (b' / 1009 + 69621)) (show (0 : Int) < 2147483647 by decide)
    generalize hn : (b' + 7919) * (b' / 1009 + 69621) % 2147483647 = n at q3 q4
    have e3 : mulOk n (n / 2003 + 40692) = true := mul_ok _ _ (by omega)
    refine ⟨(n * (n / 2003 + 40692) % 2147483629) / 3 % m, a, b', ?_, Int.emod_nonneg _ (by omega), Int.emod_lt_of_pos _ hm, q1, q2⟩
    have f1 : fdivOk 1009 = true := by decide
    have f2 : fdivOk 2003 = true := by decide
    have f3 : fdivOk 3 = true := by decide
    simp [runB, f_law_pick, b_law_pick, evSs, evS, evE, asG, bind_ok', bindN_ok', idxD, atD, ixD, cmpD, Rs.ofO, binD, setD, ha, hm, hm2, e1, e2, e3, hb', hn, f1, f2, f3]
theorem well_ev (c : Int) : ∃ a b, runF P 161 [.int c] [] = .ok (.ref 0) [.lst [.int a, .int b]] ∧ B31 b := by
  rw [runF_of fn_161]
  have e1 : fdivOk 2 = true := by decide
  have q1 := Int.emod_nonneg c (show (2 : Int) ≠ 0 by decide)
  have q2 := Int.emod_lt_of_pos c (show (0 : Int) < 2 by decide)
  have q3 := Int.emod_nonneg c (show (2147483629 : Int) ≠ 0 by decide)
  have q4 := Int.emod_lt_of_pos c (show (0 : Int) < 2147483629 by decide)
  have e2 : mulOk ((if (0 : Int) < c then c else 0) / 2) (1 - c % 2) = true := mul_okR _ _ (by omega)
  refine ⟨(if (0 : Int) < c then c else 0) / 2 * (1 - c % 2), c % 2147483629, ?_, q3, by omega⟩
  simp [runB, f_law_well, b_law_well, evSs, evS, evE, evEs, bind_ok', binD, bltD, e1, e2]
/-- an answer: written or read, the hand, the number -/
structure Ans where
  w : Bool
  h : Int
  n : Int
def wr : T := [119, 114, 111, 116, 101]
def re : T := [114, 101, 97, 100]
def dA (a : Ans) : D := .tup [.str (if a.w then wr else re), .int a.h, .int a.n]
abbrev dR (R : List Ans) : List D := R.map dA
theorem dA_refs (a : Ans) : (dA a).refs = [] := rfl
def wrongN (now : Int) (k : Nat) : List Ans → Option Nat
  | [] => none
  | a :: r => if a.w then wrongN a.n (k + 1) r else if a.n = now then wrongN now (k + 1) r else some k
def dO : Option Nat → D
  | none => .non
  | some k => .int (k : Int)
theorem dR_refs (R : List Ans) : D.refss (dR R) = [] := refss_map dA_refs R
theorem low1 (R : List Ans) : ∀ n ∈ Mem.refs (List.take 1 [MO.lst (dR R)]), n < 1 := fun n hn => by
  have : Mem.refs [MO.lst (dR R)] = [] := by
    show D.refss (dR R) ++ [] = []
    rw [dR_refs]
    rfl
  rw [show List.take 1 [MO.lst (dR R)] = [MO.lst (dR R)] from rfl, this] at hn
  cases hn
theorem dR_cons (a : Ans) (r : List Ans) : dR (a :: r) = .tup [.str (if a.w then wr else re), .int a.h, .int a.n] :: dR r := rfl
theorem guard1 (R : List Ans) : guardOk (some (0, dR R)) [MO.lst (dR R)] = true := by simp [guardOk, seqOf]
abbrev wrT : CG := .tup (.cons (.nm 2) (.cons (.tup (.cons (.nm 3) (.cons (.nm 4) (.cons (.nm 5) .nil)))) .nil))
abbrev wrB : CSs := (.cons (.ife (.cmp .eq (.var 3) (.str [119, 114, 111, 116, 101])) (.cons (.asg (.nm 1) (.var 5)) .nil) (.cons (.ife (.cmp .ne (.var 5) (.var 1)) (.cons (.ret (.var 2)) .nil) .nil) .nil)) (.cons (.kill [2, 3, 4, 5]) .nil))
theorem wrong_loop (cl : Cl) (R : List Ans) : ∀ (r : List Ans) (k : Nat) (now : Int), ∃ now', forL (asG P cl wrT) (evSs P cl wrB) (some (0, dR R)) 1 (enumF k (dR r)) [some (.ref 0), some (.int now), none, none, none, none] [MO.lst (dR R)] =
      match wrongN now k r with
      | none => .ok (.next [some (.ref 0), some (.int now'), none, none, none, none]) [MO.lst (dR R)]
      | some j => .ok (.ret (.int j)) [MO.lst (dR R)] := by
  intro r
  induction r with
  | nil => exact fun k now => ⟨now, forL_nil (guard1 R)⟩
  | cons a r ih =>
    intro k now
    rw [dR_cons, enumF]
    have gs : ∀ x : Int, gcSt 1 [some (.ref 0), some (.int x), none, none, none, none] [MO.lst (dR R)] = ([some (.ref 0), some (.int x), none, none, none, none], [MO.lst (dR R)]) := fun x => by
      rw [gcSt_low (fun n hn => by simpa [Sg.refs, D.refs] using hn) (low1 R)]
      rfl
    have h1 : ∀ M, asG P cl wrT (.tup [.int (k : Int), .tup [.str (if a.w then wr else re), .int a.h, .int a.n]]) [some (.ref 0), some (.int now), none, none, none, none] M = .ok [some (.ref 0), some (.int now), some (.int k), some (.str (if a.w then wr else re)), some (.int a.h), some (.int a.n)] M := fun M => by
      simp [asG, asGs, bind_ok']
    by_cases hw : a.w = true
    · obtain ⟨now', e⟩ := ih (k + 1) a.n
      refine ⟨now', ?_⟩
      rw [forL_next (σ2 := [some (.ref 0), some (.int a.n), none, none, none, none]) (M2 := [MO.lst (dR R)]) (guard1 R) (h1 _) (by simp [bind_ok', bindN_ok', evSs, evS, evE, cmpD, eqO_str, Rs.ofO, hw, wr, wipe, asG]), gs, e]
      simp [wrongN, hw]
    · by_cases hn : a.n = now
      · obtain ⟨now', e⟩ := ih (k + 1) now
        refine ⟨now', ?_⟩
        rw [forL_next (σ2 := [some (.ref 0), some (.int now), none, none, none, none]) (M2 := [MO.lst (dR R)]) (guard1 R) (h1 _) (by simp [bind_ok', bindN_ok', evSs, evS, evE, cmpD, eqO_str, eqO_int, Rs.ofO, hw, wr, re, wipe, asG, hn]), gs, e]
        simp [wrongN, hw, hn]
      · refine ⟨now, ?_⟩
        rw [forL_ret (d := .int k) (M2 := [MO.lst (dR R)]) (guard1 R) (h1 _) (by simp [bind_ok', bindN_ok', evSs, evS, evE, cmpD, eqO_str, eqO_int, Rs.ofO, hw, wr, re, wipe, asG, hn])]
        simp [wrongN, hw, hn]
theorem wrong_ev (R : List Ans) : runF P 190 [.ref 0] [.lst (dR R)] = .ok (dO (wrongN 0 0 R)) [.lst (dR R)] := by
  rw [runF_of fn_190]
  obtain ⟨now', e⟩ := wrong_loop (clF P 190) R R 0 0
  have e2 : evI P (clF P 190) (.enum (.var 0)) [some (.ref 0), some (.int 0), none, none, none, none] [MO.lst (dR R)] = .ok (enumF 0 (dR R), some (0, dR R)) [MO.lst (dR R)] := by
    simp [evI, evE, bind_ok', seqOf]
  have e3 := (for_ev (g := wrT) (body := wrB) e2).trans e
  unfold runB
  rw [if_pos (by decide)]
  show (evSs P (clF P 190) (.cons (.asg (.nm 1) (.int 0)) (.cons (.for wrT (.enum (.var 0)) wrB) (.cons (.ret .non) .nil))) [some (.ref 0), none, none, none, none, none] [MO.lst (dR R)]).bind _ = _
  rw [evSs, evS, evE, bind_ok', asG, bindN_ok', bind_ok']
  show ((evSs P (clF P 190) (.cons (.for wrT (.enum (.var 0)) wrB) (.cons (.ret .non) .nil)) [some (.ref 0), some (.int 0), none, none, none, none] [MO.lst (dR R)])).bind _ = _
  rw [evSs, e3]
  cases wrongN 0 0 R <;> simp [dO, bind_ok', evSs, evS, evE]
/-! ### the store -/
def stO (n : Int) : MO := .ins 11 [(3, .int n)]
theorem init_ev : runF P 4 [.ref 0] [.ins 11 []] = .ok .non [stO 0] := by
  rw [runF_of fn_4]
  simp [runB, f_Store___init__, b_Store___init__, evSs, evS, evE, asG, bind_ok', bindN_ok', setFD, putF, stO]
theorem fits_ev (a : Ans) (now : Int) : runF P 120 [.ref 0, dA a] [stO now] = .ok (.bl (a.w || decide (a.n = now))) [stO (if a.w then a.n else now)] := by
  rw [runF_of fn_120]
  by_cases hw : a.w = true
  · simp [runB, f_Store_fits, b_Store_fits, evSs, evS, evE, asG, bind_ok', bindN_ok', setFD, putF, stO, dA, idxD, atD, ixD, Rs.ofO, cmpD, eqO_str, hw, wr]
  · simp [runB, f_Store_fits, b_Store_fits, evSs, evS, evE, asG, bind_ok', bindN_ok', setFD, putF, stO, dA, idxD, atD, ixD, Rs.ofO, cmpD, eqO_str, eqO_int, hw, wr, re, fldD, lookF]
theorem flatR (R : List Ans) : (MO.lst (dR R)).refs = [] := dR_refs R
theorem flatS (n : Int) : (stO n).refs = [] := rfl
theorem new_ev (R : List Ans) : newD P (clF P 121) 11 [] [.lst (dR R)] = .ok (.ref 1) [.lst (dR R), stO 0] := by
  have hc : callIn (runF P 4) [.ref 1] [.lst (dR R), .ins 11 []] = .ok .non [.lst (dR R), stO 0] := by
    have := callIn_flat (run := runF P 4) (ds := [.ref 1]) (M := [.lst (dR R), .ins 11 []]) (L := [stO 0]) (J := [stO 0]) (sel := [1]) (d := .non) rfl (by decide) (fun n hn => by
      rw [List.mem_singleton] at hn
      subst hn
      exact ⟨_, rfl, rfl⟩) init_ev rfl (fun o ho => by rw [List.mem_singleton] at ho; rw [ho]; rfl) rfl rfl
    exact this
  unfold newD
  rw [cls_11]
  show (callD P (clF P 121) 4 [.ref 1] [.lst (dR R), .ins 11 []]).bind _ = _
  unfold callD defaults
  rw [fn_4]
  show (clF P 121 4 [.ref 1] [.lst (dR R), .ins 11 []]).bind _ = _
  rw [cl_of (by decide) (by rw [lv_4, lv_121]; decide), hc, bind_ok', if_pos rfl]
  rfl
theorem fits_call (R : List Ans) (a : Ans) (now : Int) : clF P 121 120 [.ref 1, dA a] [.lst (dR R), stO now] = .ok (.bl (a.w || decide (a.n = now))) [.lst (dR R), stO (if a.w then a.n else now)] := by
  rw [cl_of (by decide) (by rw [lv_120, lv_121]; decide)]
  have := callIn_flat (run := runF P 120) (ds := [.ref 1, dA a]) (M := [.lst (dR R), stO now]) (L := [stO (if a.w then a.n else now)]) (J := [stO (if a.w then a.n else now)]) (sel := [1]) (d := .bl (a.w || decide (a.n = now))) rfl (by show ([1] : List Nat).length < 1000; decide) (fun n hn => by
    rw [List.mem_singleton] at hn
    subst hn
    exact ⟨_, rfl, rfl⟩) (fits_ev a now) rfl (fun o ho => by rw [List.mem_singleton] at ho; rw [ho]; rfl) rfl rfl
  exact this
abbrev fwT : CG := .tup (.cons (.nm 2) (.cons (.nm 3) .nil))
abbrev fwB : CSs := (.cons (.ife (.not (.meth (.var 1) 20 (.cons (.var 3) .nil))) (.cons (.ret (.var 2)) .nil) .nil) (.cons (.kill [2, 3]) .nil))
theorem low2 (R : List Ans) (n : Int) : ∀ k ∈ Mem.refs (List.take 2 [MO.lst (dR R), stO n]), k < 2 := fun k hk => by
  rw [show List.take 2 [MO.lst (dR R), stO n] = [MO.lst (dR R), stO n] from rfl, refs_flat fun o ho => by
    rcases List.mem_cons.mp ho with e | e
    · rw [e]; exact flatR R
    · rw [List.mem_singleton] at e; rw [e]; rfl] at hk
  cases hk
theorem guard2 (R : List Ans) (n : Int) : guardOk (some (0, dR R)) [MO.lst (dR R), stO n] = true := by simp [guardOk, seqOf]
theorem meth_ev (R : List Ans) (a : Ans) (now : Int) (σ2 : Option D) : evE P (clF P 121) (.meth (.var 1) 20 (.cons (.var 3) .nil)) [some (.ref 0), some (.ref 1), σ2, some (dA a)] [.lst (dR R), stO now] = .ok (.bl (a.w || decide (a.n = now))) [.lst (dR R), stO (if a.w then a.n else now)] := by
  have h := fits_call R a now
  simp only [evE, evEs, List.getElem?_cons_succ, List.getElem?_cons_zero, bind_ok', stO, cls_11]
  simp [callD, defaults, fn_120, f_Store_fits]
  exact h
theorem fw_loop (R : List Ans) : ∀ (r : List Ans) (k : Nat) (now : Int), ∃ now', forL (asG P (clF P 121) fwT) (evSs P (clF P 121) fwB) (some (0, dR R)) 2 (enumF k (dR r)) [some (.ref 0), some (.ref 1), none, none] [MO.lst (dR R), stO now] =
      match wrongN now k r with
      | none => .ok (.next [some (.ref 0), some (.ref 1), none, none]) [MO.lst (dR R), stO now']
      | some j => .ok (.ret (.int j)) [MO.lst (dR R), stO now'] := by
  intro r
  induction r with
  | nil => exact fun k now => ⟨now, forL_nil (guard2 R now)⟩
  | cons a r ih =>
    intro k now
    have ec : enumF k (dR (a :: r)) = .tup [.int (k : Int), dA a] :: enumF (k + 1) (dR r) := rfl
    rw [ec]
    have gs : ∀ x : Int, gcSt 2 [some (.ref 0), some (.ref 1), none, none] [MO.lst (dR R), stO x] = ([some (.ref 0), some (.ref 1), none, none], [MO.lst (dR R), stO x]) := fun x => by
      rw [gcSt_low (fun n hn => by
        have hn' : n ∈ [0, 1] := hn
        simp at hn'
        omega) (low2 R x)]
      rfl
    have h1 : asG P (clF P 121) fwT (.tup [.int (k : Int), dA a]) [some (.ref 0), some (.ref 1), none, none] [MO.lst (dR R), stO now] = .ok [some (.ref 0), some (.ref 1), some (.int k), some (dA a)] [MO.lst (dR R), stO now] := by
      simp [asG, asGs, bind_ok']
    have hm := meth_ev R a now (some (.int k))
    by_cases hok : (a.w || decide (a.n = now)) = true
    · obtain ⟨now', e⟩ := ih (k + 1) (if a.w then a.n else now)
      refine ⟨now', ?_⟩
      rw [forL_next (σ2 := [some (.ref 0), some (.ref 1), none, none]) (M2 := [MO.lst (dR R), stO (if a.w then a.n else now)]) (guard2 R now) h1 (by
        rw [evSs, evS, evE, hm, bind_ok', hok]
        simp [bind_ok', evSs, evS, wipe]), gs, e]
      by_cases hw : a.w = true
      · simp [wrongN, hw]
      · simp [hw] at hok
        simp [wrongN, hw, hok]
    · refine ⟨if a.w then a.n else now, ?_⟩
      rw [forL_ret (d := .int k) (M2 := [MO.lst (dR R), stO (if a.w then a.n else now)]) (guard2 R now) h1 (by
        rw [evSs, evS, evE, hm, bind_ok', Bool.eq_false_iff.mpr hok]
        simp [bind_ok', evSs, evS, evE])]
      simp at hok
      simp [wrongN, hok]
theorem fw_ev (R : List Ans) : ∃ n, runF P 121 [.ref 0] [.lst (dR R)] = .ok (dO (wrongN 0 0 R)) [.lst (dR R), stO n] := by
  rw [runF_of fn_121]
  obtain ⟨now', e⟩ := fw_loop R R 0 0
  have e2 : evI P (clF P 121) (.enum (.var 0)) [some (.ref 0), some (.ref 1), none, none] [MO.lst (dR R), stO 0] = .ok (enumF 0 (dR R), some (0, dR R)) [MO.lst (dR R), stO 0] := by
    simp [evI, evE, bind_ok', seqOf]
  have e3 := (for_ev (g := fwT) (body := fwB) e2).trans e
  have e4 : evE P (clF P 121) (.new 11 .nil) [some (.ref 0), none, none, none] [MO.lst (dR R)] = .ok (.ref 1) [.lst (dR R), stO 0] := by
    rw [evE, evEs, bind_ok']
    exact new_ev R
  refine ⟨now', ?_⟩
  unfold runB
  rw [if_pos (by decide)]
  show (evSs P (clF P 121) (.cons (.asg (.nm 1) (.new 11 .nil)) (.cons (.for fwT (.enum (.var 0)) fwB) (.cons (.ret .non) .nil))) [some (.ref 0), none, none, none] [MO.lst (dR R)]).bind _ = _
  rw [evSs, evS, e4, bind_ok', asG, bindN_ok', bind_ok']
  show ((evSs P (clF P 121) (.cons (.for fwT (.enum (.var 0)) fwB) (.cons (.ret .non) .nil)) [some (.ref 0), some (.ref 1), none, none] [MO.lst (dR R), stO 0])).bind _ = _
  rw [evSs, e3]
  cases wrongN 0 0 R <;> simp [dO, bind_ok', evSs, evS, evE]
/-! ### right -/
theorem cl_fw {f : Nat} (hf : 121 < f) (hl : 1 < P.lv f) (R : List Ans) : clF P f 121 [.ref 1] [.lst (dR R), .lst (dR R)] = .ok (dO (wrongN 0 0 R)) [.lst (dR R), .lst (dR R)] := by
  rw [cl_of hf (by rw [lv_121]; exact hl)]
  obtain ⟨n, e⟩ := fw_ev R
  exact callIn_flat (run := runF P 121) (ds := [.ref 1]) (M := [.lst (dR R), .lst (dR R)]) (L := [.lst (dR R)]) (J := [.lst (dR R), stO n]) (sel := [1]) (d := dO (wrongN 0 0 R)) rfl (by show ([1] : List Nat).length < 1000; decide) (fun n hn => by
    rw [List.mem_singleton] at hn
    subst hn
    exact ⟨_, rfl, flatR R⟩) e rfl (fun o ho => by rw [List.mem_singleton] at ho; rw [ho]; exact flatR R) (by cases wrongN 0 0 R <;> rfl) rfl
theorem plain_ev (R : List Ans) : runF P 122 [.ref 0] [.lst (dR R)] = .ok (.bl (wrongN 0 0 R).isNone) [.lst (dR R)] := by
  rw [runF_of fn_122]
  have h : clF P 122 121 [.ref 0] [.lst (dR R)] = .ok (dO (wrongN 0 0 R)) [.lst (dR R)] := by
    rw [cl_of (by decide) (by rw [lv_121, lv_122]; decide)]
    obtain ⟨n, e⟩ := fw_ev R
    exact callIn_flat (run := runF P 121) (ds := [.ref 0]) (M := [.lst (dR R)]) (L := [.lst (dR R)]) (J := [.lst (dR R), stO n]) (sel := [0]) (d := dO (wrongN 0 0 R)) rfl (by show ([0] : List Nat).length < 1000; decide) (fun n hn => by
      rw [List.mem_singleton] at hn
      subst hn
      exact ⟨_, rfl, flatR R⟩) e rfl (fun o ho => by rw [List.mem_singleton] at ho; rw [ho]; exact flatR R) (by cases wrongN 0 0 R <;> rfl) rfl
  simp [runB, f_plain, b_plain, evSs, evS, evE, evEs, bind_ok', callD, defaults, fn_121, f_first_wrong, h]
  cases wrongN 0 0 R <;> simp [dO]
theorem cl_plain (R : List Ans) : clF P 191 122 [.ref 1] [.lst (dR R), .lst (dR R)] = .ok (.bl (wrongN 0 0 R).isNone) [.lst (dR R), .lst (dR R)] := by
  rw [cl_of (by decide) (by rw [lv_122, lv_191]; decide)]
  exact callIn_flat (run := runF P 122) (ds := [.ref 1]) (M := [.lst (dR R), .lst (dR R)]) (L := [.lst (dR R)]) (J := [.lst (dR R)]) (sel := [1]) (d := .bl (wrongN 0 0 R).isNone) rfl (by show ([1] : List Nat).length < 1000; decide) (fun n hn => by
    rw [List.mem_singleton] at hn
    subst hn
    exact ⟨_, rfl, flatR R⟩) (plain_ev R) rfl (fun o ho => by rw [List.mem_singleton] at ho; rw [ho]; exact flatR R) rfl rfl
theorem cl_wrong (R : List Ans) : clF P 191 190 [.ref 0] [.lst (dR R)] = .ok (dO (wrongN 0 0 R)) [.lst (dR R)] := by
  rw [cl_of (by decide) (by rw [lv_190, lv_191]; decide)]
  exact callIn_flat (run := runF P 190) (ds := [.ref 0]) (M := [.lst (dR R)]) (L := [.lst (dR R)]) (J := [.lst (dR R)]) (sel := [0]) (d := dO (wrongN 0 0 R)) rfl (by show ([0] : List Nat).length < 1000; decide) (fun n hn => by
    rw [List.mem_singleton] at hn
    subst hn
    exact ⟨_, rfl, flatR R⟩) (wrong_ev R) rfl (fun o ho => by rw [List.mem_singleton] at ho; rw [ho]; exact flatR R) (by cases wrongN 0 0 R <;> rfl) rfl
abbrev riB : CSs := (.cons (.asg (.nm 3) (.blt .list (.cons (.var 0) .nil))) (.cons (.asg (.nm 4) (.call 121 (.cons (.var 3) .nil))) (.cons (.asg (.nm 5) (.call 122 (.cons (.var 3) .nil))) (.cons (.ife (.or (.cons (.isTy (.var 4) .bool) (.cons (.cmp .ne (.var 4) (.var 1)) (.cons (.not (.isTy (.var 5) .bool)) (.cons (.cmp .ne (.var 5) (.isN (.var 1))) .nil))))) (.cons (.ret (.bl false)) .nil) .nil) (.cons (.ife (.cmp .ne (.var 3) (.var 0)) (.cons (.ret (.bl false)) .nil) .nil) (.cons (.expr (.bm .clear (.var 3) .nil)) (.cons (.kill [2, 3, 4, 5]) .nil)))))))
theorem clean_dO (o : Option Nat) : D.clean (dO o) 20 = true := by cases o <;> rfl
theorem clean_dR (R : List Ans) : D.cleans (dR R) 7 = true := cleans_map (fun a => by simp [dA, D.clean, D.cleans]) R
theorem eqO_bl (M : Mem) (a b : Bool) : eqO M (.bl a) (.bl b) = some (a == b) := by cases a <;> cases b <;> simp [eqO, D.clean, viewF, view, viewD, PyData.depth, PyData.eqv]
theorem ri_turn (R : List Ans) (x : D) : evSs P (clF P 191) riB [some (.ref 0), some (dO (wrongN 0 0 R)), some x, none, none, none] [MO.lst (dR R)] = .ok (.next [some (.ref 0), some (dO (wrongN 0 0 R)), none, none, none, none]) [.lst (dR R), .lst []] := by
  have h1 := cl_fw (f := 191) (by decide) (by rw [lv_191]; decide) R
  have h2 := cl_plain R
  have e1 : evSs P (clF P 191) riB [some (.ref 0), some (dO (wrongN 0 0 R)), some x, none, none, none] [MO.lst (dR R)] = evSs P (clF P 191) (.cons (.ife (.or (.cons (.isTy (.var 4) .bool) (.cons (.cmp .ne (.var 4) (.var 1)) (.cons (.not (.isTy (.var 5) .bool)) (.cons (.cmp .ne (.var 5) (.isN (.var 1))) .nil))))) (.cons (.ret (.bl false)) .nil) .nil) (.cons (.ife (.cmp .ne (.var 3) (.var 0)) (.cons (.ret (.bl false)) .nil) .nil) (.cons (.expr (.bm .clear (.var 3) .nil)) (.cons (.kill [2, 3, 4, 5]) .nil)))) [some (.ref 0), some (dO (wrongN 0 0 R)), some x, some (.ref 1), some (dO (wrongN 0 0 R)), some (.bl (wrongN 0 0 R).isNone)] [MO.lst (dR R), MO.lst (dR R)] := by
    simp [evSs, evS, evE, evEs, asG, bind_ok', bindN_ok', bltD, seqD, seqOf, callD, defaults, fn_121, fn_122, f_first_wrong, f_plain, h1, h2]
  rw [e1]
  have c1 := clean_dO (wrongN 0 0 R)
  have q1 : ∀ M, eqO M (dO (wrongN 0 0 R)) (dO (wrongN 0 0 R)) = some true := fun M => by rw [eqO_clean c1 c1]; simp
  have q2 : eqO [MO.lst (dR R), MO.lst (dR R)] (.ref 1) (.ref 0) = some true := by rw [eqO_lst (xs := dR R) (ys := dR R) rfl rfl (clean_dR R) (clean_dR R)]; simp
  have q3 : ∀ M, PD.isTy (dO (wrongN 0 0 R)) .bool M = some false := fun M => by cases wrongN 0 0 R <;> rfl
  have q4 : decide (dO (wrongN 0 0 R) = .non) = (wrongN 0 0 R).isNone := by cases wrongN 0 0 R <;> simp [dO]
  have q5 : ∀ M b, PD.isTy (.bl b) .bool M = some true := fun M b => rfl
  simp [evSs, evS, evE, evEs, evOr, asG, bind_ok', bindN_ok', Rs.ofO, cmpD, q1, q2, q3, q4, q5, eqO_bl, bmOk, kindD, bmD, wipe]
theorem right_ev (R : List Ans) : runF P 191 [.ref 0] [.lst (dR R)] = .ok (.bl true) [.lst (dR R)] := by
  rw [runF_of fn_191]
  have gs : gcSt 1 [some (.ref 0), some (dO (wrongN 0 0 R)), none, none, none, none] [MO.lst (dR R), MO.lst []] = ([some (.ref 0), some (dO (wrongN 0 0 R)), none, none, none, none], [MO.lst (dR R)]) := by
    have low' : ∀ n ∈ Mem.refs (List.take 1 [MO.lst (dR R), MO.lst []]), n < 1 := low1 R
    have rt : ∀ n ∈ Sg.refs [some (.ref 0), some (dO (wrongN 0 0 R)), none, none, none, none], n < 1 := fun n hn => by
      have : n ∈ [0] := by cases e : wrongN 0 0 R <;> simpa [e, dO, Sg.refs, D.refs] using hn
      have : n = 0 := by simpa using this
      omega
    rw [gcSt_low rt low']
    rfl
  have e2 : evI P (clF P 191) (.rng (.cons (.int 2) .nil)) [some (.ref 0), some (dO (wrongN 0 0 R)), none, none, none, none] [MO.lst (dR R)] = .ok ([.int 0, .int 1], none) [MO.lst (dR R)] := by
    simp [evI, evE, evEs, bind_ok', rngItems, SZ, Rs.ofO]
    decide
  have tg : ∀ x, asG P (clF P 191) (.nm 2) x [some (.ref 0), some (dO (wrongN 0 0 R)), none, none, none, none] [MO.lst (dR R)] = .ok [some (.ref 0), some (dO (wrongN 0 0 R)), some x, none, none, none] [MO.lst (dR R)] := fun x => by simp [asG]
  have e3 : evS P (clF P 191) (.for (.nm 2) (.rng (.cons (.int 2) .nil)) riB) [some (.ref 0), some (dO (wrongN 0 0 R)), none, none, none, none] [MO.lst (dR R)] = .ok (.next [some (.ref 0), some (dO (wrongN 0 0 R)), none, none, none, none]) [MO.lst (dR R)] := by
    rw [for_ev e2]
    show forL _ _ none 1 [.int 0, .int 1] _ _ = _
    rw [forL_next (guard_none _) (tg _) (ri_turn R _), gs, forL_next (guard_none _) (tg _) (ri_turn R _), gs, forL_nil (guard_none _)]
  have e4 : evE P (clF P 191) (.call 190 (.cons (.var 0) .nil)) [some (.ref 0), none, none, none, none, none] [MO.lst (dR R)] = .ok (dO (wrongN 0 0 R)) [MO.lst (dR R)] := by
    have := cl_wrong R
    simp [evE, evEs, bind_ok', callD, defaults, fn_190, f_law_wrong, this]
  unfold runB
  rw [if_pos (by decide)]
  show (evSs P (clF P 191) (.cons (.asg (.nm 1) (.call 190 (.cons (.var 0) .nil))) (.cons (.for (.nm 2) (.rng (.cons (.int 2) .nil)) riB) (.cons (.ret (.bl true)) .nil))) [some (.ref 0), none, none, none, none, none] [MO.lst (dR R)]).bind _ = _
  rw [evSs, evS, e4, bind_ok', asG, bindN_ok', bind_ok']
  show ((evSs P (clF P 191) (.cons (.for (.nm 2) (.rng (.cons (.int 2) .nil)) riB) (.cons (.ret (.bl true)) .nil)) [some (.ref 0), some (dO (wrongN 0 0 R)), none, none, none, none] [MO.lst (dR R)])).bind _ = _
  rw [evSs, e3, bind_ok']
  simp [bind_ok', evSs, evS, evE]
/-! ### an answer -/
def nowN : Int → List Ans → Int
  | x, [] => x
  | x, a :: r => nowN (if a.w then a.n else x) r
abbrev noT : CG := (.tup (.cons (.nm 2) (.cons (.nm 3) (.cons (.nm 4) .nil))))
abbrev noB : CSs := (.cons (.ife (.cmp .eq (.var 2) (.str [119, 114, 111, 116, 101])) (.cons (.asg (.nm 1) (.var 4)) .nil) .nil) (.cons (.kill [2, 3, 4]) .nil))
theorem now_loop (cl : Cl) (R : List Ans) : ∀ (r : List Ans) (x : Int), forL (asG P cl noT) (evSs P cl noB) (some (0, dR R)) 1 (dR r) [some (.ref 0), some (.int x), none, none, none] [MO.lst (dR R)] = .ok (.next [some (.ref 0), some (.int (nowN x r)), none, none, none]) [MO.lst (dR R)]
  | [], x => forL_nil (guard1 R)
  | a :: r, x => by
    have gs : ∀ y : Int, gcSt 1 [some (.ref 0), some (.int y), none, none, none] [MO.lst (dR R)] = ([some (.ref 0), some (.int y), none, none, none], [MO.lst (dR R)]) := fun y => by
      rw [gcSt_low (fun n hn => by simpa [Sg.refs, D.refs] using hn) (low1 R)]
      rfl
    have h1 : asG P cl noT (dA a) [some (.ref 0), some (.int x), none, none, none] [MO.lst (dR R)] = .ok [some (.ref 0), some (.int x), some (.str (if a.w then wr else re)), some (.int a.h), some (.int a.n)] [MO.lst (dR R)] := by
      simp [asG, asGs, bind_ok', dA]
    have ed : dR (a :: r) = dA a :: dR r := rfl
    rw [ed, forL_next (σ2 := [some (.ref 0), some (.int (if a.w then a.n else x)), none, none, none]) (M2 := [MO.lst (dR R)]) (guard1 R) h1 (by
      by_cases hw : a.w = true <;> simp [bind_ok', bindN_ok', evSs, evS, evE, cmpD, eqO_str, Rs.ofO, hw, wr, re, wipe, asG]), gs, now_loop cl R r]
    rfl
theorem now_ev (R : List Ans) : runF P 192 [.ref 0] [.lst (dR R)] = .ok (.int (nowN 0 R)) [.lst (dR R)] := by
  rw [runF_of fn_192]
  have e2 : evI P (clF P 192) (.seq (.var 0)) [some (.ref 0), some (.int 0), none, none, none] [MO.lst (dR R)] = .ok (dR R, some (0, dR R)) [MO.lst (dR R)] := by
    simp [evI, evE, bind_ok', itemsOf, seqOf]
  have e3 := (for_ev (g := noT) (body := noB) e2).trans (now_loop (clF P 192) R R 0)
  unfold runB
  rw [if_pos (by decide)]
  show (evSs P (clF P 192) (.cons (.asg (.nm 1) (.int 0)) (.cons (.for noT (.seq (.var 0)) noB) (.cons (.ret (.var 1)) .nil))) [some (.ref 0), none, none, none, none] [MO.lst (dR R)]).bind _ = _
  rw [evSs, evS, evE, bind_ok', asG, bindN_ok', bind_ok']
  show ((evSs P (clF P 192) (.cons (.for noT (.seq (.var 0)) noB) (.cons (.ret (.var 1)) .nil)) [some (.ref 0), some (.int 0), none, none, none] [MO.lst (dR R)])).bind _ = _
  rw [evSs, e3, bind_ok']
  simp [bind_ok', evSs, evS, evE]
/-- a drawn one of some numbers -/
theorem one_ev (a b : Int) (xs : List Int) (hb : B31 b) (hx : xs ≠ []) (hl : xs.length < 1000) : ∃ z a' b', runF P 163 [.ref 0, .ref 1] [.lst [.int a, .int b], .lst (xs.map .int)] = .ok (.int z) [.lst [.int a', .int b'], .lst (xs.map .int)] ∧ B31 b' := by
  have hpos : 0 < xs.length := List.length_pos_iff.mpr hx
  have hf : fdivOk (xs.length : Int) = true := by
    have h9 : (xs.length).log2 < 9000 := by
      have : xs.length < 2 ^ 9000 := Nat.lt_of_lt_of_le hl (by
        have : (2 : Nat) ^ 10 ≤ 2 ^ 9000 := Nat.pow_le_pow_right (by decide) (by decide)
        exact Nat.le_trans (by decide) this)
      exact (Nat.log2_lt (by omega)).mpr this
    unfold fdivOk
    simp
    omega
  obtain ⟨p, a', b', e, h1, h2, h3⟩ := pick_ev a b xs.length hb (by omega) hf
  have hc : clF P 163 162 [.ref 0, .int xs.length] [.lst [.int a, .int b], .lst (xs.map .int)] = .ok (.int p) [.lst [.int a', .int b'], .lst (xs.map .int)] := by
    rw [cl_of (by decide) (by rw [lv_162, lv_163]; decide)]
    exact callIn_flat (run := runF P 162) (ds := [.ref 0, .int xs.length]) (M := [.lst [.int a, .int b], .lst (xs.map .int)]) (L := [.lst [.int a', .int b']]) (J := [.lst [.int a', .int b']]) (sel := [0]) (d := .int p) rfl (by show ([0] : List Nat).length < 1000; decide) (fun n hn => by
      rw [List.mem_singleton] at hn
      subst hn
      exact ⟨_, rfl, rfl⟩) e rfl (fun o ho => by rw [List.mem_singleton] at ho; rw [ho]; rfl) rfl rfl
  have hp : p.toNat < xs.length := by omega
  refine ⟨xs[p.toNat], a', b', ?_, h3⟩
  rw [runF_of fn_163]
  have hix : ixD xs.length p = some p.toNat := by
    unfold ixD
    rw [if_pos h1, if_pos h2]
  simp [runB, f_law_one, b_law_one, evSs, evS, evE, evEs, bind_ok', bltD, callD, defaults, fn_162, f_law_pick, hc, idxD, atD, hix, Rs.ofO, hp]
abbrev wO (a b : Int) : MO := .lst [.int a, .int b]
theorem pick_call {f : Nat} (hf : 162 < f) (hl : 0 < P.lv f) {M : Mem} {j : Nat} {a b : Int} (h : M[j]? = some (wO a b)) (m : Int) (hb : B31 b) (hm : 0 < m) (hm2 : fdivOk m = true) :
    ∃ p a' b', clF P f 162 [.ref j, .int m] M = .ok (.int p) (M.set j (wO a' b')) ∧ 0 ≤ p ∧ p < m ∧ B31 b' := by
  obtain ⟨p, a', b', e, h1, h2, h3⟩ := pick_ev a b m hb hm hm2
  refine ⟨p, a', b', ?_, h1, h2, h3⟩
  rw [cl_of hf (by rw [lv_162]; exact hl)]
  exact callIn_at1 h rfl rfl e rfl rfl rfl
theorem call162 (f : Nat) (ds : List D) (M : Mem) (h : ds.length = 2) : callD P (clF P f) 162 ds M = clF P f 162 ds M := by
  unfold callD defaults
  rw [fn_162]
  simp [f_law_pick, h]
theorem fd5 : fdivOk 5 = true := by decide
theorem fd4 : fdivOk 4 = true := by decide
theorem fd6 : fdivOk 6 = true := by decide
theorem fd8 : fdivOk 8 = true := by decide
theorem fd20 : fdivOk (10 ^ 20) = true := by decide +kernel
theorem fd49 : fdivOk (10 ^ 49) = true := by decide +kernel
/-- [one number, a great one][one time in k] -/
theorem two_ev (cl : Cl) (hcl : cl = clF P 193) {σ : Sg} {M : Mem} {a b : Int} (hσ : σ[0]? = some (some (.ref 0))) (h0 : M[0]? = some (wO a b)) (hb : B31 b) (m k s n : Int) (hm : 0 < m) (hk : 0 < k) (hm2 : fdivOk m = true) (hk2 : fdivOk k = true) (hn : powOk 10 n = true) (hn2 : fdivOk (10 ^ n.toNat) = true)
    (e1 : CE) (he1 : ∀ M p M', clF P 193 162 [.ref 0, .int m] M = .ok (.int p) M' → evE P (clF P 193) e1 σ M = .ok (.int (p - s)) M') :
    ∃ z a' b' t, evE P cl (.idx (.lst (.cons e1 (.cons (.call 162 (.cons (.var 0) (.cons (.bin .pow (.int 10) (.int n)) .nil))) .nil))) (.blt .int (.cons (.cmp .eq (.call 162 (.cons (.var 0) (.cons (.int k) .nil))) (.int 0)) .nil))) σ M = .ok (.int z) (M.set 0 (wO a' b') ++ [t]) ∧ B31 b' := by
  subst hcl
  obtain ⟨p1, a1, b1, c1, -, -, hb1⟩ := pick_call (f := 193) (by decide) (by rw [lv_193]; decide) h0 m hb hm hm2
  have l0 : 0 < M.length := (List.getElem?_eq_some_iff.mp h0).1
  have h1 : (M.set 0 (wO a1 b1))[0]? = some (wO a1 b1) := by rw [List.getElem?_set_self l0]
  obtain ⟨p2, a2, b2, c2, -, -, hb2⟩ := pick_call (f := 193) (by decide) (by rw [lv_193]; decide) h1 (10 ^ n.toNat) hb1 (by exact Int.pow_pos (by decide)) hn2
  rw [List.set_set] at c2
  have h2 : (M.set 0 (wO a2 b2) ++ [MO.lst [.int (p1 - s), .int p2]])[0]? = some (wO a2 b2) := by
    rw [List.getElem?_append_left (by rw [List.length_set]; exact l0), List.getElem?_set_self l0]
  obtain ⟨p3, a3, b3, c3, -, -, hb3⟩ := pick_call (f := 193) (by decide) (by rw [lv_193]; decide) h2 k hb2 hk hk2
  have e3 : (M.set 0 (wO a2 b2) ++ [MO.lst [.int (p1 - s), .int p2]]).set 0 (wO a3 b3) = M.set 0 (wO a3 b3) ++ [MO.lst [.int (p1 - s), .int p2]] := by
    rw [List.set_append_left _ _ (by rw [List.length_set]; exact l0), List.set_set]
  rw [e3] at c3
  refine ⟨if p3 = 0 then p2 else p1 - s, a3, b3, MO.lst [.int (p1 - s), .int p2], ?_, hb3⟩
  have g0 : (M.set 0 (wO a3 b3) ++ [MO.lst [.int (p1 - s), .int p2]])[M.length]? = some (MO.lst [.int (p1 - s), .int p2]) := by
    rw [List.getElem?_append_right (by simp)]
    simp
  have c0 := he1 _ _ _ c1
  simp only [evE, evEs, c0, bind_ok', binD, hσ, call162, List.length_cons, List.length_nil, hn, if_pos, List.length_set, Int.toNat_natCast, c2, c3, cmpD, eqO_int, Rs.ofO, Option.map_some, bltD, idxD, g0]
  by_cases hp : p3 = 0 <;> simp [hp, atD, ixD, idxD, g0, Rs.ofO]
theorem refs_ints (xs : List Int) : (MO.lst (xs.map .int)).refs = [] := refss_map (fun _ => rfl) xs
theorem one_call {M : Mem} {j : Nat} {a b : Int} {xs : List Int} (hj : j ≠ 0) (h0 : M[0]? = some (wO a b)) (h1 : M[j]? = some (.lst (xs.map .int))) (hb : B31 b) (hx : xs ≠ []) (hl : xs.length < 1000) :
    ∃ z a' b', clF P 193 163 [.ref 0, .ref j] M = .ok (.int z) (M.set 0 (wO a' b')) ∧ B31 b' := by
  obtain ⟨z, a', b', e, hb'⟩ := one_ev a b xs hb hx hl
  refine ⟨z, a', b', ?_, hb'⟩
  rw [cl_of (by decide) (by rw [lv_163, lv_193]; decide)]
  rw [callIn_at2 (Ne.symm hj) h0 h1 rfl (refs_ints xs) rfl e rfl rfl (refs_ints xs) rfl]
  congr 1
  refine set_same ?_
  rw [List.getElem?_set_ne (Ne.symm hj)]
  exact h1
theorem now_call {M : Mem} {j : Nat} {R : List Ans} (h : M[j]? = some (.lst (dR R))) : clF P 193 192 [.ref j] M = .ok (.int (nowN 0 R)) M := by
  rw [cl_of (by decide) (by rw [lv_192, lv_193]; decide), callIn_at1 h (flatR R) rfl (now_ev R) rfl (flatR R) rfl, set_same h]
theorem call192 (f : Nat) (d : D) (M : Mem) : callD P (clF P f) 192 [d] M = clF P f 192 [d] M := by
  unfold callD defaults
  rw [fn_192]
  simp [f_law_now]
theorem call163 (f : Nat) (d e : D) (M : Mem) : callD P (clF P f) 163 [d, e] M = clF P f 163 [d, e] M := by
  unfold callD defaults
  rw [fn_163]
  simp [f_law_one]
theorem answer_ev (a b : Int) (R O : List Ans) (hb : B31 b) (hl : R.length + O.length < 900) : ∃ A a' b' J, runF P 193 [.ref 0, .ref 1, .ref 2] [wO a b, .lst (dR R), .lst (dR O)] = .ok (dA A) J ∧ J.take 3 = [wO a' b', .lst (dR R), .lst (dR O)] ∧ B31 b' := by
  rw [runF_of fn_193]
  obtain ⟨hd, a1, b1, t1, e1, hb1⟩ := two_ev (clF P 193) rfl (σ := [some (.ref 0), some (.ref 1), some (.ref 2), none, none, none, none, none, none]) (M := [wO a b, .lst (dR R), .lst (dR O)]) rfl rfl hb 4 5 0 20 (by decide) (by decide) fd4 fd5 (by decide) fd20 (.call 162 (.cons (.var 0) (.cons (.int 4) .nil))) (fun M p M' h => by
    simp [evE, evEs, bind_ok', call162, h])
  obtain ⟨nu, a2, b2, t2, e2, hb2⟩ := two_ev (clF P 193) rfl (σ := [some (.ref 0), some (.ref 1), some (.ref 2), some (.int hd), none, none, none, none, none]) (M := [wO a1 b1, .lst (dR R), .lst (dR O), t1]) rfl rfl hb1 5 6 2 49 (by decide) (by decide) fd5 fd6 (by decide) fd49 (.bin .sub (.call 162 (.cons (.var 0) (.cons (.int 5) .nil))) (.int 2)) (fun M p M' h => by
    simp [evE, evEs, bind_ok', call162, h, binD])
  obtain ⟨w, a3, b3, c3, hw1, hw2, hb3⟩ := pick_call (f := 193) (by decide) (by rw [lv_193]; decide) (M := [wO a2 b2, .lst (dR R), .lst (dR O), t1, t2]) (j := 0) rfl 8 hb2 (by decide) fd8
  unfold runB
  rw [if_pos (by decide)]
  show ∃ A a' b' J, (evSs P (clF P 193) b_law_answer [some (.ref 0), some (.ref 1), some (.ref 2), none, none, none, none, none, none] [wO a b, .lst (dR R), .lst (dR O)]).bind _ = Rs.ok (dA A) J ∧ _
  unfold b_law_answer
  have e5 : evE P (clF P 193) (.call 162 (.cons (.var 0) (.cons (.int 8) .nil))) [some (.ref 0), some (.ref 1), some (.ref 2), some (.int hd), some (.int nu), none, none, none, none] [wO a2 b2, .lst (dR R), .lst (dR O), t1, t2] = .ok (.int w) [wO a3 b3, .lst (dR R), .lst (dR O), t1, t2] := by
    simp only [evE, evEs, List.getElem?_cons_zero, bind_ok', call162, List.length_cons, List.length_nil]
    exact c3
  rw [ss_asg' (σ' := [some (.ref 0), some (.ref 1), some (.ref 2), some (.int hd), none, none, none, none, none]) (M' := [wO a1 b1, .lst (dR R), .lst (dR O), t1]) e1,
    ss_asg' (σ' := [some (.ref 0), some (.ref 1), some (.ref 2), some (.int hd), some (.int nu), none, none, none, none]) (M' := [wO a2 b2, .lst (dR R), .lst (dR O), t1, t2]) e2,
    ss_asg' (σ' := [some (.ref 0), some (.ref 1), some (.ref 2), some (.int hd), some (.int nu), some (.int w), none, none, none]) (M' := [wO a3 b3, .lst (dR R), .lst (dR O), t1, t2]) e5]
  by_cases hw3 : w < 3
  · rw [ss_ifT (M1 := [wO a3 b3, .lst (dR R), .lst (dR O), t1, t2]) (by simp [evE, bind_ok', cmpD, Rs.ofO, hw3])]
    refine ⟨⟨true, hd, nu⟩, a3, b3, [wO a3 b3, .lst (dR R), .lst (dR O), t1, t2], ?_, rfl, hb3⟩
    rw [ss_ret (d := dA ⟨true, hd, nu⟩) (M1 := [wO a3 b3, .lst (dR R), .lst (dR O), t1, t2]) (by simp [evE, evEs, bind_ok', dA, wr])]
    rfl
  rw [ss_ifN (M1 := [wO a3 b3, .lst (dR R), .lst (dR O), t1, t2]) (by simp [evE, bind_ok', cmpD, Rs.ofO, hw3])]
  have n1 := now_call (M := [wO a3 b3, .lst (dR R), .lst (dR O), t1, t2]) (j := 1) (R := R) rfl
  rw [ss_asg' (σ' := [some (.ref 0), some (.ref 1), some (.ref 2), some (.int hd), some (.int nu), some (.int w), some (.int (nowN 0 R)), none, none]) (M' := [wO a3 b3, .lst (dR R), .lst (dR O), t1, t2]) (d := .int (nowN 0 R)) (M1 := [wO a3 b3, .lst (dR R), .lst (dR O), t1, t2]) (by simp [evE, evEs, bind_ok', call192, n1])]
  -- ahead
  have hz : R.length + O.length ≤ SZ := by
    have : SZ = 16777216 := rfl
    omega
  have e6 : evE P (clF P 193) (.comp (.idx (.var 8) (.int 2)) (.nm 8) (.seq (.bin .add (.var 1) (.var 2))) .no [8]) [some (.ref 0), some (.ref 1), some (.ref 2), some (.int hd), some (.int nu), some (.int w), some (.int (nowN 0 R)), none, none] [wO a3 b3, .lst (dR R), .lst (dR O), t1, t2] =
      .ok (.ref 6) [wO a3 b3, .lst (dR R), .lst (dR O), t1, t2, .lst (dR R ++ dR O), .lst (((R ++ O).map Ans.n).map .int)] := by
    have e0 : evI P (clF P 193) (.seq (.bin .add (.var 1) (.var 2))) [some (.ref 0), some (.ref 1), some (.ref 2), some (.int hd), some (.int nu), some (.int w), some (.int (nowN 0 R)), none, none] [wO a3 b3, .lst (dR R), .lst (dR O), t1, t2] = .ok (dR R ++ dR O, some (5, dR R ++ dR O)) [wO a3 b3, .lst (dR R), .lst (dR O), t1, t2, .lst (dR R ++ dR O)] := by
      simp [evI, evE, bind_ok', binD, seqOf, itemsOf, hz]
    have vv : ((dR R ++ dR O).map fun d => match d with | .tup [_, _, x] => x | d => d) = ((R ++ O).map Ans.n).map .int := by
      rw [← List.map_append, List.map_map, List.map_map]
      rfl
    have cm := compL_map (tg := asG P (clF P 193) (.nm 8)) (tt := fun σ M => evC P (clF P 193) .no σ M) (te := evE P (clF P 193) (.idx (.var 8) (.int 2))) (gd := some (5, dR R ++ dR O)) (n := 6) (v := fun d => match d with | .tup [_, _, x] => x | d => d)
      (σ := [some (.ref 0), some (.ref 1), some (.ref 2), some (.int hd), some (.int nu), some (.int w), some (.int (nowN 0 R)), none, none]) (dR R ++ dR O) [] [wO a3 b3, .lst (dR R), .lst (dR O), t1, t2, .lst (dR R ++ dR O), .lst []] rfl (fun ds => by simp [guardOk, seqOf]) (by simp; omega) (fun x hx ds => by
        rw [← List.map_append] at hx
        obtain ⟨A, _, rfl⟩ := List.mem_map.mp hx
        refine ⟨_, by rw [asG], by rw [evC], ?_⟩
        simp [evE, bind_ok', idxD, dA, atD, ixD, Rs.ofO])
    rw [vv] at cm
    rw [evE, e0, bind_ok']
    show (compL (asG P (clF P 193) (.nm 8)) (fun σ M => evC P (clF P 193) .no σ M) (evE P (clF P 193) (.idx (.var 8) (.int 2))) (some (5, dR R ++ dR O)) [some (.ref 0), some (.ref 1), some (.ref 2), some (.int hd), some (.int nu), some (.int w), some (.int (nowN 0 R)), none, none] 6 (dR R ++ dR O) [wO a3 b3, .lst (dR R), .lst (dR O), t1, t2, .lst (dR R ++ dR O), .lst []]).bind _ = _
    rw [cm]
    rfl
  generalize hxs : (R ++ O).map Ans.n = xs at e6
  have hxl : xs.length < 900 := by rw [← hxs]; simp; omega
  generalize hT : MO.lst (dR R ++ dR O) = t3 at e6
  have e7 : evE P (clF P 193) (.bin .add (.comp (.idx (.var 8) (.int 2)) (.nm 8) (.seq (.bin .add (.var 1) (.var 2))) .no [8]) (.lst (.cons (.int 0) .nil))) [some (.ref 0), some (.ref 1), some (.ref 2), some (.int hd), some (.int nu), some (.int w), some (.int (nowN 0 R)), none, none] [wO a3 b3, .lst (dR R), .lst (dR O), t1, t2] =
      .ok (.ref 8) [wO a3 b3, .lst (dR R), .lst (dR O), t1, t2, t3, .lst (xs.map .int), .lst [.int 0], .lst ((xs ++ [0]).map .int)] := by
    rw [evE, e6, bind_ok']
    have : xs.length + 1 ≤ SZ := by
      have : SZ = 16777216 := rfl
      omega
    simp [evE, evEs, bind_ok', binD, seqOf, this]
  rw [ss_asg' (σ' := [some (.ref 0), some (.ref 1), some (.ref 2), some (.int hd), some (.int nu), some (.int w), some (.int (nowN 0 R)), some (.ref 8), none]) (M' := [wO a3 b3, .lst (dR R), .lst (dR O), t1, t2, t3, .lst (xs.map .int), .lst [.int 0], .lst ((xs ++ [0]).map .int)]) e7]
  by_cases hw6 : w < 6
  · rw [ss_ifT (M1 := [wO a3 b3, .lst (dR R), .lst (dR O), t1, t2, t3, .lst (xs.map .int), .lst [.int 0], .lst ((xs ++ [0]).map .int)]) (by simp [evE, bind_ok', cmpD, Rs.ofO, hw6])]
    refine ⟨⟨false, hd, nowN 0 R⟩, a3, b3, [wO a3 b3, .lst (dR R), .lst (dR O), t1, t2, t3, .lst (xs.map .int), .lst [.int 0], .lst ((xs ++ [0]).map .int)], ?_, rfl, hb3⟩
    rw [ss_ret (d := dA ⟨false, hd, nowN 0 R⟩) (M1 := [wO a3 b3, .lst (dR R), .lst (dR O), t1, t2, t3, .lst (xs.map .int), .lst [.int 0], .lst ((xs ++ [0]).map .int)]) (by simp [evE, evEs, bind_ok', dA, re])]
    rfl
  rw [ss_ifN (M1 := [wO a3 b3, .lst (dR R), .lst (dR O), t1, t2, t3, .lst (xs.map .int), .lst [.int 0], .lst ((xs ++ [0]).map .int)]) (by simp [evE, bind_ok', cmpD, Rs.ofO, hw6])]
  obtain ⟨z1, a4, b4, c4, hb4⟩ := one_call (M := [wO a3 b3, .lst (dR R), .lst (dR O), t1, t2, t3, .lst (xs.map .int), .lst [.int 0], .lst ((xs ++ [0]).map .int)]) (j := 8) (xs := xs ++ [0]) (by decide) rfl rfl hb3 (by simp) (by simp; omega)
  have n2 := now_call (M := [wO a4 b4, .lst (dR R), .lst (dR O), t1, t2, t3, .lst (xs.map .int), .lst [.int 0], .lst ((xs ++ [0]).map .int)]) (j := 2) (R := O) rfl
  obtain ⟨z2, a5, b5, c5, hb5⟩ := one_call (M := [wO a4 b4, .lst (dR R), .lst (dR O), t1, t2, t3, .lst (xs.map .int), .lst [.int 0], .lst ((xs ++ [0]).map .int), .lst ([z1, nowN 0 O, 0 - nowN 0 R, nowN 0 R + 1].map .int)]) (j := 9) (xs := [z1, nowN 0 O, 0 - nowN 0 R, nowN 0 R + 1]) (by decide) rfl rfl hb4 (by simp) (by simp)
  refine ⟨⟨false, hd, z2⟩, a5, b5, [wO a5 b5, .lst (dR R), .lst (dR O), t1, t2, t3, .lst (xs.map .int), .lst [.int 0], .lst ((xs ++ [0]).map .int), .lst ([z1, nowN 0 O, 0 - nowN 0 R, nowN 0 R + 1].map .int)], ?_, rfl, hb5⟩
  rw [ss_ret (d := dA ⟨false, hd, z2⟩) (M1 := [wO a5 b5, .lst (dR R), .lst (dR O), t1, t2, t3, .lst (xs.map .int), .lst [.int 0], .lst ((xs ++ [0]).map .int), .lst ([z1, nowN 0 O, 0 - nowN 0 R, nowN 0 R + 1].map .int)]) ?_]
  · rfl
  · have c4' : clF P 193 163 [.ref 0, .ref 8] [wO a3 b3, .lst (dR R), .lst (dR O), t1, t2, t3, .lst (xs.map .int), .lst [.int 0], .lst ((xs ++ [0]).map .int)] = .ok (.int z1) [wO a4 b4, .lst (dR R), .lst (dR O), t1, t2, t3, .lst (xs.map .int), .lst [.int 0], .lst ((xs ++ [0]).map .int)] := c4
    have c5' : clF P 193 163 [.ref 0, .ref 9] [wO a4 b4, .lst (dR R), .lst (dR O), t1, t2, t3, .lst (xs.map .int), .lst [.int 0], .lst ((xs ++ [0]).map .int), .lst [.int z1, .int (nowN 0 O), .int (0 - nowN 0 R), .int (nowN 0 R + 1)]] = .ok (.int z2) [wO a5 b5, .lst (dR R), .lst (dR O), t1, t2, t3, .lst (xs.map .int), .lst [.int 0], .lst ((xs ++ [0]).map .int), .lst [.int z1, .int (nowN 0 O), .int (0 - nowN 0 R), .int (nowN 0 R + 1)]] := c5
    simp only [evE, evEs, bind_ok', List.getElem?_cons_zero, List.getElem?_cons_succ, call163, call192, c4', n2, binD, List.cons_append, List.nil_append, List.length_cons, List.length_nil, Nat.zero_add, Nat.reduceAdd, c5', dA, re, List.map_cons, List.map_nil]
    rfl
end PD.K32

set_option Elab.async false
set_option linter.all false
set_option autoImplicit false
set_option maxRecDepth 100000
set_option maxHeartbeats 1000000
namespace PD.K32
open PySem
theorem right_call {M : Mem} {j : Nat} {R : List Ans} (h : M[j]? = some (.lst (dR R))) : clF P 194 191 [.ref j] M = .ok (.bl true) M := by
  rw [cl_of (by decide) (by rw [lv_191, lv_194]; decide), callIn_at1 h (flatR R) rfl (right_ev R) rfl (flatR R) rfl, set_same h]
theorem call191 (f : Nat) (d : D) (M : Mem) : callD P (clF P f) 191 [d] M = clF P f 191 [d] M := by
  unfold callD defaults
  rw [fn_191]
  simp [f_law_right]
theorem call161 (f : Nat) (d : D) (M : Mem) : callD P (clF P f) 161 [d] M = clF P f 161 [d] M := by
  unfold callD defaults
  rw [fn_161]
  simp [f_law_well]
theorem call193 (f : Nat) (d e g : D) (M : Mem) : callD P (clF P f) 193 [d, e, g] M = clF P f 193 [d, e, g] M := by
  unfold callD defaults
  rw [fn_193]
  simp [f_law_answer]
theorem well_call (c : Int) (M : Mem) : ∃ a b, clF P 194 161 [.int c] M = .ok (.ref M.length) (M ++ [wO a b]) ∧ B31 b := by
  obtain ⟨a, b, e, hb⟩ := well_ev c
  refine ⟨a, b, ?_, hb⟩
  rw [cl_of (by decide) (by rw [lv_161, lv_194]; decide)]
  exact callIn_new (run := runF P 161) (ds := [.int c]) (M := M) (L := []) (sel := []) (o := wO a b) rfl (by show 0 < 1000; decide) (fun n hn => nomatch hn) e rfl (fun o ho => nomatch ho) rfl
theorem answer_call {M : Mem} {a b : Int} {R O : List Ans} {x y : Nat} (hxy : x ≠ y) (hx3 : x ≠ 3) (hy3 : y ≠ 3) (h3 : M[3]? = some (wO a b)) (hx : M[x]? = some (.lst (dR R))) (hy : M[y]? = some (.lst (dR O))) (hb : B31 b) (hl : R.length + O.length < 900) :
    ∃ A a' b', clF P 194 193 [.ref 3, .ref x, .ref y] M = .ok (dA A) (M.set 3 (wO a' b')) ∧ B31 b' := by
  obtain ⟨A, a', b', J, e, hJ, hb'⟩ := answer_ev a b R O hb hl
  refine ⟨A, a', b', ?_, hb'⟩
  rw [cl_of (by decide) (by rw [lv_193, lv_194]; decide)]
  have n1 : ¬ x = 3 := hx3
  have n2 : ¬ y = 3 := hy3
  have n3 : ¬ y = x := fun z => hxy z.symm
  have eo : onceL [] [3, x, y] = [3, x, y] := by simp [onceL, n1, n2, n3]
  have m1 : (3 == x) = false := beq_eq_false_iff_ne.mpr fun z => hx3 z.symm
  have m2 : (3 == y) = false := beq_eq_false_iff_ne.mpr fun z => hy3 z.symm
  have m3 : (x == y) = false := beq_eq_false_iff_ne.mpr hxy
  have e2 : D.rens (renum 0 [3, x, y]) [.ref 3, .ref x, .ref y] = [.ref 0, .ref 1, .ref 2] := by
    show [D.ref (renum 0 [3, x, y] 3), D.ref (renum 0 [3, x, y] x), D.ref (renum 0 [3, x, y] y)] = _
    unfold renum
    simp [List.idxOf_cons, m1, m2, m3]
  have e3 : pickM M [3, x, y] = [wO a b, .lst (dR R), .lst (dR O)] := by
    unfold pickM
    simp [h3, hx, hy]
  have := callIn_flat (run := runF P 193) (ds := [.ref 3, .ref x, .ref y]) (M := M) (L := [wO a' b', .lst (dR R), .lst (dR O)]) (J := J) (sel := [3, x, y]) (d := dA A) eo (by show 3 < 1000; decide) (fun n hn => by
    simp only [List.mem_cons, List.not_mem_nil, or_false] at hn
    rcases hn with rfl | rfl | rfl
    · exact ⟨_, h3, rfl⟩
    · exact ⟨_, hx, flatR R⟩
    · exact ⟨_, hy, flatR O⟩) (by rw [e2, e3]; exact e) hJ (fun q hq => by
      simp only [List.mem_cons, List.not_mem_nil, or_false] at hq
      rcases hq with rfl | rfl | rfl
      · rfl
      · exact flatR R
      · exact flatR O) rfl rfl
  rw [this]
  congr 1
  show (((M.set 3 (wO a' b')).set x (.lst (dR R))).set y (.lst (dR O))) = _
  rw [set_same (j := x) (by rw [List.getElem?_set_ne (fun z => hx3 z.symm)]; exact hx), set_same (j := y) (by rw [List.getElem?_set_ne (fun z => hy3 z.symm)]; exact hy)]
abbrev inB : CSs := (.cons (.ife (.not (.call 191 (.cons (.var 8) .nil))) (.cons (.ret (.bl false)) .nil) .nil) (.cons (.kill [8]) .nil))
theorem in_loop {c p : Int} {A : Ans} {ns : List Int} {M : Mem} {ds : List D} (hg : guardOk (some (9, ds)) M = true) (hgc : gcSt 10 [some (.fro ns), some (.ref 0), some (.ref 1), some (.int c), some (.ref 3), some (.int p), some (dA A), some (.ref 6), none] M = ([some (.fro ns), some (.ref 0), some (.ref 1), some (.int c), some (.ref 3), some (.int p), some (dA A), some (.ref 6), none], M)) :
    ∀ (js : List D), (∀ d ∈ js, ∃ j X, d = .ref j ∧ M[j]? = some (.lst (dR X))) → forL (asG P (clF P 194) (.nm 8)) (evSs P (clF P 194) inB) (some (9, ds)) 10 js [some (.fro ns), some (.ref 0), some (.ref 1), some (.int c), some (.ref 3), some (.int p), some (dA A), some (.ref 6), none] M =
      .ok (.next [some (.fro ns), some (.ref 0), some (.ref 1), some (.int c), some (.ref 3), some (.int p), some (dA A), some (.ref 6), none]) M
  | [], _ => forL_nil hg
  | d :: js, h => by
    obtain ⟨j, X, rfl, hj⟩ := h d List.mem_cons_self
    have hr := right_call hj
    rw [forL_next (σ1 := [some (.fro ns), some (.ref 0), some (.ref 1), some (.int c), some (.ref 3), some (.int p), some (dA A), some (.ref 6), some (.ref j)]) (M1 := M) (σ2 := [some (.fro ns), some (.ref 0), some (.ref 1), some (.int c), some (.ref 3), some (.int p), some (dA A), some (.ref 6), none]) (M2 := M) hg (by rw [asG]; rfl) (by
      rw [ss_ifN (M1 := M) (by simp [evE, evEs, bind_ok', call191, hr]), ss_kill, ss_nil]
      rfl), hgc]
    exact in_loop hg hgc js fun e he => h e (List.mem_cons_of_mem _ he)
abbrev outB : CSs := (.cons (.asg (.nm 4) (.call 161 (.cons (.var 3) .nil))) (.cons (.asg (.nm 5) (.call 162 (.cons (.var 4) (.cons (.int 4) .nil)))) (.cons (.asg (.nm 6) (.call 193 (.cons (.var 4) (.cons (.idx (.lst (.cons (.var 1) (.cons (.var 2) .nil))) (.bin .mod (.var 5) (.int 2))) (.cons (.idx (.lst (.cons (.var 2) (.cons (.var 1) .nil))) (.bin .mod (.var 5) (.int 2))) .nil))))) (.cons (.ife (.cmp .ne (.var 5) (.int 1)) (.cons (.expr (.bm .append (.var 1) (.cons (.var 6) .nil))) .nil) .nil) (.cons (.ife (.cmp .ne (.var 5) (.int 0)) (.cons (.expr (.bm .append (.var 2) (.cons (.var 6) .nil))) .nil) .nil) (.cons (.asg (.nm 7) (.slc (.var 1) .no (.so (.call 162 (.cons (.var 4) (.cons (.bin .add (.blt .len (.cons (.var 1) .nil)) (.int 1)) .nil)))))) (.cons (.for (.nm 8) (.seq (.lst (.cons (.var 1) (.cons (.var 2) (.cons (.stp (.var 1) (.neg (.int 1))) (.cons (.bin .add (.var 1) (.var 2)) (.cons (.var 7) .nil))))))) inB) (.cons (.kill [3, 4, 5, 6, 7, 8]) .nil))))))))
abbrev s3 (ns : List Int) (a b c d e f : Option D) : Sg := [some (.fro ns), some (.ref 0), some (.ref 1), a, b, c, d, e, f]
theorem append_ev (cl : Cl) (ns : List Int) (c p : Int) (A : Ans) (b : Bool) (i : Nat) (hi : i < 2) (k : Int) (hk : (decide (p = k)) = !b) (M : Mem) (X : List Ans) (hX : M[i]? = some (.lst (dR X))) (hl : X.length < 900) (ss : CSs) :
    evSs P cl (.cons (.ife (.cmp .ne (.var 5) (.int k)) (.cons (.expr (.bm .append (.var (i + 1)) (.cons (.var 6) .nil))) .nil) .nil) ss) (s3 ns (some (.int c)) (some (.ref 3)) (some (.int p)) (some (dA A)) none none) M =
      evSs P cl ss (s3 ns (some (.int c)) (some (.ref 3)) (some (.int p)) (some (dA A)) none none) (M.set i (.lst (dR (if b then X ++ [A] else X)))) := by
  have hz : (dR X).length < SZ := by
    have : SZ = 16777216 := rfl
    rw [List.length_map]
    omega
  cases b with
  | true =>
    rw [ss_ifT (M1 := M) (by simp [evE, bind_ok', cmpD, eqO_int, Rs.ofO, hk])]
    have h1 : evE P cl (.bm .append (.var (i + 1)) (.cons (.var 6) .nil)) (s3 ns (some (.int c)) (some (.ref 3)) (some (.int p)) (some (dA A)) none none) M = .ok .non (M.set i (.lst (dR X ++ [dA A]))) := by
      have : i = 0 ∨ i = 1 := by omega
      rcases this with rfl | rfl <;> simp [evE, evEs, bind_ok', kindD, hX, bmOk, bmD] <;> simpa using hz
    rw [ss_expr h1, ss_nil, bind_ok']
    simp
  | false =>
    rw [ss_ifN (M1 := M) (by simp [evE, bind_ok', cmpD, eqO_int, Rs.ofO, hk])]
    rw [if_neg (by decide), set_same hX]
theorem fd_small {n : Nat} (h : n < 1000) : fdivOk ((n : Int) + 1) = true := by
  have h9 : ((n : Int) + 1).natAbs.log2 < 9000 := by
    have e : ((n : Int) + 1).natAbs = n + 1 := by omega
    rw [e]
    refine (Nat.log2_lt (by omega)).mpr ?_
    have : (2 : Nat) ^ 10 ≤ 2 ^ 9000 := Nat.pow_le_pow_right (by decide) (by decide)
    exact Nat.lt_of_lt_of_le (by omega) this
  unfold fdivOk
  simp only [Bool.and_eq_true, decide_eq_true_eq]
  exact ⟨by omega, h9⟩
theorem gc10 (ns : List Int) (c p : Int) (A : Ans) (R O B X Y : List Ans) (C : List D) (hC : (MO.lst C).refs = []) (w : MO) (hw : w.refs = []) :
    gcSt 10 [some (.fro ns), some (.ref 0), some (.ref 1), some (.int c), some (.ref 3), some (.int p), some (dA A), some (.ref 6), none] [.lst (dR R), .lst (dR O), .lst C, w, .lst [.ref 0, .ref 1], .lst [.ref 1, .ref 0], .lst (dR B), .lst (dR X), .lst (dR Y), .lst [.ref 0, .ref 1, .ref 7, .ref 8, .ref 6]] =
      ([some (.fro ns), some (.ref 0), some (.ref 1), some (.int c), some (.ref 3), some (.int p), some (dA A), some (.ref 6), none], [.lst (dR R), .lst (dR O), .lst C, w, .lst [.ref 0, .ref 1], .lst [.ref 1, .ref 0], .lst (dR B), .lst (dR X), .lst (dR Y), .lst [.ref 0, .ref 1, .ref 7, .ref 8, .ref 6]]) := by
  have e1 : Sg.refs [some (.fro ns), some (.ref 0), some (.ref 1), some (.int c), some (.ref 3), some (.int p), some (dA A), some (.ref 6), none] = [0, 1, 3, 6] := rfl
  have e2 : Mem.refs (List.take 10 [MO.lst (dR R), .lst (dR O), .lst C, w, .lst [.ref 0, .ref 1], .lst [.ref 1, .ref 0], .lst (dR B), .lst (dR X), .lst (dR Y), .lst [.ref 0, .ref 1, .ref 7, .ref 8, .ref 6]]) = [0, 1, 1, 0, 0, 1, 7, 8, 6] := by
    show (MO.lst (dR R)).refs ++ ((MO.lst (dR O)).refs ++ ((MO.lst C).refs ++ (w.refs ++ ([0, 1] ++ ([1, 0] ++ ((MO.lst (dR B)).refs ++ ((MO.lst (dR X)).refs ++ ((MO.lst (dR Y)).refs ++ [0, 1, 7, 8, 6]))))))))  = _
    rw [flatR, flatR, hC, hw, flatR, flatR, flatR]
    rfl
  rw [gcSt_low (fun n hn => by rw [e1] at hn; simp at hn; omega) (fun n hn => by rw [e2] at hn; simp at hn; omega)]
  rfl
theorem out_turn (ns : List Int) (c : Int) (R O : List Ans) (C : List D) (hC : (MO.lst C).refs = []) (hl : R.length + O.length < 100) : ∃ R' O' J, evSs P (clF P 194) outB (s3 ns (some (.int c)) none none none none none) [.lst (dR R), .lst (dR O), .lst C] = .ok (.next (s3 ns none none none none none none)) J ∧
    J.take 3 = [.lst (dR R'), .lst (dR O'), .lst C] ∧ R'.length ≤ R.length + 1 ∧ O'.length ≤ O.length + 1 := by
  obtain ⟨a1, b1, w1, hb1⟩ := well_call c [.lst (dR R), .lst (dR O), .lst C]
  obtain ⟨p, a2, b2, w2, hp0, hp4, hb2⟩ := pick_call (f := 194) (by decide) (by rw [lv_194]; decide) (M := [.lst (dR R), .lst (dR O), .lst C, wO a1 b1]) (j := 3) rfl 4 hb1 (by decide) fd4
  have e4 : evE P (clF P 194) (.call 161 (.cons (.var 3) .nil)) (s3 ns (some (.int c)) none none none none none) [.lst (dR R), .lst (dR O), .lst C] = .ok (.ref 3) [.lst (dR R), .lst (dR O), .lst C, wO a1 b1] := by
    simp only [evE, evEs, List.getElem?_cons_zero, List.getElem?_cons_succ, bind_ok', call161]
    exact w1
  have e5 : evE P (clF P 194) (.call 162 (.cons (.var 4) (.cons (.int 4) .nil))) (s3 ns (some (.int c)) (some (.ref 3)) none none none none) [.lst (dR R), .lst (dR O), .lst C, wO a1 b1] = .ok (.int p) [.lst (dR R), .lst (dR O), .lst C, wO a2 b2] := by
    simp only [evE, evEs, List.getElem?_cons_zero, List.getElem?_cons_succ, bind_ok', call162, List.length_cons, List.length_nil]
    exact w2
  -- the answer
  have e6 : ∃ A a3 b3, B31 b3 ∧ evE P (clF P 194) (.call 193 (.cons (.var 4) (.cons (.idx (.lst (.cons (.var 1) (.cons (.var 2) .nil))) (.bin .mod (.var 5) (.int 2))) (.cons (.idx (.lst (.cons (.var 2) (.cons (.var 1) .nil))) (.bin .mod (.var 5) (.int 2))) .nil)))) (s3 ns (some (.int c)) (some (.ref 3)) (some (.int p)) none none none) [.lst (dR R), .lst (dR O), .lst C, wO a2 b2] =
      .ok (dA A) [.lst (dR R), .lst (dR O), .lst C, wO a3 b3, .lst [.ref 0, .ref 1], .lst [.ref 1, .ref 0]] := by
    rcases Int.emod_two_eq p with h2 | h2
    · obtain ⟨A, a3, b3, w3, hb3⟩ := answer_call (M := [.lst (dR R), .lst (dR O), .lst C, wO a2 b2, .lst [.ref 0, .ref 1], .lst [.ref 1, .ref 0]]) (x := 0) (y := 1) (R := R) (O := O) (by decide) (by decide) (by decide) rfl rfl rfl hb2 (by omega)
      refine ⟨A, a3, b3, hb3, ?_⟩
      have w3' : clF P 194 193 [.ref 3, .ref 0, .ref 1] [.lst (dR R), .lst (dR O), .lst C, wO a2 b2, .lst [.ref 0, .ref 1], .lst [.ref 1, .ref 0]] = .ok (dA A) [.lst (dR R), .lst (dR O), .lst C, wO a3 b3, .lst [.ref 0, .ref 1], .lst [.ref 1, .ref 0]] := w3
      simp [evE, evEs, bind_ok', binD, idxD, atD, ixD, Rs.ofO, h2, call193, w3']
    · obtain ⟨A, a3, b3, w3, hb3⟩ := answer_call (M := [.lst (dR R), .lst (dR O), .lst C, wO a2 b2, .lst [.ref 0, .ref 1], .lst [.ref 1, .ref 0]]) (x := 1) (y := 0) (R := O) (O := R) (by decide) (by decide) (by decide) rfl rfl rfl hb2 (by omega)
      refine ⟨A, a3, b3, hb3, ?_⟩
      have w3' : clF P 194 193 [.ref 3, .ref 1, .ref 0] [.lst (dR R), .lst (dR O), .lst C, wO a2 b2, .lst [.ref 0, .ref 1], .lst [.ref 1, .ref 0]] = .ok (dA A) [.lst (dR R), .lst (dR O), .lst C, wO a3 b3, .lst [.ref 0, .ref 1], .lst [.ref 1, .ref 0]] := w3
      simp [evE, evEs, bind_ok', binD, idxD, atD, ixD, Rs.ofO, h2, call193, w3']
  obtain ⟨A, a3, b3, hb3, e6⟩ := e6
  rw [ss_asg' (σ' := s3 ns (some (.int c)) (some (.ref 3)) none none none none) (M' := [.lst (dR R), .lst (dR O), .lst C, wO a1 b1]) e4,
    ss_asg' (σ' := s3 ns (some (.int c)) (some (.ref 3)) (some (.int p)) none none none) (M' := [.lst (dR R), .lst (dR O), .lst C, wO a2 b2]) e5,
    ss_asg' (σ' := s3 ns (some (.int c)) (some (.ref 3)) (some (.int p)) (some (dA A)) none none) (M' := [.lst (dR R), .lst (dR O), .lst C, wO a3 b3, .lst [.ref 0, .ref 1], .lst [.ref 1, .ref 0]]) e6]
  rw [append_ev (clF P 194) ns c p A (!decide (p = 1)) 0 (by decide) 1 (by simp) _ R rfl (by omega)]
  have hR' : (if (!decide (p = 1)) = true then R ++ [A] else R).length ≤ R.length + 1 := by split <;> simp
  generalize (if (!decide (p = 1)) = true then R ++ [A] else R) = R' at hR' ⊢
  rw [append_ev (clF P 194) ns c p A (!decide (p = 0)) 1 (by decide) 0 (by simp) _ O rfl (by omega)]
  have hO' : (if (!decide (p = 0)) = true then O ++ [A] else O).length ≤ O.length + 1 := by split <;> simp
  generalize (if (!decide (p = 0)) = true then O ++ [A] else O) = O' at hO' ⊢
  show ∃ R'' O'' J, evSs P (clF P 194) _ _ [.lst (dR R'), .lst (dR O'), .lst C, wO a3 b3, .lst [.ref 0, .ref 1], .lst [.ref 1, .ref 0]] = _ ∧ _
  -- the begin
  obtain ⟨q, a4, b4, w4, hq0, hq1, hb4⟩ := pick_call (f := 194) (by decide) (by rw [lv_194]; decide) (M := [.lst (dR R'), .lst (dR O'), .lst C, wO a3 b3, .lst [.ref 0, .ref 1], .lst [.ref 1, .ref 0]]) (j := 3) rfl ((R'.length : Int) + 1) hb3 (by omega) (fd_small (by omega))
  have w4' : clF P 194 162 [.ref 3, .int ((R'.length : Int) + 1)] [.lst (dR R'), .lst (dR O'), .lst C, wO a3 b3, .lst [.ref 0, .ref 1], .lst [.ref 1, .ref 0]] = .ok (.int q) [.lst (dR R'), .lst (dR O'), .lst C, wO a4 b4, .lst [.ref 0, .ref 1], .lst [.ref 1, .ref 0]] := w4
  have e7 : evE P (clF P 194) (.slc (.var 1) .no (.so (.call 162 (.cons (.var 4) (.cons (.bin .add (.blt .len (.cons (.var 1) .nil)) (.int 1)) .nil))))) (s3 ns (some (.int c)) (some (.ref 3)) (some (.int p)) (some (dA A)) none none) [.lst (dR R'), .lst (dR O'), .lst C, wO a3 b3, .lst [.ref 0, .ref 1], .lst [.ref 1, .ref 0]] =
      .ok (.ref 6) [.lst (dR R'), .lst (dR O'), .lst C, wO a4 b4, .lst [.ref 0, .ref 1], .lst [.ref 1, .ref 0], .lst (dR (cut R' none (some q)))] := by
    simp [evE, evEs, evO, bind_ok', bltD, binD, call162, w4', slcD, partO, seqOf, cut_map]
  generalize cut R' none (some q) = Bg at e7
  rw [ss_asg' (σ' := s3 ns (some (.int c)) (some (.ref 3)) (some (.int p)) (some (dA A)) (some (.ref 6)) none) (M' := [.lst (dR R'), .lst (dR O'), .lst C, wO a4 b4, .lst [.ref 0, .ref 1], .lst [.ref 1, .ref 0], .lst (dR Bg)]) e7]
  have hz : R'.length + O'.length ≤ SZ := by
    have : SZ = 16777216 := rfl
    omega
  have e8 : evI P (clF P 194) (.seq (.lst (.cons (.var 1) (.cons (.var 2) (.cons (.stp (.var 1) (.neg (.int 1))) (.cons (.bin .add (.var 1) (.var 2)) (.cons (.var 7) .nil))))))) (s3 ns (some (.int c)) (some (.ref 3)) (some (.int p)) (some (dA A)) (some (.ref 6)) none) [.lst (dR R'), .lst (dR O'), .lst C, wO a4 b4, .lst [.ref 0, .ref 1], .lst [.ref 1, .ref 0], .lst (dR Bg)] =
      .ok ([.ref 0, .ref 1, .ref 7, .ref 8, .ref 6], some (9, [.ref 0, .ref 1, .ref 7, .ref 8, .ref 6])) [.lst (dR R'), .lst (dR O'), .lst C, wO a4 b4, .lst [.ref 0, .ref 1], .lst [.ref 1, .ref 0], .lst (dR Bg), .lst (dR R'.reverse), .lst (dR (R' ++ O')), .lst [.ref 0, .ref 1, .ref 7, .ref 8, .ref 6]] := by
    simp [evI, evE, evEs, bind_ok', binD, stepD, seqOf, itemsOf, hz]
  have lp := in_loop (c := c) (p := p) (A := A) (ns := ns) (M := [.lst (dR R'), .lst (dR O'), .lst C, wO a4 b4, .lst [.ref 0, .ref 1], .lst [.ref 1, .ref 0], .lst (dR Bg), .lst (dR R'.reverse), .lst (dR (R' ++ O')), .lst [.ref 0, .ref 1, .ref 7, .ref 8, .ref 6]])
    (ds := [.ref 0, .ref 1, .ref 7, .ref 8, .ref 6]) (by simp [guardOk, seqOf]) (gc10 ns c p A R' O' Bg R'.reverse (R' ++ O') C hC (wO a4 b4) rfl) [.ref 0, .ref 1, .ref 7, .ref 8, .ref 6] (fun d hd => by
      simp only [List.mem_cons, List.not_mem_nil, or_false] at hd
      rcases hd with rfl | rfl | rfl | rfl | rfl
      · exact ⟨0, R', rfl, rfl⟩
      · exact ⟨1, O', rfl, rfl⟩
      · exact ⟨7, R'.reverse, rfl, rfl⟩
      · exact ⟨8, R' ++ O', rfl, rfl⟩
      · exact ⟨6, Bg, rfl, rfl⟩)
  refine ⟨R', O', [.lst (dR R'), .lst (dR O'), .lst C, wO a4 b4, .lst [.ref 0, .ref 1], .lst [.ref 1, .ref 0], .lst (dR Bg), .lst (dR R'.reverse), .lst (dR (R' ++ O')), .lst [.ref 0, .ref 1, .ref 7, .ref 8, .ref 6]], ?_, ?_, hR', hO'⟩
  · rw [ss_forN e8 lp, ss_kill, ss_nil]
    rfl
  · rfl
theorem out_loop (ns : List Int) (C : List Int) : ∀ (cs : List Int) (R O : List Ans), R.length + O.length + 2 * cs.length < 100 → ∃ R' O', forL (asG P (clF P 194) (.nm 3)) (evSs P (clF P 194) outB) (some (2, C.map .int)) 3 (cs.map .int) (s3 ns none none none none none none) [.lst (dR R), .lst (dR O), .lst (C.map .int)] =
      .ok (.next (s3 ns none none none none none none)) [.lst (dR R'), .lst (dR O'), .lst (C.map .int)]
  | [], R, O, _ => ⟨R, O, forL_nil (by simp [guardOk, seqOf])⟩
  | c :: cs, R, O, h => by
    rw [List.length_cons] at h
    obtain ⟨R1, O1, J, e, hJ, h1, h2⟩ := out_turn ns c R O (C.map .int) (refs_ints C) (by omega)
    obtain ⟨R', O', e2⟩ := out_loop ns C cs R1 O1 (by omega)
    refine ⟨R', O', ?_⟩
    have hr : Mem.refs (List.take 3 J) = [] := by
      rw [hJ]
      exact refs_flat fun o ho => by
        simp only [List.mem_cons, List.not_mem_nil, or_false] at ho
        rcases ho with rfl | rfl | rfl
        · exact flatR R1
        · exact flatR O1
        · exact refs_ints C
    have gs : gcSt 3 (s3 ns none none none none none none) J = (s3 ns none none none none none none, [.lst (dR R1), .lst (dR O1), .lst (C.map .int)]) := by
      rw [gcSt_low (fun n hn => by
        have : n ∈ [0, 1] := hn
        simp at this
        omega) (fun n hn => by rw [hr] at hn; cases hn), hJ]
    rw [List.map_cons, forL_next (σ1 := s3 ns (some (.int c)) none none none none none) (M1 := [.lst (dR R), .lst (dR O), .lst (C.map .int)]) (by simp [guardOk, seqOf]) (by rw [asG]; rfl) e, gs]
    exact e2
theorem law_ev (ns : List Int) (h : ns.length ≤ 63) : ∃ M, runF P 194 [.fro ns] [] = .ok (.bl true) M := by
  rw [runF_of fn_194]
  generalize hC : cut ns none (some 30) = C
  have hCl : C.length ≤ 30 := by
    rw [← hC]
    unfold cut clip
    simp
    omega
  obtain ⟨R, O, e⟩ := out_loop ns C C [] [] (by simp; omega)
  have e1 : evI P (clF P 194) (.seq (.slc (.var 0) .no (.so (.int 30)))) (s3 ns none none none none none none) [.lst [], .lst []] = .ok (C.map .int, some (2, C.map .int)) [.lst [], .lst [], .lst (C.map .int)] := by
    simp [evI, evE, evO, bind_ok', slcD, partO, itemsOf, seqOf, hC]
  have r1 := right_call (M := [.lst (dR R), .lst (dR O), .lst (C.map .int)]) (j := 0) (R := R) rfl
  have r2 := right_call (M := [.lst (dR R), .lst (dR O), .lst (C.map .int)]) (j := 1) (R := O) rfl
  have r3 := right_call (M := [.lst (dR R), .lst (dR O), .lst (C.map .int), .lst []]) (j := 3) (R := []) rfl
  refine ⟨[.lst (dR R), .lst (dR O), .lst (C.map .int), .lst []], ?_⟩
  unfold runB
  rw [if_pos ⟨rfl, by decide⟩]
  show (evSs P (clF P 194) (.cons (.asg (.nm 1) (.lst .nil)) (.cons (.asg (.nm 2) (.lst .nil)) (.cons (.for (.nm 3) (.seq (.slc (.var 0) .no (.so (.int 30)))) outB) (.cons (.ret (.and (.cons (.call 191 (.cons (.var 1) .nil)) (.cons (.call 191 (.cons (.var 2) .nil)) (.cons (.call 191 (.cons (.lst .nil) .nil)) .nil))))) .nil)))) [some (.fro ns), none, none, none, none, none, none, none, none] []).bind _ = _
  rw [ss_asg' (σ' := [some (.fro ns), some (.ref 0), none, none, none, none, none, none, none]) (M' := [.lst []]) (d := .ref 0) (M1 := [.lst []]) (by simp [evE, evEs, bind_ok']),
    ss_asg' (σ' := s3 ns none none none none none none) (M' := [.lst [], .lst []]) (d := .ref 1) (M1 := [.lst [], .lst []]) (by simp [evE, evEs, bind_ok']),
    ss_forN e1 e, ss_ret (d := .bl true) (M1 := [.lst (dR R), .lst (dR O), .lst (C.map .int), .lst []]) (by
      simp only [evE, evEs, evAnd, bind_ok', List.getElem?_cons_zero, List.getElem?_cons_succ, call191, r1, r2, List.length_cons, List.length_nil, List.cons_append, List.nil_append, Nat.zero_add, Nat.reduceAdd]
      exact congrArg (fun z => Rs.bind z _) r3 |>.trans rfl)]
  rfl
end PD.K32

set_option Elab.async false
set_option linter.all false
set_option maxRecDepth 100000
set_option maxHeartbeats 0
namespace PD.K32
open PySem PySem.Spec PyProof.Rows L2
abbrev R : PySem.W.OpenRow := PySem.W.OpenLaw.row PySem.Challenge.rw_copyclerk_k32_whole_two_rows_of_answers
abbrev hk : PySem.W.Hook := He.hookD 6 (faOf tbl) (fnOf' tbl)
def ob (s : PySem.W.SharedT) : He.AlD := He.obsDG 6 (faOf tbl) (fnOf' tbl) (HandSHeadRun.getT s)
theorem ob_eq (s : PySem.W.SharedT) : ob s = hk.obs s.abs := He.obsDG_eq (HandSHeadRun.getT_eq s)
theorem okT_ok : okT tbl = true := by decide +kernel
theorem run (w : World) : HandSHeadRun.RunEq R (PySem.W.view R.prog [13]) hk ob 6000 loose w := by
  intro os
  kernel_rfl
end PD.K32
open PySem PySem.W PySem.Calls PyProof.Rows
theorem PySem.Challenge.cw_copyclerk_k32_whole_two_rows_of_answers_holds : PySem.Challenge.rw_copyclerk_k32_whole_two_rows_of_answers.Holds := by
  w_on; o_law
  refine HandSHeadRun.head_any (r := PD.K32.R) (q := view PD.K32.R.prog [13]) (H := PD.K32.hk) (ob := PD.K32.ob) (M := 6000) (loose := PD.K32.loose) (d := HandSHeadRun.topDef PD.K32.R.prog 13) (kwd := []) PD.K32.ob_eq
    (by kernel_rfl) (fun s => by kernel_rfl) PD.K32.run (by kernel_rfl) (by kernel_rfl) (by kernel_rfl) (by rfl) (by first | assumption | decide +kernel) (by decide +kernel) ⟨rfl, rfl, rfl, rfl, rfl, by decide +kernel⟩ ?hw ?hc
  case hw => w_witness2
  case hc =>
    exact PD.law_end (l := PySem.Challenge.rw_copyclerk_k32_whole_two_rows_of_answers) (T := PD.K32.tbl) (n := 63) (f := 194) (di := PD.K32.di_law) "script" rfl (by decide) (by kernel_rfl) ⟨rfl, by decide, by decide⟩ PD.K32.okT_ok (fun _ _ Y => Y)
      (by decide +kernel) (by simp [PD.K32.tbl]) rfl rfl rfl (fun ns h _ => PD.K32.law_ev ns h)
