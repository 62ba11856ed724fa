import PyProof.Rows.All
import Wide.All
import OpenK.AllK
import Wide.FinOn
import HandS.ForMost
import KE.SortData
import HandS.TupAny
import HandS.TupLe
import HandS.Deep
import HandS.TupLen
import HandS.SortInts
import HandS.WordsDict
import HandS.IsInst
import HandS.Conv
import KE.KDictZip
import KE.GoesEnum
import HandS.Zip
import HandS.NoneIn
import HandS.Small
import HandS.Style
import PySem.Challenge.RW_keyriders_k38_errors_of_part_tables
set_option Elab.async false
set_option linter.all false
set_option maxRecDepth 100000
set_option maxHeartbeats 4000000
namespace Kd
open PySem

/-! ### data -/
/-- keys of dicts -/
inductive KK where
  | i (z : Int) | s (x : Str) | n | t (xs : List KK)
mutual
def KK.beq : KK → KK → Bool
  | .i a, .i b => a == b
  | .s a, .s b => a == b
  | .n, .n => true
  | .t a, .t b => KK.beqs a b
  | _, _ => false
def KK.beqs : List KK → List KK → Bool
  | [], [] => true
  | a :: r, b :: q => KK.beq a b && KK.beqs r q
  | _, _ => false
end
mutual
theorem KK.beq_eq : ∀ (a b : KK), KK.beq a b = true → a = b
  | .i a, .i b, h => by simp [KK.beq] at h; rw [h]
  | .s a, .s b, h => by simp [KK.beq] at h; rw [h]
  | .n, .n, _ => rfl
  | .t a, .t b, h => by rw [KK.beqs_eq a b (by simpa [KK.beq] using h)]
  | .i _, .s _, h => by simp [KK.beq] at h
  | .i _, .n, h => by simp [KK.beq] at h
  | .i _, .t _, h => by simp [KK.beq] at h
  | .s _, .i _, h => by simp [KK.beq] at h
  | .s _, .n, h => by simp [KK.beq] at h
  | .s _, .t _, h => by simp [KK.beq] at h
  | .n, .i _, h => by simp [KK.beq] at h
  | .n, .s _, h => by simp [KK.beq] at h
  | .n, .t _, h => by simp [KK.beq] at h
  | .t _, .i _, h => by simp [KK.beq] at h
  | .t _, .s _, h => by simp [KK.beq] at h
  | .t _, .n, h => by simp [KK.beq] at h
theorem KK.beqs_eq : ∀ (a b : List KK), KK.beqs a b = true → a = b
  | [], [], _ => rfl
  | a :: r, b :: q, h => by
    have h' : KK.beq a b = true ∧ KK.beqs r q = true := by simpa [KK.beqs] using h
    rw [KK.beq_eq a b h'.1, KK.beqs_eq r q h'.2]
  | [], _ :: _, h => by simp [KK.beqs] at h
  | _ :: _, [], h => by simp [KK.beqs] at h
end
mutual
theorem KK.beq_refl : ∀ a : KK, KK.beq a a = true
  | .i _ => by simp [KK.beq]
  | .s _ => by simp [KK.beq]
  | .n => by simp [KK.beq]
  | .t xs => by simpa [KK.beq] using KK.beqs_refl xs
theorem KK.beqs_refl : ∀ a : List KK, KK.beqs a a = true
  | [] => rfl
  | a :: r => by simp [KK.beqs, KK.beq_refl a, KK.beqs_refl r]
end
instance : DecidableEq KK := fun a b =>
  if h : KK.beq a b = true then .isTrue (KK.beq_eq a b h) else .isFalse fun e => h (e ▸ KK.beq_refl a)

inductive D where
  | non | bl (b : Bool) | int (i : Int) | str (x : Str)
  | tup (xs : List D) | lst (xs : List D) | dct (kvs : List (KK × D)) | loc (l : Nat)
instance : Inhabited D := ⟨.non⟩
abbrev Kvs := List (KK × D)

mutual
/-- a key of a dict -/
def D.kk : D → Option KK
  | .int z => some (.i z)
  | .str x => some (.s x)
  | .non => some .n
  | .tup xs => (D.kks xs).map .t
  | _ => none
def D.kks : List D → Option (List KK)
  | [] => some []
  | x :: r => match D.kk x, D.kks r with
    | some a, some b => some (a :: b)
    | _, _ => none
end
mutual
/-- the key as data -/
def KK.d : KK → D
  | .i z => .int z
  | .s x => .str x
  | .n => .non
  | .t xs => .tup (KK.ds xs)
def KK.ds : List KK → List D
  | [] => []
  | x :: r => KK.d x :: KK.ds r
end
mutual
/-- as the library's data -/
def D.py : D → Option PyData
  | .non => some .none
  | .bl b => some (.bool b)
  | .int i => some (.int i)
  | .str x => some (.str x)
  | .tup xs => (D.pys xs).map .tuple
  | .lst xs => (D.pys xs).map .list
  | .dct kvs => (D.pyk kvs).map .dict
  | .loc _ => none
def D.pys : List D → Option (List PyData)
  | [] => some []
  | x :: r => match D.py x, D.pys r with
    | some a, some b => some (a :: b)
    | _, _ => none
def D.pyk : List (KK × D) → Option (List (PyData × PyData))
  | [] => some []
  | (k, x) :: r => match D.py x, D.pyk r with
    | some a, some b => some ((KK.p k, a) :: b)
    | _, _ => none
def KK.p : KK → PyData
  | .i z => .int z
  | .s x => .str x
  | .n => .none
  | .t xs => .tuple (KK.ps xs)
def KK.ps : List KK → List PyData
  | [] => []
  | x :: r => KK.p x :: KK.ps r
end
end Kd

namespace Kd
open PySem

/-! ### the machine's state -/
inductive Sl where
  | un | val (d : D) | ol (xs : List D) | od (kvs : Kvs)
inductive Ob where
  | lst (xs : List D) | dct (kvs : Kvs) | ins (c : Nat) (fs : List (Str × D))
structure M where
  r : List Sl
  S : List Ob
inductive R (α : Type) where
  | ok (a : α) (m : M) | ex (c : Nat) (d : D) (m : M) | no
/-- what an expression gives: a value; a fresh list, a fresh dict of nobody else's; the list or dict of a slot -/
inductive Op where
  | v (d : D) | nl (xs : List D) | nd (kvs : Kvs) | sl (i : Nat)
inductive CR where
  | ok (o : Op) (S : List Ob) | ex (c : Nat) (d : D) (S : List Ob) | no
structure Nv where
  ct : Nat → List D → List Ob → CR
  wf : Nat
inductive Fl where
  | nx | rt (o : Op) | bk | ct
abbrev DE := Nv → M → R Op
abbrev DT := Nv → M → R Bool
abbrev DI := Nv → M → R (List D)
abbrev DL := Nv → M → R (List D)
abbrev DS := Nv → M → R Fl

def R.bind {α β : Type} (x : R α) (f : α → M → R β) : R β :=
  match x with
  | .ok a m => f a m
  | .ex c d m => .ex c d m
  | .no => .no
@[simp] theorem R.bind_ok {α β : Type} (a : α) (m : M) (f : α → M → R β) : (R.ok a m).bind f = f a m := rfl
@[simp] theorem R.bind_ex {α β : Type} (c : Nat) (d : D) (m : M) (f : α → M → R β) : (R.ex c d m : R α).bind f = .ex c d m := rfl
@[simp] theorem R.bind_no {α β : Type} (f : α → M → R β) : (R.no : R α).bind f = .no := rfl
def R.of {α : Type} (m : M) : Option α → R α
  | some a => .ok a m
  | none => .no
@[simp] theorem R.of_some {α : Type} (m : M) (a : α) : R.of m (some a) = .ok a m := rfl
@[simp] theorem R.of_none {α : Type} (m : M) : R.of (α := α) m none = .no := rfl

/-! ### looking at a value -/
inductive Vw where
  | d (d : D) | l (xs : List D) | k (kvs : Kvs)
def vwD (S : List Ob) (d : D) : Option Vw :=
  match d with
  | .lst xs => some (.l xs)
  | .dct kvs => some (.k kvs)
  | .loc l => match S[l]? with
    | some (.lst xs) => some (.l xs)
    | some (.dct kvs) => some (.k kvs)
    | some (.ins _ _) => some (.d (.loc l))
    | none => none
  | .non => some (.d .non)
  | .bl b => some (.d (.bl b))
  | .int i => some (.d (.int i))
  | .str x => some (.d (.str x))
  | .tup xs => some (.d (.tup xs))
def vw (o : Op) (m : M) : Option Vw :=
  match o with
  | .v d => vwD m.S d
  | .nl xs => some (.l xs)
  | .nd kvs => some (.k kvs)
  | .sl i => match m.r[i]? with
    | some (.ol xs) => some (.l xs)
    | some (.od kvs) => some (.k kvs)
    | some (.val d) => vwD m.S d
    | _ => none
def Vw.D : Vw → D
  | .d x => x
  | .l xs => .lst xs
  | .k kvs => .dct kvs
/-- the value as one that nobody changes any more -/
def fz (o : Op) (m : M) : R D :=
  match o with
  | .v d => .ok d m
  | .nl xs => .ok (.lst xs) m
  | .nd kvs => .ok (.dct kvs) m
  | .sl i => match m.r[i]? with
    | some (.val d) => .ok d m
    | some (.ol xs) => .ok (.lst xs) { m with r := m.r.set i (.val (.lst xs)) }
    | some (.od kvs) => .ok (.dct kvs) { m with r := m.r.set i (.val (.dct kvs)) }
    | _ => .no

/-! ### expressions -/
def eC (d : D) : DE := fun _ m => .ok (.v d) m
def eVar (i : Nat) : DE := fun _ m =>
  match m.r[i]? with
  | some (.val d) => .ok (.v d) m
  | some (.ol _) => .ok (.sl i) m
  | some (.od _) => .ok (.sl i) m
  | _ => .no
def eF (d : DE) : Nv → M → R D := fun nv m => (d nv m).bind fz
def eList : List DE → DL
  | [] => fun _ m => .ok [] m
  | d :: r => fun nv m => (eF d nv m).bind fun x m1 => (eList r nv m1).bind fun xs m2 => .ok (x :: xs) m2
def eTup (ds : List DE) : DE := fun nv m => (eList ds nv m).bind fun xs m1 => if xs.length ≤ sizeLine then .ok (.v (.tup xs)) m1 else .no
def eLst (ds : List DE) : DE := fun nv m => (eList ds nv m).bind fun xs m1 => if xs.length ≤ sizeLine then .ok (.nl xs) m1 else .no
/-- one operand, by what it looks like -/
def e1 (f : Vw → Option Op) (a : DE) : DE := fun nv m => (a nv m).bind fun o m1 => R.of m1 ((vw o m1).bind f)
def e2 (f : Vw → Vw → Option Op) (a b : DE) : DE := fun nv m => (a nv m).bind fun o m1 => (b nv m1).bind fun p m2 =>
  R.of m2 ((vw o m2).bind fun x => (vw p m2).bind fun y => f x y)
def t1 (f : Vw → Option Bool) (a : DE) : DT := fun nv m => (a nv m).bind fun o m1 => R.of m1 ((vw o m1).bind f)
def t2 (f : Vw → Vw → Option Bool) (a b : DE) : DT := fun nv m => (a nv m).bind fun o m1 => (b nv m1).bind fun p m2 =>
  R.of m2 ((vw o m2).bind fun x => (vw p m2).bind fun y => f x y)
/-- a op b op' c -/
def t3 (f g : Vw → Vw → Option Bool) (a b c : DE) : DT := fun nv m => (a nv m).bind fun o m1 => (b nv m1).bind fun p m2 =>
  (R.of m2 ((vw o m2).bind fun x => (vw p m2).bind fun y => f x y)).bind fun k m3 =>
    if k = true then (c nv m3).bind fun q m4 => R.of m4 ((vw p m4).bind fun x => (vw q m4).bind fun y => g x y) else .ok false m3
def eB (t : DT) : DE := fun nv m => (t nv m).bind fun b m1 => .ok (.v (.bl b)) m1
def tE (d : DE) : DT := fun nv m => (d nv m).bind fun o m1 => match o with
  | .v (.bl b) => .ok b m1
  | _ => .no
def tNot (t : DT) : DT := fun nv m => (t nv m).bind fun b m1 => .ok (!b) m1
def tAnd : List DT → DT
  | [] => fun _ m => .ok true m
  | t :: r => fun nv m => (t nv m).bind fun b m1 => if b = true then tAnd r nv m1 else .ok false m1
def tOr : List DT → DT
  | [] => fun _ m => .ok false m
  | t :: r => fun nv m => (t nv m).bind fun b m1 => if b = true then .ok true m1 else tOr r nv m1
/-- and, or of values: all but the last truth values -/
def eAnd : List DE → DE
  | [] => fun _ _ => .no
  | [d] => d
  | d :: r => fun nv m => (tE d nv m).bind fun b m1 => if b = true then eAnd r nv m1 else .ok (.v (.bl false)) m1
def eOr : List DE → DE
  | [] => fun _ _ => .no
  | [d] => d
  | d :: r => fun nv m => (tE d nv m).bind fun b m1 => if b = true then .ok (.v (.bl true)) m1 else eOr r nv m1
def eIf (t : DT) (a b : DE) : DE := fun nv m => (t nv m).bind fun c m1 => if c = true then a nv m1 else b nv m1
def tIf (t : DT) (a b : DT) : DT := fun nv m => (t nv m).bind fun c m1 => if c = true then a nv m1 else b nv m1
/-- a part of a slice -/
def eOpt : Option DE → Nv → M → R (Option Int)
  | none => fun _ m => .ok none m
  | some d => fun nv m => (d nv m).bind fun o m1 => match o with
    | .v (.int i) => .ok (some i) m1
    | _ => .no
def eSlice (f : Vw → Option Int → Option Int → Option Op) (a : DE) (lo hi : Option DE) : DE := fun nv m => (a nv m).bind fun o m1 =>
  (eOpt lo nv m1).bind fun i m2 => (eOpt hi nv m2).bind fun j m3 => R.of m3 ((vw o m3).bind fun x => f x i j)
def CR.to (m : M) : CR → R Op
  | .ok o S => .ok o { m with S := S }
  | .ex c d S => .ex c d { m with S := S }
  | .no => .no
/-- a call; p: the arguments' places, by the parameters -/
def eCall (f : Nat) (p : Option (List Nat)) (as : List DE) : DE := fun nv m => (eList as nv m).bind fun xs m1 =>
  match p with
  | none => (nv.ct f xs m1.S).to m1
  | some p => (nv.ct f (p.map fun i => xs.getD i .non) m1.S).to m1
/-- a fresh list, dict becomes one that others may know -/
def eShare (d : DE) : DE := fun nv m => (d nv m).bind fun o m1 => match o with
  | .nl xs => .ok (.v (.loc m1.S.length)) { m1 with S := m1.S ++ [.lst xs] }
  | .nd kvs => .ok (.v (.loc m1.S.length)) { m1 with S := m1.S ++ [.dct kvs] }
  | _ => .no

/-! ### targets -/
inductive Pat where
  | n (i : Nat) | t (ps : List Pat)
mutual
def Pat.set : Pat → D → M → Option M
  | .n i, d, m => some { m with r := m.r.set i (.val d) }
  | .t ps, d, m => match vwD m.S d with
    | some (.l xs) => Pat.sets ps xs m
    | some (.d (.tup xs)) => Pat.sets ps xs m
    | _ => none
def Pat.sets : List Pat → List D → M → Option M
  | [], [], m => some m
  | p :: ps, x :: xs, m => match Pat.set p x m with
    | some m1 => Pat.sets ps xs m1
    | none => none
  | _, _, _ => none
end
/-- what a comprehension hides -/
def wipeS (r : List Sl) : List Nat → List Sl
  | [] => r
  | i :: is => (wipeS r is).set i .un
def wipeM (own : List Nat) (m : M) : M := { m with r := wipeS m.r own }
/-- .. and gives back: what is known for good -/
def keptS : Option Sl → Sl
  | some (.val d) => .val d
  | _ => .un
def backS (r0 r : List Sl) : List Nat → List Sl
  | [] => r
  | i :: is => (backS r0 r is).set i (keptS r0[i]?)

/-! ### comprehensions -/
def compL (own : List Nat) (p : Pat) (c : DT) (e : Nv → M → R D) (nv : Nv) : List D → M → List D → R (List D)
  | [], m, acc => .ok acc m
  | x :: xs, m, acc => match p.set x (wipeM own m) with
    | none => .no
    | some m1 => (c nv m1).bind fun b m2 => if b = true then (e nv m2).bind fun y m3 => if acc.length < sizeLine then compL own p c e nv xs m3 (acc ++ [y]) else .no
      else compL own p c e nv xs m2 acc
def eComp (it : DI) (p : Pat) (c : DT) (e : DE) (own : List Nat) : DE := fun nv m => (it nv m).bind fun xs m1 =>
  (compL own p c (eF e) nv xs m1 []).bind fun ys m2 => .ok (.nl ys) { m2 with r := backS m1.r m2.r own }
def putD (kvs : Kvs) (k : KK) (v : D) : Kvs :=
  if kvs.any (fun kv => decide (kv.1 = k)) = true then kvs.map (fun kv => if kv.1 = k then (kv.1, v) else kv) else kvs ++ [(k, v)]
def valD (kvs : Kvs) (k : KK) : Option D := (kvs.find? fun kv => decide (kv.1 = k)).map (·.2)
/-- keys of one kind: ints and texts, or flat tuples of such, or nested tuples -/
def KK.flat1 : KK → Bool
  | .i _ => true
  | .s _ => true
  | _ => false
def KK.flatT : KK → Bool
  | .t xs => xs.all KK.flat1
  | _ => false
/-- a key of the kind of a dict's keys -/
def okKey (kvs : Kvs) (k : KK) : Bool := (k.flat1 && kvs.all fun kv => kv.1.flat1) || (k.flatT && kvs.all fun kv => kv.1.flatT)
/-! ### statements -/
def setSl (i : Nat) (o : Op) (m : M) : Option M :=
  match o with
  | .v d => some { m with r := m.r.set i (.val d) }
  | .nl xs => some { m with r := m.r.set i (.ol xs) }
  | .nd kvs => some { m with r := m.r.set i (.od kvs) }
  | .sl j => if j = i then some m else match m.r[j]? with
    | some (.val d) => some { m with r := m.r.set i (.val d) }
    | some (.ol xs) => some { m with r := (m.r.set j (.val (.lst xs))).set i (.val (.lst xs)) }
    | some (.od kvs) => some { m with r := (m.r.set j (.val (.dct kvs))).set i (.val (.dct kvs)) }
    | _ => none
def sAsg (i : Nat) (d : DE) : DS := fun nv m => (d nv m).bind fun o m1 => (R.of m1 (setSl i o m1)).bind fun m2 _ => .ok .nx m2
/-- (a, b, ..) = e -/
def sUn (p : Pat) (d : DE) : DS := fun nv m => (eF d nv m).bind fun x m1 => (R.of m1 (p.set x m1)).bind fun m2 _ => .ok .nx m2
/-- the values of a display that is taken apart at once: only the lists of slots are given up -/
def fzS (o : Op) (m : M) : R Op :=
  match o with
  | .sl i => (fz (.sl i) m).bind fun d m1 => .ok (.v d) m1
  | .v d => .ok (.v d) m
  | .nl xs => .ok (.nl xs) m
  | .nd kvs => .ok (.nd kvs) m
/-- x, y = a, b at once, to names -/
def sPar2 (i j : Nat) (a b : DE) : DS := fun nv m => (a nv m).bind fun o m0 => (fzS o m0).bind fun x m1 => (b nv m1).bind fun p m2 => (fzS p m2).bind fun y m3 =>
  (R.of m3 ((setSl i x m3).bind (setSl j y))).bind fun m4 _ => .ok .nx m4
def sExp (d : DE) : DS := fun nv m => (d nv m).bind fun _ m1 => .ok .nx m1
def sRet (d : DE) : DS := fun nv m => (d nv m).bind fun o m1 => match o with
  | .sl i => match m1.r[i]? with
    | some (.val d) => .ok (.rt (.v d)) m1
    | some (.ol xs) => .ok (.rt (.nl xs)) m1
    | some (.od kvs) => .ok (.rt (.nd kvs)) m1
    | _ => .no
  | .v d => .ok (.rt (.v d)) m1
  | .nl xs => .ok (.rt (.nl xs)) m1
  | .nd kvs => .ok (.rt (.nd kvs)) m1
def sRetN : DS := fun _ m => .ok (.rt (.v .non)) m
def sSkip : DS := fun _ m => .ok .nx m
def sBrk : DS := fun _ m => .ok .bk m
def sCnt : DS := fun _ m => .ok .ct m
def sNo : DS := fun _ _ => .no
def sIf (t : DT) (a b : DS) : DS := fun nv m => (t nv m).bind fun c m1 => if c = true then a nv m1 else b nv m1
def sSeq : List DS → DS
  | [] => sSkip
  | d :: r => fun nv m => (d nv m).bind fun f m1 => match f with
    | .nx => sSeq r nv m1
    | .rt o => .ok (.rt o) m1
    | .bk => .ok .bk m1
    | .ct => .ok .ct m1
def forL (p : Pat) (b : DS) (nv : Nv) : List D → M → R Fl
  | [], m => .ok .nx m
  | x :: xs, m => match p.set x m with
    | none => .no
    | some m1 => (b nv m1).bind fun f m2 => match f with
      | .nx => forL p b nv xs m2
      | .ct => forL p b nv xs m2
      | .bk => .ok .nx m2
      | .rt o => .ok (.rt o) m2
def sFor (p : Pat) (it : DI) (b : DS) : DS := fun nv m => (it nv m).bind fun xs m1 => forL p b nv xs m1
def whileL (t : DT) (b : DS) (nv : Nv) : Nat → M → R Fl
  | 0, _ => .no
  | n + 1, m => (t nv m).bind fun c m1 => if c = true then (b nv m1).bind fun f m2 => match f with
      | .nx => whileL t b nv n m2
      | .ct => whileL t b nv n m2
      | .bk => .ok .nx m2
      | .rt o => .ok (.rt o) m2
    else .ok .nx m1
def sWhile (t : DT) (b : DS) : DS := fun nv m => whileL t b nv nv.wf m
/-- a mutation of a list or dict: of a slot's, or of one that others know -/
def mutL (o : Op) (m : M) (f : List D → Option (Op × List D)) : R Op :=
  match o with
  | .sl i => match m.r[i]? with
    | some (.ol xs) => match f xs with
      | some (y, ys) => .ok y { m with r := m.r.set i (.ol ys) }
      | none => .no
    | _ => .no
  | .v (.loc l) => match m.S[l]? with
    | some (.lst xs) => match f xs with
      | some (y, ys) => .ok y { m with S := m.S.set l (.lst ys) }
      | none => .no
    | _ => .no
  | _ => .no
def mutD (o : Op) (m : M) (f : Kvs → Option (Op × Kvs)) : R Op :=
  match o with
  | .sl i => match m.r[i]? with
    | some (.od xs) => match f xs with
      | some (y, ys) => .ok y { m with r := m.r.set i (.od ys) }
      | none => .no
    | _ => .no
  | .v (.loc l) => match m.S[l]? with
    | some (.dct xs) => match f xs with
      | some (y, ys) => .ok y { m with S := m.S.set l (.dct ys) }
      | none => .no
    | _ => .no
  | _ => .no
def isL : Option Vw → Bool
  | some (.l _) => true
  | _ => false
def isK : Option Vw → Bool
  | some (.k _) => true
  | _ => false
/-- o.m(a, ..) that changes the list -/
def eMutL (f : List D → List D → Option (Op × List D)) (o : DE) (as : List DE) : DE := fun nv m => (o nv m).bind fun x m1 =>
  if isL (vw x m1) = true then (eList as nv m1).bind fun ys m2 => mutL x m2 (f ys) else .no
def eMutD (f : List D → Kvs → Option (Op × Kvs)) (o : DE) (as : List DE) : DE := fun nv m => (o nv m).bind fun x m1 =>
  if isK (vw x m1) = true then (eList as nv m1).bind fun ys m2 => mutD x m2 (f ys) else .no
/-- o.m(a, ..) that only looks -/
def eMeth (g : Option Vw → Bool) (f : Vw → List D → Option Op) (o : DE) (as : List DE) : DE := fun nv m => (o nv m).bind fun x m1 =>
  if g (vw x m1) = true then (eList as nv m1).bind fun ys m2 => R.of m2 ((vw x m2).bind fun v => f v ys) else .no
end Kd

namespace Kd
open PySem

/-! ### operations on values -/
/-- comparisons with great numbers, made so that they do not run where the number is not known -/
def leB (i : Int) (b : Nat) : Bool := match i with
  | .ofNat n => Nat.ble n b
  | .negSucc _ => true
def geB (i : Int) (b : Nat) : Bool := match i with
  | .ofNat _ => true
  | .negSucc n => Nat.ble (n + 1) b
def posB (i : Int) : Bool := match i with
  | .ofNat n => Nat.ble 1 n
  | .negSucc _ => false
theorem leB_iff {i : Int} {b : Nat} : leB i b = true ↔ i ≤ (b : Nat) := by
  cases i with
  | ofNat n =>
    show Nat.ble n b = true ↔ _
    rw [Nat.ble_eq]
    show n ≤ b ↔ (n : Int) ≤ b
    omega
  | negSucc n =>
    show true = true ↔ _
    simp only [true_iff]
    omega
theorem geB_iff {i : Int} {b : Nat} : geB i b = true ↔ -(b : Int) ≤ i := by
  cases i with
  | ofNat n =>
    show true = true ↔ _
    simp only [true_iff]
    show -(b : Int) ≤ (n : Int)
    omega
  | negSucc n =>
    show Nat.ble (n + 1) b = true ↔ _
    rw [Nat.ble_eq]
    omega
theorem posB_iff {i : Int} : posB i = true ↔ 0 < i := by
  cases i with
  | ofNat n =>
    show Nat.ble 1 n = true ↔ _
    rw [Nat.ble_eq]
    show 1 ≤ n ↔ (0 : Int) < (n : Int)
    omega
  | negSucc n =>
    show false = true ↔ _
    simp only [Bool.false_eq_true, false_iff]
    omega
def within64 (i : Int) : Bool := geB i 18446744073709551615 && leB i 18446744073709551615
def asInt : D → Option Int
  | .int i => some i
  | _ => none
def asInts : List D → Option (List Int)
  | [] => some []
  | x :: r => match asInt x, asInts r with
    | some i, some is => some (i :: is)
    | _, _ => none
def asBls : List D → Option (List Bool)
  | [] => some []
  | .bl b :: r => match asBls r with
    | some bs => some (b :: bs)
    | none => none
  | _ :: _ => none
def asStrs : List D → Option (List Str)
  | [] => some []
  | .str b :: r => match asStrs r with
    | some bs => some (b :: bs)
    | none => none
  | _ :: _ => none
def opI (f : Int → Int → Option Int) (x y : Vw) : Option Op :=
  match x, y with
  | .d (.int i), .d (.int j) => (f i j).map fun z => .v (.int z)
  | _, _ => none
def oAdd (x y : Vw) : Option Op :=
  match x, y with
  | .d (.int i), .d (.int j) => some (.v (.int (i + j)))
  | .d (.tup xs), .d (.tup ys) => if xs.length + ys.length ≤ sizeLine then some (.v (.tup (xs ++ ys))) else none
  | .l xs, .l ys => if xs.length + ys.length ≤ sizeLine then some (.nl (xs ++ ys)) else none
  | .d (.str a), .d (.str b) => if a.length + b.length ≤ sizeLine then some (.v (.str (a ++ b))) else none
  | _, _ => none
def oSub := opI fun i j => some (i - j)
def oMul := opI fun i j => if within64 i || within64 j then some (i * j) else none
def oFdiv := opI fun i j => if posB j && leB j 1073741823 then some (i / j) else none
def oMod := opI fun i j => if decide (0 < j) then some (i % j) else none
def powOk (i j : Int) : Bool := geB j 0 && leB j 1000000 && Nat.ble i.natAbs 18446744073709551615
def oPow := opI fun i j => if powOk i j then some (i ^ j.toNat) else none
def oShl := opI fun i j => if powOk i j then some (i * 2 ^ j.toNat) else none
def oShr := opI fun i j => if decide (0 ≤ j) then some (i / 2 ^ j.toNat) else none
def oAnd := opI fun i j => some (Builtin.bitAnd i j)
def oOr := opI fun i j => some (Builtin.bitOr i j)
def oXor := opI fun i j => some (Builtin.bitXor i j)
def binOp : Operator → Option (Vw → Vw → Option Op)
  | .Add => some oAdd
  | .Sub => some oSub
  | .Mult => some oMul
  | .FloorDiv => some oFdiv
  | .Mod => some oMod
  | .Pow => some oPow
  | .LShift => some oShl
  | .RShift => some oShr
  | .BitAnd => some oAnd
  | .BitOr => some oOr
  | .BitXor => some oXor
  | _ => none
def oNeg (x : Vw) : Option Op := match x with
  | .d (.int i) => some (.v (.int (-i)))
  | _ => none
def oInv (x : Vw) : Option Op := match x with
  | .d (.int i) => some (.v (.int (Builtin.bitNot i)))
  | _ => none
/-- == of data -/
def eqD (a b : D) : Option Bool :=
  match a.py, b.py with
  | some x, some y => if SeqAt.shaped x && SeqAt.shaped y then some (PyData.eqv x y) else none
  | _, _ => none
/-- two texts -/
def eqS (x y : Vw) : Option (Str × Str) := match x, y with
  | .d (.str a), .d (.str b) => some (a, b)
  | _, _ => none
def cEq (x y : Vw) : Option Bool := match eqS x y with
  | some (a, b) => some (decide (a = b))
  | none => eqD x.D y.D
def cNe (x y : Vw) : Option Bool := match eqS x y with
  | some (a, b) => some (!decide (a = b))
  | none => (eqD x.D y.D).map (!·)
def cI (f : Int → Int → Bool) (x y : Vw) : Option Bool :=
  match x, y with
  | .d (.int i), .d (.int j) => some (f i j)
  | _, _ => none
def lexLe : List Int → List Int → Bool
  | [], _ => true
  | _ :: _, [] => false
  | x :: xs, y :: ys => if x = y then lexLe xs ys else decide (x ≤ y)
def cLt (x y : Vw) : Option Bool :=
  match x, y with
  | .d (.tup xs), .d (.tup ys) => match asInts xs, asInts ys with
    | some a, some b => some (HT.lexLt a b)
    | _, _ => none
  | _, _ => cI (fun i j => decide (i < j)) x y
def cLe (x y : Vw) : Option Bool :=
  match x, y with
  | .d (.tup xs), .d (.tup ys) => match asInts xs, asInts ys with
    | some a, some b => some (lexLe a b)
    | _, _ => none
  | _, _ => cI (fun i j => decide (i ≤ j)) x y
def cGt := cI fun i j => decide (j < i)
def cGe := cI fun i j => decide (j ≤ i)
def memD (ys : List D) (x : D) : Option Bool :=
  match x.py, D.pys ys with
  | some d, some ds => if SeqAt.shaped d && SeqAt.shaped (.list ds) then some (ds.any fun z => PyData.eqv z d) else none
  | _, _ => none
def cIn (x y : Vw) : Option Bool :=
  match y with
  | .l ys => memD ys x.D
  | .d (.tup ys) => memD ys x.D
  | .k kvs => match x.D.kk with
    | some k => if okKey kvs k = true then some (valD kvs k).isSome else none
    | none => none
  | .d (.str b) => match x with
    | .d (.str a) => some (!(Builtin.Str.occurrences b a 0 b.length 1).isEmpty)
    | _ => none
  | _ => none
def cNotIn (x y : Vw) : Option Bool := (cIn x y).map (!·)
def cIs (x y : Vw) : Option Bool :=
  match y with
  | .d .non => match x with
    | .d .non => some true
    | _ => some false
  | _ => none
def cIsNot (x y : Vw) : Option Bool := (cIs x y).map (!·)
def cmpOp : CmpOp → Option (Vw → Vw → Option Bool)
  | .Eq => some cEq
  | .NotEq => some cNe
  | .Lt => some cLt
  | .LtE => some cLe
  | .Gt => some cGt
  | .GtE => some cGe
  | .In => some cIn
  | .NotIn => some cNotIn
  | .Is => some cIs
  | .IsNot => some cIsNot
def oIx (x k : Vw) : Option Op :=
  match x with
  | .l xs => match k with
    | .d (.int i) => (L2.atI xs i).map .v
    | _ => none
  | .d (.tup xs) => match k with
    | .d (.int i) => (L2.atI xs i).map .v
    | _ => none
  | .d (.str z) => match k with
    | .d (.int i) => if z.length ≤ sizeLine then (L2.atI z.cps.toList i).map fun c => .v (.str ⟨#[c]⟩) else none
    | _ => none
  | .k kvs => match k.D.kk with
    | some j => (valD kvs j).map .v
    | none => none
  | _ => none
def cutD {α : Type} (xs : List α) (lo hi : Option Int) : List α := (xs.drop (HT.sIx xs.length 0 lo)).take (HT.sIx xs.length xs.length hi - HT.sIx xs.length 0 lo)
def oCut (x : Vw) (lo hi : Option Int) : Option Op :=
  match x with
  | .l xs => some (.nl (cutD xs lo hi))
  | .d (.tup xs) => some (.v (.tup (cutD xs lo hi)))
  | .d (.str z) => if z.length ≤ sizeLine then some (.v (.str (L2.cutS z lo hi))) else none
  | _ => none
def oRev (x : Vw) : Option Op :=
  match x with
  | .l xs => some (.nl xs.reverse)
  | .d (.tup xs) => some (.v (.tup xs.reverse))
  | _ => none
/-- the items of what can be walked -/
def itemsV (x : Vw) : Option (List D) :=
  match x with
  | .l xs => some xs
  | .d (.tup xs) => some xs
  | _ => none

/-! ### built-in functions -/
def bLen (x : Vw) : Option Op :=
  match x with
  | .l xs => some (.v (.int (xs.length : Nat)))
  | .d (.tup xs) => some (.v (.int (xs.length : Nat)))
  | .d (.str z) => if z.length ≤ sizeLine then some (.v (.int (z.length : Nat))) else none
  | .k kvs => some (.v (.int (kvs.length : Nat)))
  | _ => none
def bTuple (x : Vw) : Option Op :=
  match x with
  | .l xs => some (.v (.tup xs))
  | .d (.tup xs) => some (.v (.tup xs))
  | _ => none
def bList (x : Vw) : Option Op :=
  match x with
  | .l xs => some (.nl xs)
  | .d (.tup xs) => some (.nl xs)
  | _ => none
def bInt (x : Vw) : Option Op :=
  match x with
  | .d (.int i) => some (.v (.int i))
  | .d (.bl b) => some (.v (.int (if b then 1 else 0)))
  | _ => none
def bAbs (x : Vw) : Option Op :=
  match x with
  | .d (.int i) => some (.v (.int (if i < 0 then -i else i)))
  | _ => none
def bSum (x : Vw) : Option Op :=
  match x with
  | .l xs => (asInts xs).map fun ns => .v (.int ns.sum)
  | _ => none
def minI : List Int → Option Int
  | [] => none
  | x :: r => match minI r with
    | none => some x
    | some y => some (if y < x then y else x)
def maxI : List Int → Option Int
  | [] => none
  | x :: r => match maxI r with
    | none => some x
    | some y => some (if y > x then y else x)
def bMin (x : Vw) : Option Op :=
  match x with
  | .l xs => ((asInts xs).bind minI).map fun z => .v (.int z)
  | _ => none
def bMax (x : Vw) : Option Op :=
  match x with
  | .l xs => ((asInts xs).bind maxI).map fun z => .v (.int z)
  | _ => none
def insI (x : Int) : List Int → List Int
  | [] => [x]
  | y :: r => if x ≤ y then x :: y :: r else y :: insI x r
def sortI : List Int → List Int
  | [] => []
  | x :: r => insI x (sortI r)
/-- data of any kind that can be put in order -/
def encD (d : D) : PyData := d.py.getD .none
def isTupD : PyData → Bool
  | .tuple (_ :: _) => true
  | _ => false
def isOthD : PyData → Bool
  | .tuple _ => false
  | .none => false
  | _ => true
def sortOk (ds : List D) : Bool := ds.all (fun d => d.py.isSome) && (ds.map encD).all (fun a => (ds.map encD).all fun b => W.alike a b) && ((ds.map encD).all isTupD || (ds.map encD).all isOthD) && (ds.map encD).all fun a => decide (a.depth ≤ 64)
def sortD (ds : List D) : List D := ds.mergeSort (W.dataLe false encD)
def bSorted (x : Vw) : Option Op :=
  match x with
  | .l xs => match asInts xs with
    | some ns => some (.nl ((sortI ns).map .int))
    | none => if sortOk xs = true then some (.nl (sortD xs)) else none
  | _ => none

mutual
def noLst : D → Bool
  | .lst _ => false
  | .tup xs => noLsts xs
  | .dct kvs => noLstK kvs
  | _ => true
def noLsts : List D → Bool
  | [] => true
  | x :: r => noLst x && noLsts r
def noLstK : Kvs → Bool
  | [] => true
  | (_, x) :: r => noLst x && noLstK r
end
/-- what repr can tell -/
def bRepr (x : Vw) : Option Op :=
  match x.D.py with
  | some d => if d.showable && (noLst x.D || !d.hasDict) && decide (d.depth ≤ 64) && decide (d.shown.length ≤ sizeLine) then some (.v (.str d.shown)) else none
  | none => none
def mergeD (kvs more : Kvs) : Kvs := more.foldl (fun acc kv => putD acc kv.1 kv.2) kvs
def zipD : List D → List D → List D
  | x :: xs, y :: ys => .tup [x, y] :: zipD xs ys
  | _, _ => []
def bAll (x : Vw) : Option Op :=
  match x with
  | .l xs => (asBls xs).map fun bs => .v (.bl (bs.all id))
  | _ => none
def blt1 (x : Str) : Option (Vw → Option Op) :=
  if x = "len" then some bLen else if x = "tuple" then some bTuple else if x = "list" then some bList else if x = "int" then some bInt
  else if x = "abs" then some bAbs else if x = "sum" then some bSum else if x = "min" then some bMin else if x = "max" then some bMax
  else if x = "sorted" then some bSorted else if x = "repr" then some bRepr else if x = "all" then some bAll else none
def bMin2 := opI fun i j => some (if j < i then j else i)
def bMax2 := opI fun i j => some (if j > i then j else i)
def blt2 (x : Str) : Option (Vw → Vw → Option Op) :=
  if x = "min" then some bMin2 else if x = "max" then some bMax2 else none
inductive Ty where
  | int | bool | str | tuple | list | dict
  deriving DecidableEq
def tyOfStr (x : Str) : Option Ty :=
  if x = "int" then some .int else if x = "bool" then some .bool else if x = "str" then some .str
  else if x = "tuple" then some .tuple else if x = "list" then some .list else if x = "dict" then some .dict else none
def isTy (t : Ty) (x : Vw) : Option Bool :=
  match x with
  | .d .non => some false
  | .d (.bl _) => some (decide (t = .bool) || decide (t = .int))
  | .d (.int _) => some (decide (t = .int))
  | .d (.str _) => some (decide (t = .str))
  | .d (.tup _) => some (decide (t = .tuple))
  | .l _ => some (decide (t = .list))
  | .k _ => some (decide (t = .dict))
  | _ => none

/-! ### methods -/
def lAppend (as xs : List D) : Option (Op × List D) :=
  match as with
  | [y] => if xs.length < sizeLine then some (.v .non, xs ++ [y]) else none
  | _ => none
def lPop (as xs : List D) : Option (Op × List D) :=
  match as with
  | [] => (xs[xs.length - 1]?).map fun y => (.v y, xs.dropLast)
  | [.int i] => if geB i 9223372036854775808 && leB i 9223372036854775807 then match seqIndex? i xs.length with
      | some k => (xs[k]?).map fun y => (.v y, xs.eraseIdx k)
      | none => none
    else none
  | _ => none
def lExtend (as xs : List D) : Option (Op × List D) :=
  match as with
  | [.lst ys] => if xs.length + ys.length ≤ sizeLine then some (.v .non, xs ++ ys) else none
  | _ => none
def mGet2 (x : Vw) (as : List D) : Option Op :=
  match x, as with
  | .k kvs, [k, d] => match k.kk with
    | some j => if okKey kvs j = true then some (.v ((valD kvs j).getD d)) else none
    | none => none
  | _, _ => none
def mutOf (m : Str) (n : Nat) : Option (List D → List D → Option (Op × List D)) :=
  if m = "append" ∧ n = 1 then some lAppend else if m = "pop" ∧ n ≤ 1 then some lPop else none
def methOf (m : Str) (n : Nat) : Option ((Option Vw → Bool) × (Vw → List D → Option Op)) :=
  if m = "get" ∧ n = 2 then some (isK, mGet2) else none
/-- o[k] = v -/
def setL (k v : D) (xs : List D) : Option (Op × List D) :=
  match k with
  | .int i => match L2.ixN xs.length i with
    | some j => some (.v .non, xs.set j v)
    | none => none
  | _ => none
def setK (k v : D) (kvs : Kvs) : Option (Op × Kvs) :=
  match k.kk with
  | some j => if kvs.length < sizeLine ∧ okKey kvs j = true then some (.v .non, putD kvs j v) else none
  | none => none
def sSet (o k e : DE) : DS := fun nv m => (eF e nv m).bind fun v m1 => (o nv m1).bind fun x m2 => (eF k nv m2).bind fun j m3 =>
  match vw x m3 with
  | some (.l _) => (mutL x m3 (setL j v)).bind fun _ m4 => .ok .nx m4
  | some (.k _) => (mutD x m3 (setK j v)).bind fun _ m4 => .ok .nx m4
  | _ => .no

/-! ### what is walked -/
def rngOk (i : Int) : Bool := geB i 4611686018427387904 && leB i 4611686018427387903
def rngD (lo : Int) (n : Nat) : List D := (List.range n).map fun (i : Nat) => .int (lo + (i : Nat))
def iRng1 (a : DE) : DI := fun nv m => (a nv m).bind fun o m1 => match o with
  | .v (.int j) => if rngOk j then .ok (rngD 0 j.toNat) m1 else .no
  | _ => .no
def iRng2 (a b : DE) : DI := fun nv m => (a nv m).bind fun o m1 => (b nv m1).bind fun p m2 => match o, p with
  | .v (.int i), .v (.int j) => if rngOk i && rngOk j then .ok (rngD i (j - i).toNat) m2 else .no
  | _, _ => .no
def enumD (i : Nat) : List D → List D
  | [] => []
  | x :: xs => .tup [.int i, x] :: enumD (i + 1) xs
def frozen : D → Option (List D)
  | .tup xs => some xs
  | .lst xs => some xs
  | _ => none
def iSeq (a : DE) : DI := fun nv m => (eF a nv m).bind fun x m1 => R.of m1 (frozen x)
def iEnum (a : DE) : DI := fun nv m => (eF a nv m).bind fun x m1 => R.of m1 ((frozen x).map (enumD 0))
def zipO : D → D → Option (List D)
  | .tup xs, .tup ys => some (zipD xs ys)
  | .lst xs, .lst ys => some (zipD xs ys)
  | _, _ => none
def iZip (a b : DE) : DI := fun nv m => (eF a nv m).bind fun x m1 => (eF b nv m1).bind fun y m2 => R.of m2 (zipO x y)
/-- list(range(..)) and its like: the items as a list, a tuple, a dict -/
def eLstI (i : DI) : DE := fun nv m => (i nv m).bind fun xs m1 => if xs.length ≤ sizeLine then .ok (.nl xs) m1 else .no
def zipK : List D → List D → Option Kvs
  | x :: xs, y :: ys => match x.kk, zipK xs ys with
    | some j, some kvs => some ((j, y) :: kvs)
    | _, _ => none
  | _, _ => some []
/-- dict(zip(a, b)), a and b lists -/
def eDctZ (a b : DE) : DE := fun nv m => (eF a nv m).bind fun x m1 => (eF b nv m1).bind fun y m2 => R.of m2 (match x, y with
    | .lst xs, .lst ys => match zipK xs ys with
      | some kvs => if (kvs.all (fun kv => kv.1.flat1) || kvs.all (fun kv => kv.1.flatT)) = true then some (.nd (mergeD [] kvs)) else none
      | none => none
    | _, _ => none)
/-- {k: v, ..} -/
def eKvs : List (DE × DE) → Nv → M → R Kvs
  | [] => fun _ m => .ok [] m
  | (k, v) :: r => fun nv m => (eF k nv m).bind fun x m1 => (eF v nv m1).bind fun y m2 => (eKvs r nv m2).bind fun kvs m3 => match x.kk with
    | some j => .ok ((j, y) :: kvs) m3
    | none => .no
def eDct (kvs : List (DE × DE)) : DE := fun nv m => (eKvs kvs nv m).bind fun ps m1 => if ps.length ≤ 15 ∧ ps.all (fun kv => kv.1.flat1) = true then .ok (.nd (mergeD [] ps)) m1 else .no

/-! ### from the text to its meaning -/
inductive GE where
  | fn (i : Nat) (ps : List Str) (kws : List (Nat × List Str)) | con (d : D)
structure Gm where
  N : List Str
  sc : Scope
  own : Scope
  G : List (Str × GE)
  sh : List (Nat × Nat)
def idx (x : Str) : List Str → Option Nat
  | [] => none
  | y :: r => if y = x then some 0 else (idx x r).map (· + 1)
def isVis : Option NameKind → Bool
  | some .local => true
  | some .cell => true
  | some .free => true
  | _ => false
def isLoc : Option NameKind → Bool
  | some .local => true
  | some .cell => true
  | _ => false
def Gm.look (g : Gm) (x : Str) : Option NameKind := g.sc.names.lookup x
def okName (x : Str) : Bool := !(x == ("__debug__" : Str)) && !(x == ("__classdict__" : Str)) && !(x == ("__name__" : Str))
def Gm.slot (g : Gm) (x : Str) : Option Nat := if isVis (g.look x) && okName x then idx x g.N else none
def isGl : Option NameKind → Bool
  | some .globalImplicit => true
  | _ => false
/-- a name that stands for a built-in -/
def Gm.blt (g : Gm) (x : Str) : Bool := isGl (g.look x) && okName x && (g.G.lookup x).isNone
def notStar : Expr → Bool
  | .Starred _ _ => false
  | _ => true
structure Sm where
  E : Gm → Expr → Option DE
  T : Gm → Expr → Option DT
def mapO {α β : Type} (f : α → Option β) : List α → Option (List β)
  | [] => some []
  | x :: r => match f x, mapO f r with
    | some y, some ys => some (y :: ys)
    | _, _ => none
/-- arguments: no stars -/
def argsO (f : Expr → Option DE) (es : List Expr) : Option (List DE) := if es.all notStar then mapO f es else none
def optO (f : Expr → Option DE) : Option Expr → Option (Option DE)
  | none => some none
  | some e => (f e).map some
def cmpT (f : Expr → Option DE) (l : Expr) : List CmpOp → List Expr → Option DT
  | [o], [c] => match cmpOp o, f l, f c with
    | some g, some a, some b => some (t2 g a b)
    | _, _, _ => none
  | [o, o2], [c, c2] => match cmpOp o, cmpOp o2, f l, f c, f c2 with
    | some g, some g2, some a, some b, some b2 => some (t3 g g2 a b b2)
    | _, _, _, _, _ => none
  | _, _ => none
def isSet : Expr → Bool
  | .Set _ _ _ => true
  | _ => false
def kwsO (f : Expr → Option DE) : List Keyword → Option (List (Str × DE))
  | [] => some []
  | ⟨some x, e, _⟩ :: r => match f e, kwsO f r with
    | some d, some ds => some ((x, d) :: ds)
    | _, _ => none
  | _ :: _ => none
def placesO (names : List Str) : List Str → Option (List Nat)
  | [] => some []
  | p :: ps => match idx p names, placesO names ps with
    | some i, some is => some (i :: is)
    | _, _ => none
mutual
/-- a target of names, flat or nested -/
def patO (g : Gm) : Expr → Option Pat
  | .Name x _ => if isLoc (g.own.names.lookup x) && okName x then (idx x g.N).map .n else none
  | .Tuple es _ _ => (patsO g es).map .t
  | _ => none
def patsO (g : Gm) : List Expr → Option (List Pat)
  | [] => some []
  | e :: r => match patO g e, patsO g r with
    | some p, some ps => some (p :: ps)
    | _, _ => none
end
def isTupT : Expr → Bool
  | .Tuple _ _ _ => true
  | _ => false
/-- what is walked, for a target tg -/
def iterO (f : Expr → Option DE) (g : Gm) (tg : Expr) : Expr → Option DI
  | .Call (.Name x p) as kws q =>
    if x = "range" ∧ g.blt x = true ∧ kws.length = 0 then match as with
      | [a] => if notStar a then (f a).map iRng1 else none
      | [a, b] => if notStar a && notStar b then match f a, f b with
        | some d, some e => some (iRng2 d e)
        | _, _ => none
        else none
      | _ => none
    else if x = "enumerate" ∧ g.blt x = true ∧ kws.length = 0 then match as with
      | [a] => if notStar a && isTupT tg then (f a).map iEnum else none
      | _ => none
    else if x = "zip" ∧ g.blt x = true ∧ kws.length = 0 then match as with
      | [a, b] => if notStar a && notStar b && isTupT tg then match f a, f b with
        | some d, some e => some (iZip d e)
        | _, _ => none
        else none
      | _ => none
    else (f (.Call (.Name x p) as kws q)).map iSeq
  | e => if isSet e then none else (f e).map iSeq
mutual
def patIs : Pat → List Nat
  | .n i => [i]
  | .t ps => patsIs ps
def patsIs : List Pat → List Nat
  | [] => []
  | p :: ps => patIs p ++ patsIs ps
end
/-- the names of a comprehension's block of its own, with their places -/
def ownO (N : List Str) : List (Str × NameKind) → Option (List (Str × Nat))
  | [] => some []
  | (x, k) :: r => if isLoc (some k) then match idx x N, ownO N r with
      | some i, some o => some ((x, i) :: o)
      | none, o => o
      | _, _ => none
    else ownO N r
def Gm.blk (g : Gm) (scope : Scope) : Gm := { g with sc := L2.relS scope g.sc, own := scope }
def ifsO (f : Expr → Option DT) : List Expr → Option DT
  | [] => some (fun _ m => .ok true m)
  | [c] => f c
  | _ => none
def shP (g : Gm) (p : Pos) (d : DE) : DE := if g.sh.contains (p.line, p.col) then eShare d else d
def compO (s : Sm) (g : Gm) (gens : List Comprehension) (scope : Scope) (elt : Expr) : Option DE :=
  match ownO g.N scope.names with
  | none => none
  | some own => if L2.blkC g.N g.sc scope own then match gens with
    | [⟨tg, it, ifs, 0⟩] => match iterO (s.E g) g tg it, patO (g.blk scope) tg, ifsO (s.T (g.blk scope)) ifs, s.E (g.blk scope) elt with
      | some i, some p, some c, some e => if (patIs p).all (fun j => (own.map (·.2)).contains j) then some (eComp i p c e (own.map (·.2))) else none
      | _, _, _, _ => none
    | _ => none
    else none
/-- a call of a built-in by its name -/
def bltE (s : Sm) (g : Gm) (x : Str) (as : List Expr) : Option DE :=
  match as with
  | [.Call (.Name y p) bs [] q] =>
    if x = "list" ∧ y = "range" ∧ g.blt y = true then match bs with
      | [a] => if notStar a then (s.E g a).map fun d => eLstI (iRng1 d) else none
      | _ => none
    else if x = "dict" ∧ y = "zip" ∧ g.blt y = true then match argsO (s.E g) bs with
      | some [a, b] => some (eDctZ a b)
      | _ => none
    else match blt1 x, s.E g (.Call (.Name y p) bs [] q) with
      | some f, some d => some (e1 f d)
      | _, _ => none
  | [a] => if notStar a then match blt1 x, s.E g a with
      | some f, some d => some (e1 f d)
      | _, _ => none
    else none
  | [a, .Name t p] => if x = "isinstance" then (if notStar a ∧ g.blt t = true then match tyOfStr t, s.E g a with
      | some ty, some d => some (eB (t1 (isTy ty) d))
      | _, _ => none
      else none)
    else if notStar a then match blt2 x, s.E g a, s.E g (.Name t p) with
      | some f, some d, some e => some (e2 f d e)
      | _, _, _ => none
    else none
  | [a, b] => if notStar a && notStar b then match blt2 x, s.E g a, s.E g b with
      | some f, some d, some e => some (e2 f d e)
      | _, _, _ => none
    else none
  | _ => none
def isCall0 : Expr → Bool
  | .Call _ _ _ _ => true
  | _ => false
def callO (s : Sm) (g : Gm) (f : Expr) (as : List Expr) (kws : List Keyword) (p : Pos) : Option DE :=
  match f with
  | .Name x _ => if isGl (g.look x) && okName x then match g.G.lookup x with
    | some (.fn i ps kp) => match argsO (s.E g) as, kwsO (s.E g) kws with
      | some ds, some ks => if ks.length = 0 then (if ds.length = ps.length then some (eCall i none ds) else none)
        else if kp.contains (ds.length, ks.map (·.1)) then (match placesO (ps.take ds.length ++ ks.map (·.1)) ps with
          | some pl => some (eCall i (some pl) (ds ++ ks.map (·.2)))
          | none => none)
        else none
      | _, _ => none
    | some (.con _) => none
    | none => if kws.length = 0 then bltE s g x as else none
    else none
  | .Attribute o m ap => if kws.length = 0 ∧ (ap.endLine == p.line) = true ∧ isCall0 o = false then match s.E g o, argsO (s.E g) as with
    | some a, some ds => match mutOf m ds.length with
      | some h => some (eMutL h a ds)
      | none => match methOf m ds.length with
        | some h => some (eMeth h.1 h.2 a ds)
        | none => none
    | _, _ => none
    else none
  | _ => none
def isSlice : Expr → Bool
  | .Slice _ _ _ _ => true
  | _ => false
/-- a[i] -/
def subO (s : Sm) (g : Gm) (a : Expr) : Expr → Option DE
  | .Slice none none (some (.UnaryOp .USub (.Constant (.int 1) _ _) _)) _ => (s.E g a).map (e1 oRev)
  | .Slice lo hi none _ => match s.E g a, optO (s.E g) lo, optO (s.E g) hi with
    | some d, some l, some h => some (eSlice oCut d l h)
    | _, _, _ => none
  | i => if isSlice i then none else match s.E g a, s.E g i with
    | some d, some e => some (e2 oIx d e)
    | _, _ => none
def stepE (s : Sm) (g : Gm) : Expr → Option DE
  | .Constant c _ _ => match c with
    | .none => some (eC .non)
    | .bool b => some (eC (.bl b))
    | .int i => some (eC (.int i))
    | .str x => some (eC (.str x))
    | _ => none
  | .Name x _ => match g.slot x with
    | some i => some (eVar i)
    | none => if isGl (g.look x) && okName x then match g.G.lookup x with
      | some (.con d) => some (eC d)
      | _ => none
      else none
  | .BoolOp .And vs _ => (mapO (s.E g) vs).map eAnd
  | .BoolOp .Or vs _ => (mapO (s.E g) vs).map eOr
  | .BinOp a op b _ => match binOp op, s.E g a, s.E g b with
    | some f, some d, some e => some (e2 f d e)
    | _, _, _ => none
  | .UnaryOp .Not a _ => (s.E g a).map fun d => eB (tNot (tE d))
  | .UnaryOp .USub a _ => (s.E g a).map (e1 oNeg)
  | .UnaryOp .Invert a _ => (s.E g a).map (e1 oInv)
  | .Compare l ops cs _ => if cs.all (fun c => !isSet c) then (cmpT (s.E g) l ops cs).map eB else none
  | .IfExp t a b _ => match s.T g t, s.E g a, s.E g b with
    | some c, some d, some e => some (eIf c d e)
    | _, _, _ => none
  | .Tuple es _ _ => (argsO (s.E g) es).map eTup
  | .List es p => (argsO (s.E g) es).map fun ds => shP g p (eLst ds)
  | .Dict ks vs p => match mapO (fun k => k.bind (s.E g)) ks, mapO (s.E g) vs with
    | some a, some b => if a.length = b.length ∧ a.length ≤ 15 then some (shP g p (eDct (a.zip b))) else none
    | _, _ => none
  | .Call f as kws p => (callO s g f as kws p).map (shP g p)
  | .Subscript a i _ => subO s g a i
  | .ListComp elt gens scope p => (compO s g gens scope elt).map (shP g p)
  | _ => none
def isPlainT : Expr → Bool
  | .UnaryOp .Not _ _ => false
  | .BoolOp _ _ _ => false
  | .IfExp _ _ _ _ => false
  | .Compare _ _ _ _ => false
  | _ => true
def stepT (s : Sm) (g : Gm) : Expr → Option DT
  | .UnaryOp .Not a _ => (s.T g a).map tNot
  | .BoolOp .And (v :: vs) _ => (mapO (s.T g) (v :: vs)).map tAnd
  | .BoolOp .Or (v :: vs) _ => (mapO (s.T g) (v :: vs)).map tOr
  | .IfExp t a b _ => match s.T g t, s.T g a, s.T g b with
    | some c, some d, some e => some (tIf c d e)
    | _, _, _ => none
  | .Compare l ops cs _ => if cs.all (fun c => !isSet c) then cmpT (s.E g) l ops cs else none
  | e => if isPlainT e then (s.E g e).map tE else none
def sems : Nat → Sm
  | 0 => ⟨fun _ _ => none, fun _ _ => none⟩
  | n + 1 => ⟨stepE (sems n), stepT (sems n)⟩

/-! ### statements -/
def isComp : Expr → Bool
  | .ListComp _ _ _ _ => true
  | .SetComp _ _ _ _ => true
  | .DictComp _ _ _ _ _ => true
  | _ => false
/-- a name that may be stored -/
def Gm.stN (g : Gm) (x : Str) : Bool := isLoc (g.own.names.lookup x) && okName x
/-- two names at once: stored from the right, or from the left by way of a tuple -/
def parOk (g : Gm) (x y : Str) (p q : Pos) (a b : Expr) : Bool :=
  decide (x ≠ y) && g.stN x && g.stN y && notStar a && notStar b &&
    ((decide (g.look x = some .local) && decide (g.look y = some .local) && (q.line == p.line) && !([a, b].all (foldedForSure 8)) && !([a, b].all (constantsAlone 8))) ||
      !decide (g.look x = some .local) || !decide (g.look y = some .local))
/-- name = comprehension, stored by the comprehension itself -/
def swapC (g : Gm) (x : Str) (p : Pos) (e : Expr) : Option Bool :=
  match e with
  | .ListComp _ _ scope q => some (decide (g.look x = some .local) && (p.line == q.line) && !(scope.names.any fun (n, k) => n == x && (k == .local || k == .cell)))
  | .SetComp _ _ _ _ => none
  | .DictComp _ _ _ _ _ => none
  | _ => some false
def asgO (s : Sm) (g : Gm) (tg e : Expr) : Option DS :=
  match tg with
  | .Name x p => if g.stN x && (swapC g x p e).isSome then match idx x g.N, s.E g e with
    | some i, some d => some (sAsg i d)
    | _, _ => none
    else none
  | .Subscript o k _ => if isSlice k || isComp e then none else match s.E g o, s.E g k, s.E g e with
    | some a, some b, some d => some (sSet a b d)
    | _, _, _ => none
  | .Tuple ts _ _ => match e with
    | .Tuple es _ _ => match ts, es with
      | [.Name x p, .Name y q], [a, b] => if parOk g x y p q a b then match idx x g.N, idx y g.N, s.E g a, s.E g b with
        | some i, some j, some d, some d2 => some (sPar2 i j d d2)
        | _, _, _, _ => none
        else none
      | _, _ => none
    | e => if isComp e then none else match patsO g ts, s.E g e with
      | some ps, some d => some (sUn (.t ps) d)
      | _, _ => none
  | _ => none
def isDoc : Expr → Bool
  | .Constant (.str _) _ _ => true
  | _ => false
mutual
def semS (n : Nat) (g : Gm) : Stmt → Option DS
  | .Return none _ => some sRetN
  | .Return (some e) _ => ((sems n).E g e).map sRet
  | .Assign [tg] e _ => asgO (sems n) g tg e
  | .If c a b _ => match (sems n).T g c, semSs n g a, semSs n g b with
    | some t, some x, some y => some (sIf t x y)
    | _, _, _ => none
  | .For tg it b [] _ => match iterO ((sems n).E g) g tg it, patO g tg, semSs n g b with
    | some i, some p, some x => some (sFor p i x)
    | _, _, _ => none
  | .While c b [] _ => match (sems n).T g c, semSs n g b with
    | some t, some x => some (sWhile t x)
    | _, _ => none
  | .Expr e _ => if isDoc e then some sSkip else if isComp e then none else ((sems n).E g e).map sExp
  | .Pass _ => some sSkip
  | .Break _ => some sBrk
  | .Continue _ => some sCnt
  | .Raise _ _ _ => some sNo
  | _ => none
def semSs (n : Nat) (g : Gm) : List Stmt → Option DS
  | [] => some sSkip
  | [s] => semS n g s
  | s :: r => match semS n g s, semSs n g r with
    | some a, some b => some (sSeq [a, b])
    | _, _ => none
end
end Kd

namespace Kd
open PySem
/-- a def of the text: its parameters, its names by slot (parameters first), its statement -/
structure Df where
  nm : Str
  ps : List Str
  N : List Str
  st : Stmt
def Df.gm (G : List (Str × GE)) (sh : List (Nat × Nat)) (d : Df) : Gm := ⟨d.N, L2.defScope d.st, L2.defScope d.st, G, sh⟩
def Df.sem (n : Nat) (G : List (Str × GE)) (sh : List (Nat × Nat)) (d : Df) : Option DS := semSs n (d.gm G sh) (L2.defBody d.st)
def startM (nN : Nat) (as : List D) (S : List Ob) : M := ⟨as.map .val ++ List.replicate (nN - as.length) .un, S⟩
def endR : R Fl → CR
  | .ok (.rt o) m => .ok o m.S
  | .ok .nx m => .ok (.v .non) m.S
  | .ok _ _ => .no
  | .ex c d m => .ex c d m.S
  | .no => .no
def runD (b : DS) (nN : Nat) (nv : Nv) (as : List D) (S : List Ob) : CR := endR (b nv (startM nN as S))
structure Cd where
  b : DS
  np : Nat
  nN : Nat
def ctK (P : List Cd) (wf : Nat) : Nat → Nat → List D → List Ob → CR
  | 0 => fun _ _ _ => .no
  | k + 1 => fun i as S => match P[i]? with
    | some c => if as.length = c.np then runD c.b c.nN ⟨ctK P wf k, wf⟩ as S else .no
    | none => .no
def Df.cd (n : Nat) (G : List (Str × GE)) (sh : List (Nat × Nat)) (d : Df) : Cd := ⟨(d.sem n G sh).getD sNo, d.ps.length, d.N.length⟩
end Kd

namespace Kd
open PySem
/-- a mark by which a thing is held fast -/
class Un {β : Type} (b : β) where
  n : Unit
instance unI {β : Type} (b : β) : Un b := ⟨()⟩
@[irreducible] def W {α : Type} (r : R α) (Q : α → M → Prop) [Un Q] : Prop := match r with
  | .ok a m => Q a m
  | .ex _ _ _ => False
  | .no => False
theorem W_c2 {α : Type} {r : R α} {Q Q2 : α → M → Prop} (h : Q = Q2) : W r Q = W r Q2 := by rw [h]
theorem W_ok {α : Type} (a : α) (m : M) (Q : α → M → Prop) : W (.ok a m) Q = Q a m := by with_unfolding_all exact rfl
theorem W_no {α : Type} (Q : α → M → Prop) : W (.no : R α) Q = False := by with_unfolding_all exact rfl
theorem W_bind {α β : Type} (r : R α) (f : α → M → R β) (Q : β → M → Prop) : W (r.bind f) Q = W r fun a m => W (f a m) Q := by with_unfolding_all (cases r <;> rfl)
theorem W_ite {α : Type} {c : Prop} [Decidable c] (a b : R α) (Q : α → M → Prop) : W (if c then a else b) Q = if c then W a Q else W b Q := by split <;> rfl
theorem W.mono {α : Type} {r : R α} {Q Q' : α → M → Prop} (h : W r Q) (q : ∀ a m, Q a m → Q' a m) : W r Q' := by
  with_unfolding_all
    cases r with
    | ok a m => exact q a m h
    | ex _ _ _ => exact h
    | no => exact h
theorem W.iff {α : Type} {r : R α} {Q : α → M → Prop} : W r Q ↔ ∃ a m, r = .ok a m ∧ Q a m := by
  with_unfolding_all
    constructor
    · intro h
      cases r with
      | ok a m => exact ⟨a, m, rfl, h⟩
      | ex _ _ _ => exact h.elim
      | no => exact h.elim
    · rintro ⟨a, m, rfl, h⟩
      exact h
@[irreducible] def WC (r : CR) (Q : Op → List Ob → Prop) [Un Q] : Prop := match r with
  | .ok o S => Q o S
  | .ex _ _ _ => False
  | .no => False
theorem WC.mono {r : CR} {Q Q' : Op → List Ob → Prop} (h : WC r Q) (q : ∀ o S, Q o S → Q' o S) : WC r Q' := by
  with_unfolding_all
    cases r with
    | ok a m => exact q a m h
    | ex _ _ _ => exact h
    | no => exact h
theorem W_to (r : CR) (m : M) (Q : Op → M → Prop) : W (r.to m) Q = WC r fun o S => Q o ⟨m.r, S⟩ := by with_unfolding_all (cases r <;> rfl)
@[irreducible] def retQ (Q : Op → List Ob → Prop) (f : Fl) (m : M) : Prop := match f with
  | .rt o => Q o m.S
  | .nx => Q (.v .non) m.S
  | .bk => False
  | .ct => False
theorem retQ_rt (Q : Op → List Ob → Prop) (o : Op) (m : M) : retQ Q (.rt o) m = Q o m.S := by with_unfolding_all exact rfl
theorem retQ_nx (Q : Op → List Ob → Prop) (m : M) : retQ Q .nx m = Q (.v .non) m.S := by with_unfolding_all exact rfl
/-- a call at a level above -/
theorem WC_ct {P : List Cd} {wf k i np nN : Nat} {b : DS} {as : List D} {S : List Ob} {Q : Op → List Ob → Prop} (h : P[i]? = some ⟨b, np, nN⟩) (hl : as.length = np) (w : W (b ⟨ctK P wf k, wf⟩ (startM nN as S)) (retQ Q)) : WC (ctK P wf (k + 1) i as S) Q := by
  with_unfolding_all
    unfold ctK
    rw [h]
    simp only [if_pos hl]
    unfold runD
    revert w
    cases b ⟨ctK P wf k, wf⟩ (startM nN as S) with
    | ok f m => cases f <;> exact fun w => w
    | ex _ _ _ => exact fun w => w
    | no => exact fun w => w
/-! ### statements -/
@[irreducible] def seqQ (k : M → R Fl) (Q : Fl → M → Prop) [Un (k, Q)] (f : Fl) (m : M) : Prop := match f with
  | .nx => W (k m) Q
  | .rt o => Q (.rt o) m
  | .bk => Q .bk m
  | .ct => Q .ct m
theorem seqQ_nx (k : M → R Fl) (Q : Fl → M → Prop) (m : M) : seqQ k Q .nx m = W (k m) Q := by with_unfolding_all exact rfl
theorem seqQ_rt (k : M → R Fl) (Q : Fl → M → Prop) (o : Op) (m : M) : seqQ k Q (.rt o) m = Q (.rt o) m := by with_unfolding_all exact rfl
theorem seqQ_bk (k : M → R Fl) (Q : Fl → M → Prop) (m : M) : seqQ k Q .bk m = Q .bk m := by with_unfolding_all exact rfl
theorem seqQ_ct (k : M → R Fl) (Q : Fl → M → Prop) (m : M) : seqQ k Q .ct m = Q .ct m := by with_unfolding_all exact rfl
theorem sSeq_one (b : DS) : sSeq [b] = b := by
  funext nv m
  show (b nv m).bind _ = b nv m
  cases b nv m with
  | ok f m1 => cases f <;> rfl
  | ex _ _ _ => rfl
  | no => rfl
theorem W_seq (a b : DS) (nv : Nv) (m : M) (Q : Fl → M → Prop) : W (sSeq [a, b] nv m) Q = W (a nv m) (seqQ (b nv) Q) := by
  with_unfolding_all
    show W ((a nv m).bind _) Q = _
    rw [W_bind]
    cases a nv m with
    | ok f m1 =>
      cases f with
      | nx =>
        show W (sSeq [b] nv m1) Q = W (b nv m1) Q
        rw [sSeq_one]
      | rt o => rfl
      | bk => rfl
      | ct => rfl
    | ex _ _ _ => rfl
    | no => rfl
@[irreducible] def stQ (x : Option M) (Q : Fl → M → Prop) [Un Q] : Prop := match x with
  | some m => Q .nx m
  | none => False
theorem stQ_some (m : M) (Q : Fl → M → Prop) : stQ (some m) Q = Q .nx m := by with_unfolding_all exact rfl
theorem W_asg (i : Nat) (d : DE) (nv : Nv) (m : M) (Q : Fl → M → Prop) : W (sAsg i d nv m) Q = W (d nv m) fun o m1 => stQ (setSl i o m1) Q := by
  with_unfolding_all
    show W ((d nv m).bind _) Q = _
    rw [W_bind]
    cases d nv m with
    | ok o m1 =>
      show W ((R.of m1 (setSl i o m1)).bind _) Q = stQ (setSl i o m1) Q
      cases setSl i o m1 <;> rfl
    | ex _ _ _ => rfl
    | no => rfl
theorem W_un (p : Pat) (d : DE) (nv : Nv) (m : M) (Q : Fl → M → Prop) : W (sUn p d nv m) Q = W (eF d nv m) fun x m1 => stQ (p.set x m1) Q := by
  with_unfolding_all
    show W ((eF d nv m).bind _) Q = _
    rw [W_bind]
    cases eF d nv m with
    | ok o m1 =>
      show W ((R.of m1 (p.set o m1)).bind _) Q = stQ (p.set o m1) Q
      cases p.set o m1 <;> rfl
    | ex _ _ _ => rfl
    | no => rfl
theorem W_par2 (i j : Nat) (a b : DE) (nv : Nv) (m : M) (Q : Fl → M → Prop) : W (sPar2 i j a b nv m) Q = W (a nv m) fun o m0 => W (fzS o m0) fun x m1 => W (b nv m1) fun p m2 => W (fzS p m2) fun y m3 => stQ ((setSl i x m3).bind (setSl j y)) Q := by
  with_unfolding_all
    show W ((a nv m).bind _) Q = _
    rw [W_bind]
    cases a nv m with
    | ok o m0 =>
      show W ((fzS o m0).bind _) Q = W (fzS o m0) _
      rw [W_bind]
      cases fzS o m0 with
      | ok x m1 =>
        show W ((b nv m1).bind _) Q = W (b nv m1) _
        rw [W_bind]
        cases b nv m1 with
        | ok p m2 =>
          show W ((fzS p m2).bind _) Q = W (fzS p m2) _
          rw [W_bind]
          cases fzS p m2 with
          | ok y m3 =>
            show W ((R.of m3 ((setSl i x m3).bind (setSl j y))).bind _) Q = stQ ((setSl i x m3).bind (setSl j y)) Q
            cases (setSl i x m3).bind (setSl j y) <;> rfl
          | ex _ _ _ => rfl
          | no => rfl
        | ex _ _ _ => rfl
        | no => rfl
      | ex _ _ _ => rfl
      | no => rfl
    | ex _ _ _ => rfl
    | no => rfl
theorem W_exp (d : DE) (nv : Nv) (m : M) (Q : Fl → M → Prop) : W (sExp d nv m) Q = W (d nv m) fun _ m1 => Q .nx m1 := by with_unfolding_all exact W_bind _ _ _
@[irreducible] def rtQ (o : Op) (m : M) (Q : Fl → M → Prop) [Un Q] : Prop := match o with
  | .sl i => match m.r[i]? with
    | some (.val d) => Q (.rt (.v d)) m
    | some (.ol xs) => Q (.rt (.nl xs)) m
    | some (.od kvs) => Q (.rt (.nd kvs)) m
    | _ => False
  | o => Q (.rt o) m
theorem rtQ_v (d : D) (m : M) (Q : Fl → M → Prop) : rtQ (.v d) m Q = Q (.rt (.v d)) m := by with_unfolding_all exact rfl
theorem rtQ_nl (d : List D) (m : M) (Q : Fl → M → Prop) : rtQ (.nl d) m Q = Q (.rt (.nl d)) m := by with_unfolding_all exact rfl
theorem rtQ_nd (d : Kvs) (m : M) (Q : Fl → M → Prop) : rtQ (.nd d) m Q = Q (.rt (.nd d)) m := by with_unfolding_all exact rfl
theorem rtQ_sl (i : Nat) (m : M) (Q : Fl → M → Prop) {xs : List D} (h : m.r[i]? = some (.ol xs)) : rtQ (.sl i) m Q = Q (.rt (.nl xs)) m := by unfold rtQ; simp only [h]
theorem rtQ_sd (i : Nat) (m : M) (Q : Fl → M → Prop) {xs : Kvs} (h : m.r[i]? = some (.od xs)) : rtQ (.sl i) m Q = Q (.rt (.nd xs)) m := by unfold rtQ; simp only [h]
theorem W_ret (d : DE) (nv : Nv) (m : M) (Q : Fl → M → Prop) : W (sRet d nv m) Q = W (d nv m) fun o m1 => rtQ o m1 Q := by
  with_unfolding_all
    show W ((d nv m).bind _) Q = _
    rw [W_bind]
    cases d nv m with
    | ok o m1 =>
      cases o with
      | sl i =>
        show W (match m1.r[i]? with
          | some (.val d) => .ok (.rt (.v d)) m1
          | some (.ol xs) => .ok (.rt (.nl xs)) m1
          | some (.od kvs) => .ok (.rt (.nd kvs)) m1
          | _ => .no) Q = match m1.r[i]? with
          | some (.val d) => Q (.rt (.v d)) m1
          | some (.ol xs) => Q (.rt (.nl xs)) m1
          | some (.od kvs) => Q (.rt (.nd kvs)) m1
          | _ => False
        cases m1.r[i]? with
        | none => rfl
        | some s => cases s <;> rfl
      | v d => rfl
      | nl xs => rfl
      | nd kvs => rfl
    | ex _ _ _ => rfl
    | no => rfl
theorem W_retN (nv : Nv) (m : M) (Q : Fl → M → Prop) : W (sRetN nv m) Q = Q (.rt (.v .non)) m := by with_unfolding_all exact rfl
theorem W_skip (nv : Nv) (m : M) (Q : Fl → M → Prop) : W (sSkip nv m) Q = Q .nx m := by with_unfolding_all exact rfl
theorem W_brk (nv : Nv) (m : M) (Q : Fl → M → Prop) : W (sBrk nv m) Q = Q .bk m := by with_unfolding_all exact rfl
theorem W_cnt (nv : Nv) (m : M) (Q : Fl → M → Prop) : W (sCnt nv m) Q = Q .ct m := by with_unfolding_all exact rfl
@[irreducible] def ifQ (a b : M → R Fl) (Q : Fl → M → Prop) [Un (a, b, Q)] (c : Bool) (m : M) : Prop := match c with
  | true => W (a m) Q
  | false => W (b m) Q
theorem ifQ_t (a b : M → R Fl) (Q : Fl → M → Prop) (m : M) : ifQ a b Q true m = W (a m) Q := by with_unfolding_all exact rfl
theorem ifQ_f (a b : M → R Fl) (Q : Fl → M → Prop) (m : M) : ifQ a b Q false m = W (b m) Q := by with_unfolding_all exact rfl
theorem W_if (t : DT) (a b : DS) (nv : Nv) (m : M) (Q : Fl → M → Prop) : W (sIf t a b nv m) Q = W (t nv m) (ifQ (a nv) (b nv) Q) := by
  with_unfolding_all
    show W ((t nv m).bind _) Q = _
    rw [W_bind]
    cases t nv m with
    | ok c m1 => cases c <;> rfl
    | ex _ _ _ => rfl
    | no => rfl
/-! ### expressions -/
@[irreducible] def okQ {α : Type} (x : Option α) (m : M) (Q : α → M → Prop) [Un (m, Q)] : Prop := match x with
  | some z => Q z m
  | none => False
theorem okQ_c2 {α : Type} {x : Option α} {m : M} {Q Q2 : α → M → Prop} (h : Q = Q2) : okQ x m Q = okQ x m Q2 := by rw [h]
theorem okQ_some {α : Type} (z : α) (m : M) (Q : α → M → Prop) : okQ (some z) m Q = Q z m := by with_unfolding_all exact rfl
theorem W_of {α : Type} (x : Option α) (m : M) (Q : α → M → Prop) : W (R.of m x) Q = okQ x m Q := by with_unfolding_all (cases x <;> rfl)
theorem W_eC (d : D) (nv : Nv) (m : M) (Q : Op → M → Prop) : W (eC d nv m) Q = Q (.v d) m := by with_unfolding_all exact rfl
theorem W_var (i : Nat) (nv : Nv) (m : M) (Q : Op → M → Prop) {d : D} (h : m.r[i]? = some (.val d)) : W (eVar i nv m) Q = Q (.v d) m := by with_unfolding_all (unfold eVar; simp only [h]; rfl)
theorem W_varL (i : Nat) (nv : Nv) (m : M) (Q : Op → M → Prop) {d : List D} (h : m.r[i]? = some (.ol d)) : W (eVar i nv m) Q = Q (.sl i) m := by with_unfolding_all (unfold eVar; simp only [h]; rfl)
theorem W_varK (i : Nat) (nv : Nv) (m : M) (Q : Op → M → Prop) {d : Kvs} (h : m.r[i]? = some (.od d)) : W (eVar i nv m) Q = Q (.sl i) m := by with_unfolding_all (unfold eVar; simp only [h]; rfl)
theorem W_eF (d : DE) (nv : Nv) (m : M) (Q : D → M → Prop) : W (eF d nv m) Q = W (d nv m) fun o m1 => W (fz o m1) Q := W_bind _ _ _
theorem W_fz_v (d : D) (m : M) (Q : D → M → Prop) : W (fz (.v d) m) Q = Q d m := by with_unfolding_all exact rfl
theorem W_fz_nl (xs : List D) (m : M) (Q : D → M → Prop) : W (fz (.nl xs) m) Q = Q (.lst xs) m := by with_unfolding_all exact rfl
theorem W_fz_nd (xs : Kvs) (m : M) (Q : D → M → Prop) : W (fz (.nd xs) m) Q = Q (.dct xs) m := by with_unfolding_all exact rfl
theorem W_fz_sl (i : Nat) (m : M) (Q : D → M → Prop) {xs : List D} (h : m.r[i]? = some (.ol xs)) : W (fz (.sl i) m) Q = Q (.lst xs) ⟨m.r.set i (.val (.lst xs)), m.S⟩ := by with_unfolding_all (unfold fz; simp only [h]; rfl)
theorem W_fz_sd (i : Nat) (m : M) (Q : D → M → Prop) {xs : Kvs} (h : m.r[i]? = some (.od xs)) : W (fz (.sl i) m) Q = Q (.dct xs) ⟨m.r.set i (.val (.dct xs)), m.S⟩ := by with_unfolding_all (unfold fz; simp only [h]; rfl)
theorem W_fzS_v (d : D) (m : M) (Q : Op → M → Prop) : W (fzS (.v d) m) Q = Q (.v d) m := by with_unfolding_all exact rfl
theorem W_fzS_nl (d : List D) (m : M) (Q : Op → M → Prop) : W (fzS (.nl d) m) Q = Q (.nl d) m := by with_unfolding_all exact rfl
theorem W_fzS_nd (d : Kvs) (m : M) (Q : Op → M → Prop) : W (fzS (.nd d) m) Q = Q (.nd d) m := by with_unfolding_all exact rfl
theorem W_fzS_sl (i : Nat) (m : M) (Q : Op → M → Prop) : W (fzS (.sl i) m) Q = W (fz (.sl i) m) fun d m1 => Q (.v d) m1 := by with_unfolding_all exact W_bind _ _ _
theorem W_list_nil (nv : Nv) (m : M) (Q : List D → M → Prop) : W (eList [] nv m) Q = Q [] m := by with_unfolding_all exact rfl
theorem W_list_cons (d : DE) (r : List DE) (nv : Nv) (m : M) (Q : List D → M → Prop) : W (eList (d :: r) nv m) Q = W (eF d nv m) fun x m1 => W (eList r nv m1) fun xs m2 => Q (x :: xs) m2 := by
  with_unfolding_all
    show W ((eF d nv m).bind _) Q = _
    rw [W_bind]
    refine W_c2 ?_
    funext x m1
    exact W_bind _ _ _
theorem eList_size (nv : Nv) : ∀ (ds : List DE) {m m' : M} {xs : List D}, eList ds nv m = .ok xs m' → xs.length = ds.length
  | [], _, _, _, e => by cases e; rfl
  | d :: r, m, m', zs, e => by
    have e0 : ((eF d nv m).bind fun x m1 => (eList r nv m1).bind fun xs m2 => .ok (x :: xs) m2) = .ok zs m' := e
    cases e1 : eF d nv m with
    | ok z m1 =>
      rw [e1] at e0
      have e0' : ((eList r nv m1).bind fun xs m2 => .ok (z :: xs) m2) = .ok zs m' := e0
      cases e2 : eList r nv m1 with
      | ok ys m2 =>
        rw [e2] at e0'
        cases e0'
        rw [List.length_cons, List.length_cons, eList_size nv r e2]
      | ex a b m2 => rw [e2] at e0'; cases e0'
      | no => rw [e2] at e0'; cases e0'
    | ex a b m2 => rw [e1] at e0; cases e0
    | no => rw [e1] at e0; cases e0
theorem W_tup (ds : List DE) (nv : Nv) (m : M) (Q : Op → M → Prop) (h : ds.length ≤ sizeLine) : W (eTup ds nv m) Q = W (eList ds nv m) fun xs m1 => Q (.v (.tup xs)) m1 := by
  with_unfolding_all
    show W ((eList ds nv m).bind _) Q = _
    rw [W_bind]
    cases e : eList ds nv m with
    | ok xs m1 =>
      have k' := eList_size nv ds e
      show W (if xs.length ≤ sizeLine then _ else _) Q = Q _ m1
      rw [if_pos (by omega)]
      rfl
    | ex _ _ _ => rfl
    | no => rfl
theorem W_lst (ds : List DE) (nv : Nv) (m : M) (Q : Op → M → Prop) (h : ds.length ≤ sizeLine) : W (eLst ds nv m) Q = W (eList ds nv m) fun xs m1 => Q (.nl xs) m1 := by
  with_unfolding_all
    show W ((eList ds nv m).bind _) Q = _
    rw [W_bind]
    cases e : eList ds nv m with
    | ok xs m1 =>
      have k' := eList_size nv ds e
      show W (if xs.length ≤ sizeLine then _ else _) Q = Q _ m1
      rw [if_pos (by omega)]
      rfl
    | ex _ _ _ => rfl
    | no => rfl
theorem W_e1 (f : Vw → Option Op) (a : DE) (nv : Nv) (m : M) (Q : Op → M → Prop) : W (e1 f a nv m) Q = W (a nv m) fun o m1 => okQ ((vw o m1).bind f) m1 Q := by
  show W ((a nv m).bind _) Q = _
  rw [W_bind]
  refine W_c2 ?_; funext _ _; rw [W_of]
theorem W_e2 (f : Vw → Vw → Option Op) (a b : DE) (nv : Nv) (m : M) (Q : Op → M → Prop) : W (e2 f a b nv m) Q = W (a nv m) fun o m1 => W (b nv m1) fun p m2 => okQ ((vw o m2).bind fun x => (vw p m2).bind fun y => f x y) m2 Q := by
  show W ((a nv m).bind _) Q = _
  rw [W_bind]
  refine W_c2 ?_
  funext o m1
  rw [W_bind]
  refine W_c2 ?_; funext _ _; rw [W_of]
theorem W_t1 (f : Vw → Option Bool) (a : DE) (nv : Nv) (m : M) (Q : Bool → M → Prop) : W (t1 f a nv m) Q = W (a nv m) fun o m1 => okQ ((vw o m1).bind f) m1 Q := by
  show W ((a nv m).bind _) Q = _
  rw [W_bind]
  refine W_c2 ?_; funext _ _; rw [W_of]
theorem W_t2 (f : Vw → Vw → Option Bool) (a b : DE) (nv : Nv) (m : M) (Q : Bool → M → Prop) : W (t2 f a b nv m) Q = W (a nv m) fun o m1 => W (b nv m1) fun p m2 => okQ ((vw o m2).bind fun x => (vw p m2).bind fun y => f x y) m2 Q := by
  show W ((a nv m).bind _) Q = _
  rw [W_bind]
  refine W_c2 ?_
  funext o m1
  rw [W_bind]
  refine W_c2 ?_; funext _ _; rw [W_of]
@[irreducible] def tfQ (a b : M → Prop) [Un (a, b)] (c : Bool) (m : M) : Prop := match c with
  | true => a m
  | false => b m
theorem tfQ_t (a b : M → Prop) (m : M) : tfQ a b true m = a m := by with_unfolding_all exact rfl
theorem tfQ_f (a b : M → Prop) (m : M) : tfQ a b false m = b m := by with_unfolding_all exact rfl
theorem tf_ite {α : Type} (c : Bool) (x y : R α) (Q : α → M → Prop) (m : M) : W (if c = true then x else y) Q = tfQ (fun _ => W x Q) (fun _ => W y Q) c m := by with_unfolding_all (cases c <;> rfl)
theorem W_t3 (f g : Vw → Vw → Option Bool) (a b c : DE) (nv : Nv) (m : M) (Q : Bool → M → Prop) : W (t3 f g a b c nv m) Q = W (a nv m) fun o m1 => W (b nv m1) fun p m2 =>
    okQ ((vw o m2).bind fun x => (vw p m2).bind fun y => f x y) m2 (tfQ (fun m3 => W (c nv m3) fun q m4 => okQ ((vw p m4).bind fun x => (vw q m4).bind fun y => g x y) m4 Q) (fun m3 => Q false m3)) := by
  with_unfolding_all
    show W ((a nv m).bind _) Q = _
    rw [W_bind]
    refine W_c2 ?_
    funext o m1
    rw [W_bind]
    refine W_c2 ?_
    funext p m2
    rw [W_bind, W_of]
    refine okQ_c2 ?_
    funext k m3
    cases k
    · rfl
    · show W ((c nv m3).bind _) Q = _
      rw [W_bind]
      refine W_c2 ?_; funext _ _; rw [W_of]
theorem W_eB (t : DT) (nv : Nv) (m : M) (Q : Op → M → Prop) : W (eB t nv m) Q = W (t nv m) fun b m1 => Q (.v (.bl b)) m1 := by with_unfolding_all exact W_bind _ _ _
@[irreducible] def boQ (o : Op) (m : M) (Q : Bool → M → Prop) [Un (m, Q)] : Prop := match o with
  | .v (.bl b) => Q b m
  | _ => False
theorem boQ_bl (b : Bool) (m : M) (Q : Bool → M → Prop) : boQ (.v (.bl b)) m Q = Q b m := by with_unfolding_all exact rfl
theorem W_tE (d : DE) (nv : Nv) (m : M) (Q : Bool → M → Prop) : W (tE d nv m) Q = W (d nv m) fun o m1 => boQ o m1 Q := by
  with_unfolding_all
    show W ((d nv m).bind _) Q = _
    rw [W_bind]
    refine W_c2 ?_
    funext o m1
    cases o with
    | v d => cases d <;> rfl
    | nl _ => rfl
    | nd _ => rfl
    | sl _ => rfl
theorem W_tNot (t : DT) (nv : Nv) (m : M) (Q : Bool → M → Prop) : W (tNot t nv m) Q = W (t nv m) fun b m1 => Q (!b) m1 := by with_unfolding_all exact W_bind _ _ _
theorem W_and_nil (nv : Nv) (m : M) (Q : Bool → M → Prop) : W (tAnd [] nv m) Q = Q true m := by with_unfolding_all exact rfl
theorem W_or_nil (nv : Nv) (m : M) (Q : Bool → M → Prop) : W (tOr [] nv m) Q = Q false m := by with_unfolding_all exact rfl
theorem W_and (t : DT) (r : List DT) (nv : Nv) (m : M) (Q : Bool → M → Prop) : W (tAnd (t :: r) nv m) Q = W (t nv m) (tfQ (fun m1 => W (tAnd r nv m1) Q) fun m1 => Q false m1) := by
  with_unfolding_all
    show W ((t nv m).bind _) Q = _
    rw [W_bind]
    refine W_c2 ?_
    funext b m1
    cases b <;> rfl
theorem W_or (t : DT) (r : List DT) (nv : Nv) (m : M) (Q : Bool → M → Prop) : W (tOr (t :: r) nv m) Q = W (t nv m) (tfQ (fun m1 => Q true m1) fun m1 => W (tOr r nv m1) Q) := by
  with_unfolding_all
    show W ((t nv m).bind _) Q = _
    rw [W_bind]
    refine W_c2 ?_
    funext b m1
    cases b <;> rfl
theorem W_eand1 (d : DE) (nv : Nv) (m : M) (Q : Op → M → Prop) : W (eAnd [d] nv m) Q = W (d nv m) Q := rfl
theorem W_eor1 (d : DE) (nv : Nv) (m : M) (Q : Op → M → Prop) : W (eOr [d] nv m) Q = W (d nv m) Q := rfl
theorem W_eand (d e : DE) (r : List DE) (nv : Nv) (m : M) (Q : Op → M → Prop) : W (eAnd (d :: e :: r) nv m) Q = W (tE d nv m) (tfQ (fun m1 => W (eAnd (e :: r) nv m1) Q) fun m1 => Q (.v (.bl false)) m1) := by
  with_unfolding_all
    show W ((tE d nv m).bind _) Q = _
    rw [W_bind]
    refine W_c2 ?_
    funext b m1
    cases b <;> rfl
theorem W_eor (d e : DE) (r : List DE) (nv : Nv) (m : M) (Q : Op → M → Prop) : W (eOr (d :: e :: r) nv m) Q = W (tE d nv m) (tfQ (fun m1 => Q (.v (.bl true)) m1) fun m1 => W (eOr (e :: r) nv m1) Q) := by
  with_unfolding_all
    show W ((tE d nv m).bind _) Q = _
    rw [W_bind]
    refine W_c2 ?_
    funext b m1
    cases b <;> rfl
theorem W_eIf (t : DT) (a b : DE) (nv : Nv) (m : M) (Q : Op → M → Prop) : W (eIf t a b nv m) Q = W (t nv m) (tfQ (fun m1 => W (a nv m1) Q) fun m1 => W (b nv m1) Q) := by
  with_unfolding_all
    show W ((t nv m).bind _) Q = _
    rw [W_bind]
    refine W_c2 ?_
    funext b m1
    cases b <;> rfl
theorem W_tIf (t : DT) (a b : DT) (nv : Nv) (m : M) (Q : Bool → M → Prop) : W (tIf t a b nv m) Q = W (t nv m) (tfQ (fun m1 => W (a nv m1) Q) fun m1 => W (b nv m1) Q) := by
  with_unfolding_all
    show W ((t nv m).bind _) Q = _
    rw [W_bind]
    refine W_c2 ?_
    funext b m1
    cases b <;> rfl
@[irreducible] def inQ (o : Op) (m : M) (Q : Option Int → M → Prop) [Un (m, Q)] : Prop := match o with
  | .v (.int i) => Q (some i) m
  | _ => False
theorem inQ_i (i : Int) (m : M) (Q : Option Int → M → Prop) : inQ (.v (.int i)) m Q = Q (some i) m := by with_unfolding_all exact rfl
theorem W_optN (nv : Nv) (m : M) (Q : Option Int → M → Prop) : W (eOpt none nv m) Q = Q none m := by with_unfolding_all exact rfl
theorem W_optS (d : DE) (nv : Nv) (m : M) (Q : Option Int → M → Prop) : W (eOpt (some d) nv m) Q = W (d nv m) fun o m1 => inQ o m1 Q := by
  with_unfolding_all
    show W ((d nv m).bind _) Q = _
    rw [W_bind]
    refine W_c2 ?_
    funext o m1
    cases o with
    | v d => cases d <;> rfl
    | nl _ => rfl
    | nd _ => rfl
    | sl _ => rfl
theorem W_slice (f : Vw → Option Int → Option Int → Option Op) (a : DE) (lo hi : Option DE) (nv : Nv) (m : M) (Q : Op → M → Prop) : W (eSlice f a lo hi nv m) Q = W (a nv m) fun o m1 => W (eOpt lo nv m1) fun i m2 => W (eOpt hi nv m2) fun j m3 => okQ ((vw o m3).bind fun x => f x i j) m3 Q := by
  show W ((a nv m).bind _) Q = _
  rw [W_bind]
  refine W_c2 ?_; funext o m1
  rw [W_bind]
  refine W_c2 ?_; funext i m2
  rw [W_bind]
  refine W_c2 ?_; funext _ _; rw [W_of]
theorem W_call (f : Nat) (as : List DE) (nv : Nv) (m : M) (Q : Op → M → Prop) : W (eCall f none as nv m) Q = W (eList as nv m) fun xs m1 => WC (nv.ct f xs m1.S) fun o S => Q o ⟨m1.r, S⟩ := by
  show W ((eList as nv m).bind _) Q = _
  rw [W_bind]
  refine W_c2 ?_; funext _ _; rw [W_to]
theorem W_callK (f : Nat) (p : List Nat) (as : List DE) (nv : Nv) (m : M) (Q : Op → M → Prop) : W (eCall f (some p) as nv m) Q = W (eList as nv m) fun xs m1 => WC (nv.ct f (p.map fun i => xs.getD i .non) m1.S) fun o S => Q o ⟨m1.r, S⟩ := by
  show W ((eList as nv m).bind _) Q = _
  rw [W_bind]
  refine W_c2 ?_; funext _ _; rw [W_to]
@[irreducible] def shQ (o : Op) (m : M) (Q : Op → M → Prop) [Un Q] : Prop := match o with
  | .nl xs => Q (.v (.loc m.S.length)) ⟨m.r, m.S ++ [.lst xs]⟩
  | .nd kvs => Q (.v (.loc m.S.length)) ⟨m.r, m.S ++ [.dct kvs]⟩
  | _ => False
theorem W_share (d : DE) (nv : Nv) (m : M) (Q : Op → M → Prop) : W (eShare d nv m) Q = W (d nv m) fun o m1 => shQ o m1 Q := by
  with_unfolding_all
    show W ((d nv m).bind _) Q = _
    rw [W_bind]
    refine W_c2 ?_; funext o m1
    cases o <;> rfl
/-! ### what is walked -/
@[irreducible] def rgQ (o : Op) (m : M) (Q : List D → M → Prop) [Un (m, Q)] : Prop := match o with
  | .v (.int j) => if rngOk j = true then Q (rngD 0 j.toNat) m else False
  | _ => False
theorem W_rng1 (a : DE) (nv : Nv) (m : M) (Q : List D → M → Prop) : W (iRng1 a nv m) Q = W (a nv m) fun o m1 => rgQ o m1 Q := by
  with_unfolding_all
    show W ((a nv m).bind _) Q = _
    rw [W_bind]
    refine W_c2 ?_; funext o m1
    cases o with
    | v d =>
      cases d <;> first | rfl | skip
      rename_i j
      show W (if rngOk j = true then _ else _) Q = if rngOk j = true then _ else _
      split <;> rfl
    | nl _ => rfl
    | nd _ => rfl
    | sl _ => rfl
@[irreducible] def rgQ2 (o p : Op) (m : M) (Q : List D → M → Prop) [Un (m, Q)] : Prop := match o, p with
  | .v (.int i), .v (.int j) => if (rngOk i && rngOk j) = true then Q (rngD i (j - i).toNat) m else False
  | _, _ => False
theorem W_rng2 (a b : DE) (nv : Nv) (m : M) (Q : List D → M → Prop) : W (iRng2 a b nv m) Q = W (a nv m) fun o m1 => W (b nv m1) fun p m2 => rgQ2 o p m2 Q := by
  with_unfolding_all
    show W ((a nv m).bind _) Q = _
    rw [W_bind]
    refine W_c2 ?_; funext o m1
    rw [W_bind]
    refine W_c2 ?_; funext p m2
    cases o with
    | v d =>
      cases p with
      | v e =>
        cases d <;> cases e <;> first | rfl | skip
        rename_i i j
        show W (if (rngOk i && rngOk j) = true then _ else _) Q = if (rngOk i && rngOk j) = true then _ else _
        split <;> rfl
      | nl _ => cases d <;> rfl
      | nd _ => cases d <;> rfl
      | sl _ => cases d <;> rfl
    | nl _ => rfl
    | nd _ => rfl
    | sl _ => rfl
theorem W_seqI (a : DE) (nv : Nv) (m : M) (Q : List D → M → Prop) : W (iSeq a nv m) Q = W (eF a nv m) fun x m1 => okQ (frozen x) m1 Q := by
  show W ((eF a nv m).bind _) Q = _
  rw [W_bind]
  refine W_c2 ?_; funext _ _; rw [W_of]
theorem W_enumI (a : DE) (nv : Nv) (m : M) (Q : List D → M → Prop) : W (iEnum a nv m) Q = W (eF a nv m) fun x m1 => okQ ((frozen x).map (enumD 0)) m1 Q := by
  show W ((eF a nv m).bind _) Q = _
  rw [W_bind]
  refine W_c2 ?_; funext _ _; rw [W_of]
theorem W_zipI (a b : DE) (nv : Nv) (m : M) (Q : List D → M → Prop) : W (iZip a b nv m) Q = W (eF a nv m) fun x m1 => W (eF b nv m1) fun y m2 => okQ (zipO x y) m2 Q := by
  show W ((eF a nv m).bind _) Q = _
  rw [W_bind]
  refine W_c2 ?_; funext o m1
  rw [W_bind]
  refine W_c2 ?_; funext _ _; rw [W_of]
theorem W_lstI (i : DI) (nv : Nv) (m : M) (Q : Op → M → Prop) : W (eLstI i nv m) Q = W (i nv m) fun xs m1 => if xs.length ≤ sizeLine then Q (.nl xs) m1 else False := by
  with_unfolding_all
    show W ((i nv m).bind _) Q = _
    rw [W_bind]
    refine W_c2 ?_; funext xs m1
    split <;> rfl
/-! ### loops -/
theorem W_for (p : Pat) (it : DI) (b : DS) (nv : Nv) (m : M) (Q : Fl → M → Prop) : W (sFor p it b nv m) Q = W (it nv m) fun xs m1 => W (forL p b nv xs m1) Q := W_bind _ _ _
@[irreducible] def turnQ (I : M → Prop) (Q : Fl → M → Prop) [Un (I, Q)] (f : Fl) (m : M) : Prop := match f with
  | .nx => I m
  | .ct => I m
  | .bk => Q .nx m
  | .rt o => Q (.rt o) m
theorem turnQ_nx (I : M → Prop) (Q : Fl → M → Prop) (m : M) : turnQ I Q .nx m = I m := by with_unfolding_all exact rfl
theorem turnQ_ct (I : M → Prop) (Q : Fl → M → Prop) (m : M) : turnQ I Q .ct m = I m := by with_unfolding_all exact rfl
theorem turnQ_bk (I : M → Prop) (Q : Fl → M → Prop) (m : M) : turnQ I Q .bk m = Q .nx m := by with_unfolding_all exact rfl
theorem turnQ_rt (I : M → Prop) (Q : Fl → M → Prop) (o : Op) (m : M) : turnQ I Q (.rt o) m = Q (.rt o) m := by with_unfolding_all exact rfl
theorem W_forL_nil (p : Pat) (b : DS) (nv : Nv) (m : M) (Q : Fl → M → Prop) : W (forL p b nv [] m) Q = Q .nx m := by with_unfolding_all exact rfl
theorem W_forL_cons (p : Pat) (b : DS) (nv : Nv) (x : D) (xs : List D) (m : M) (Q : Fl → M → Prop) : W (forL p b nv (x :: xs) m) Q = stQ (p.set x m) fun _ m1 => W (b nv m1) (turnQ (fun m2 => W (forL p b nv xs m2) Q) Q) := by
  with_unfolding_all
    show W (match p.set x m with | none => _ | some m1 => _) Q = _
    cases p.set x m with
    | none => rfl
    | some m1 =>
      show W ((b nv m1).bind _) Q = W (b nv m1) _
      rw [W_bind]
      refine W_c2 ?_; funext f m2
      cases f <;> rfl
/-- by an invariant over the items that are done -/
theorem W_forL {p : Pat} {b : DS} {nv : Nv} {xs : List D} {m : M} {Q : Fl → M → Prop} (I : Nat → M → Prop) (h0 : I 0 m) (step : ∀ i x m, xs[i]? = some x → I i m → stQ (p.set x m) fun _ m1 => W (b nv m1) (turnQ (I (i + 1)) Q)) (done : ∀ m, I xs.length m → Q .nx m) : W (forL p b nv xs m) Q := by
  with_unfolding_all
    have key : ∀ (ys : List D) (i : Nat) (m : M), (∀ j, ys[j]? = xs[i + j]?) → i + ys.length = xs.length → I i m → W (forL p b nv ys m) Q := by
      intro ys
      induction ys with
      | nil =>
        intro i m e hl hi
        rw [W_forL_nil]
        rw [List.length_nil, Nat.add_zero] at hl
        subst hl
        exact done m hi
      | cons y ys ih =>
        intro i m e hl hi
        have q := e 0
        rw [Nat.add_zero] at q
        rw [W_forL_cons]
        have s := step i y m q.symm hi
        rw [List.length_cons] at hl
        revert s
        cases p.set y m with
        | none => exact fun s => s
        | some m1 =>
          intro s
          have nxt : ∀ m2, I (i + 1) m2 → W (forL p b nv ys m2) Q := fun m2 h => ih (i + 1) m2 (fun j => by
            have z := e (j + 1)
            rw [List.getElem?_cons_succ] at z
            rw [z]
            congr 1
            omega) (by omega) h
          have s' : W (b nv m1) (turnQ (I (i + 1)) Q) := s
          show W (b nv m1) (turnQ (fun m2 => W (forL p b nv ys m2) Q) Q)
          refine W.mono s' fun f m2 h => ?_
          cases f with
          | nx => exact nxt m2 h
          | ct => exact nxt m2 h
          | bk => exact h
          | rt o => exact h
    exact key xs 0 m (fun j => by rw [Nat.zero_add]) (by omega) h0
end Kd

namespace Kd
open PySem
/-- behind a comprehension -/
@[irreducible] def compQ (own : List Nat) (m1 : M) (Q : Op → M → Prop) (ys : List D) (m2 : M) : Prop := Q (.nl ys) ⟨backS m1.r m2.r own, m2.S⟩
theorem compQ_eq (own : List Nat) (m1 : M) (Q : Op → M → Prop) (ys : List D) (m2 : M) : compQ own m1 Q ys m2 = Q (.nl ys) ⟨backS m1.r m2.r own, m2.S⟩ := by with_unfolding_all exact rfl
theorem W_comp (it : DI) (p : Pat) (c : DT) (e : DE) (own : List Nat) (nv : Nv) (m : M) (Q : Op → M → Prop) : W (eComp it p c e own nv m) Q = W (it nv m) fun xs m1 => W (compL own p c (eF e) nv xs m1 []) (compQ own m1 Q) := by
  with_unfolding_all
    show W ((it nv m).bind _) Q = _
    rw [W_bind]
    refine W_c2 ?_; funext xs m1
    exact W_bind _ _ _
theorem W_compL_nil (own : List Nat) (p : Pat) (c : DT) (e : Nv → M → R D) (nv : Nv) (m : M) (acc : List D) (Q : List D → M → Prop) : W (compL own p c e nv [] m acc) Q = Q acc m := by with_unfolding_all exact rfl
theorem W_compL_cons (own : List Nat) (p : Pat) (c : DT) (e : Nv → M → R D) (nv : Nv) (x : D) (xs : List D) (m : M) (acc : List D) (Q : List D → M → Prop) : W (compL own p c e nv (x :: xs) m acc) Q =
    okQ (p.set x (wipeM own m)) m fun m1 _ => W (c nv m1) (tfQ (fun m2 => W (e nv m2) fun y m3 => acc.length < sizeLine ∧ W (compL own p c e nv xs m3 (acc ++ [y])) Q) fun m2 => W (compL own p c e nv xs m2 acc) Q) := by
  with_unfolding_all
    show W (match p.set x (wipeM own m) with | none => _ | some m1 => _) Q = _
    cases p.set x (wipeM own m) with
    | none => rfl
    | some m1 =>
      show W ((c nv m1).bind _) Q = W (c nv m1) _
      rw [W_bind]
      refine W_c2 ?_; funext b m2
      cases b with
      | false => rfl
      | true =>
        show W ((e nv m2).bind _) Q = W (e nv m2) _
        rw [W_bind]
        refine W_c2 ?_; funext y m3
        by_cases h : acc.length < sizeLine
        · rw [if_pos h]; simp only [h, true_and]
        · rw [if_neg h, W_no]; exact propext ⟨fun z => z.elim, fun z => h z.1⟩
theorem W_compL {own : List Nat} {p : Pat} {c : DT} {e : Nv → M → R D} {nv : Nv} {xs : List D} {m : M} {Q : List D → M → Prop} (I : Nat → M → List D → Prop) (h0 : I 0 m [])
    (step : ∀ i x m acc, xs[i]? = some x → I i m acc → okQ (p.set x (wipeM own m)) m fun m1 _ => W (c nv m1) (tfQ (fun m2 => W (e nv m2) fun y m3 => acc.length < sizeLine ∧ I (i + 1) m3 (acc ++ [y])) fun m2 => I (i + 1) m2 acc))
    (done : ∀ m acc, I xs.length m acc → Q acc m) : W (compL own p c e nv xs m []) Q := by
  with_unfolding_all
    have key : ∀ (ys : List D) (i : Nat) (m : M) (acc : List D), (∀ j, ys[j]? = xs[i + j]?) → i + ys.length = xs.length → I i m acc → W (compL own p c e nv ys m acc) Q := by
      intro ys
      induction ys with
      | nil =>
        intro i m acc _ hl hi
        rw [W_compL_nil]
        rw [List.length_nil, Nat.add_zero] at hl
        subst hl
        exact done m acc hi
      | cons y ys ih =>
        intro i m acc ea hl hi
        have q := ea 0
        rw [Nat.add_zero] at q
        rw [W_compL_cons]
        have s := step i y m acc q.symm hi
        rw [List.length_cons] at hl
        have nxt : ∀ m2 acc, I (i + 1) m2 acc → W (compL own p c e nv ys m2 acc) Q := fun m2 acc h => ih (i + 1) m2 acc (fun j => by
          have z := ea (j + 1)
          rw [List.getElem?_cons_succ] at z
          rw [z]
          congr 1
          omega) (by omega) h
        revert s
        cases p.set y (wipeM own m) with
        | none => exact fun s => s
        | some m1 =>
          intro s
          have s' : W (c nv m1) (tfQ (fun m2 => W (e nv m2) fun y m3 => acc.length < sizeLine ∧ I (i + 1) m3 (acc ++ [y])) fun m2 => I (i + 1) m2 acc) := s
          show W (c nv m1) _
          refine W.mono s' fun b m2 h => ?_
          cases b with
          | false => exact nxt m2 acc h
          | true =>
            have h' : W (e nv m2) fun y m3 => acc.length < sizeLine ∧ I (i + 1) m3 (acc ++ [y]) := h
            exact W.mono h' fun z m3 ⟨k1, k2⟩ => ⟨k1, nxt m3 _ k2⟩
    exact key xs 0 m [] (fun j => by rw [Nat.zero_add]) (by omega) h0
theorem backS_wipe (r0 r : List Sl) : ∀ own : List Nat, backS r0 (wipeS r own) own = backS r0 r own := by
  have key : ∀ (own all : List Nat) (r : List Sl), (∀ i ∈ own, i ∈ all) → backS r0 (wipeS r own) all = backS r0 r all := by
    have one : ∀ (all : List Nat) (i : Nat) (r : List Sl) (s : Sl), i ∈ all → backS r0 (r.set i s) all = backS r0 r all := by
      intro all
      induction all with
      | nil => intro i r s h; cases h
      | cons j all ih =>
        intro i r s h
        unfold backS
        by_cases hi : i ∈ all
        · rw [ih i r s hi]
        · have e : i = j := by
            rcases List.mem_cons.mp h with z | z
            · exact z
            · exact absurd z hi
          subst e
          have com : ∀ (l : List Nat) (r : List Sl), (backS r0 (r.set i s) l).set i (keptS r0[i]?) = (backS r0 r l).set i (keptS r0[i]?) := by
            intro l
            induction l with
            | nil => intro r; unfold backS; rw [List.set_set]
            | cons k l ih2 =>
              intro r
              unfold backS
              by_cases hk : k = i
              · subst hk; rw [List.set_set, List.set_set]; exact ih2 r
              · rw [List.set_comm _ _ hk, ih2 r, List.set_comm _ _ (Ne.symm hk)]
          exact com all r
    intro own
    induction own with
    | nil => intro all r _; rfl
    | cons i own ih =>
      intro all r h
      show backS r0 ((wipeS r own).set i .un) all = _
      rw [one all i _ _ (h i (List.mem_cons_self ..)), ih all r fun j hj => h j (List.mem_cons_of_mem _ hj)]
  exact fun own => key own own r fun _ h => h
theorem back_of {own : List Nat} {m m' : M} (h : wipeM own m' = wipeM own m) : (⟨backS m.r m'.r own, m'.S⟩ : M) = ⟨backS m.r m.r own, m.S⟩ := by
  have h1 : wipeS m'.r own = wipeS m.r own := congrArg M.r h
  have h2 : m'.S = m.S := (congrArg M.S h : (wipeM own m').S = (wipeM own m).S)
  rw [← backS_wipe m.r m'.r own, h1, backS_wipe, h2]
theorem wipeM_idem (own : List Nat) (m : M) : wipeM own (wipeM own m) = wipeM own m := by
  have key : ∀ (own : List Nat) (r : List Sl), wipeS (wipeS r own) own = wipeS r own := by
    have one : ∀ (all : List Nat) (i : Nat) (r : List Sl), i ∈ all → wipeS (r.set i .un) all = wipeS r all := by
      intro all
      induction all with
      | nil => intro i r h; cases h
      | cons j all ih =>
        intro i r h
        unfold wipeS
        by_cases hi : i ∈ all
        · rw [ih i r hi]
        · have e : i = j := by
            rcases List.mem_cons.mp h with z | z
            · exact z
            · exact absurd z hi
          subst e
          have com : ∀ (l : List Nat) (r : List Sl), (wipeS (r.set i .un) l).set i .un = (wipeS r l).set i .un := by
            intro l
            induction l with
            | nil => intro r; unfold wipeS; rw [List.set_set]
            | cons k l ih2 =>
              intro r
              unfold wipeS
              by_cases hk : k = i
              · subst hk; rw [List.set_set, List.set_set]; exact ih2 r
              · rw [List.set_comm _ _ hk, ih2 r, List.set_comm _ _ (Ne.symm hk)]
          exact com all r
    have all : ∀ (own al : List Nat) (r : List Sl), (∀ i ∈ own, i ∈ al) → wipeS (wipeS r own) al = wipeS r al := by
      intro own
      induction own with
      | nil => intro al r _; rfl
      | cons i own ih =>
        intro al r h
        show wipeS ((wipeS r own).set i .un) al = _
        rw [one al i _ (h i (List.mem_cons_self ..)), ih al r fun j hj => h j (List.mem_cons_of_mem _ hj)]
    exact fun own r => all own own r fun _ h => h
  unfold wipeM
  rw [key]
/-- a comprehension that changes nothing, over typed items -/
theorem W_compM {β γ : Type} {own : List Nat} {p : Pat} {c : DT} {e : DE} {nv : Nv} {m : M} {Q : Op → M → Prop} {ys : List β} {g : β → D} (enc : γ → D) (f : β → Option γ) (len : ys.length ≤ sizeLine)
    (step : ∀ b ∈ ys, okQ (p.set (g b) (wipeM own m)) m fun m1 _ => W (c nv m1) (tfQ (fun m2 => W (eF e nv m2) fun y m3 => (∃ z, f b = some z ∧ y = enc z) ∧ wipeM own m3 = wipeM own m) fun m2 => f b = none ∧ wipeM own m2 = wipeM own m))
    (q : Q (.nl ((ys.filterMap f).map enc)) ⟨backS m.r m.r own, m.S⟩) : W (compL own p c (eF e) nv (ys.map g) m []) (compQ own m Q) := by
  with_unfolding_all
    have key : ∀ (zs : List β) (m' : M) (acc : List D), (∀ b ∈ zs, b ∈ ys) → wipeM own m' = wipeM own m → acc.length + zs.length ≤ sizeLine → W (compL own p c (eF e) nv (zs.map g) m' acc) fun r m2 => r = acc ++ (zs.filterMap f).map enc ∧ wipeM own m2 = wipeM own m := by
      intro zs
      induction zs with
      | nil => intro m' acc _ hw _; exact ⟨by simp, hw⟩
      | cons b zs ih =>
        intro m' acc hm hw hl
        rw [List.map_cons, W_compL_cons, hw]
        rw [List.length_cons] at hl
        have s := step b (hm b (List.mem_cons_self ..))
        have hm' : ∀ b ∈ zs, b ∈ ys := fun b h => hm b (List.mem_cons_of_mem _ h)
        revert s
        cases p.set (g b) (wipeM own m) with
        | none => exact fun s => s
        | some m1 =>
          intro s
          have s' : W (c nv m1) _ := s
          show W (c nv m1) _
          refine W.mono s' fun k m2 h => ?_
          cases k with
          | false =>
            obtain ⟨h1, h2⟩ := (show f b = none ∧ wipeM own m2 = wipeM own m from h)
            show W _ _
            refine W.mono (ih m2 acc hm' h2 (by omega)) fun r m3 ⟨k1, k2⟩ => ⟨?_, k2⟩
            rw [k1, List.filterMap_cons, h1]
          | true =>
            have h' : W (eF e nv m2) _ := h
            show W (eF e nv m2) _
            refine W.mono h' fun y m3 ⟨⟨z, z1, z2⟩, h2⟩ => ⟨by omega, ?_⟩
            refine W.mono (ih m3 (acc ++ [y]) hm' h2 (by rw [List.length_append, List.length_singleton]; omega)) fun r m4 ⟨k1, k2⟩ => ⟨?_, k2⟩
            rw [k1, List.filterMap_cons, z1, z2, List.append_assoc]
            rfl
    refine W.mono (key ys m [] (fun _ h => h) rfl (by simpa using len)) fun r m2 ⟨h1, h2⟩ => ?_
    subst h1
    rw [compQ_eq, back_of h2]
    simpa using q
/-! ### while -/
theorem W_while {t : DT} {b : DS} {nv : Nv} {m : M} {Q : Fl → M → Prop} (I : Nat → M → Prop) (n0 : Nat) (h0 : I n0 m) (hn : n0 < nv.wf)
    (step : ∀ n m, n ≤ n0 → I n m → W (t nv m) (tfQ (fun m1 => W (b nv m1) (turnQ (fun m2 => ∃ n', n' < n ∧ I n' m2) Q)) fun m1 => Q .nx m1)) : W (sWhile t b nv m) Q := by
  with_unfolding_all
    show W (whileL t b nv nv.wf m) Q
    have key : ∀ (fu n : Nat) (m : M), n < fu → n ≤ n0 → I n m → W (whileL t b nv fu m) Q := by
      intro fu
      induction fu with
      | zero => intro n m h; omega
      | succ fu ih =>
        intro n m h hz hi
        show W ((t nv m).bind _) Q
        rw [W_bind]
        refine W.mono (step n m hz hi) fun c m1 h1 => ?_
        cases c with
        | false => exact h1
        | true =>
          show W ((b nv m1).bind _) Q
          rw [W_bind]
          refine W.mono (show W (b nv m1) _ from h1) fun f m2 h2 => ?_
          cases f with
          | nx => rw [turnQ_nx] at h2; obtain ⟨n', k1, k2⟩ := h2; exact ih n' m2 (by omega) (by omega) k2
          | ct => rw [turnQ_ct] at h2; obtain ⟨n', k1, k2⟩ := h2; exact ih n' m2 (by omega) (by omega) k2
          | bk => exact h2
          | rt o => exact h2
    exact key nv.wf n0 m hn (Nat.le_refl _) h0
/-! ### methods, stores -/
theorem W_mutL (f : List D → List D → Option (Op × List D)) (o : DE) (as : List DE) (nv : Nv) (m : M) (Q : Op → M → Prop) : W (eMutL f o as nv m) Q = W (o nv m) fun x m1 => isL (vw x m1) = true ∧ W (eList as nv m1) fun ys m2 => W (mutL x m2 (f ys)) Q := by
  show W ((o nv m).bind _) Q = _
  rw [W_bind]
  refine W_c2 ?_; funext x m1
  by_cases h : isL (vw x m1) = true
  · rw [if_pos h, W_bind]; simp only [h, true_and]
  · rw [if_neg h, W_no]; exact propext ⟨fun z => z.elim, fun z => h z.1⟩
theorem W_mut_sl (i : Nat) (m : M) (g : List D → Option (Op × List D)) (Q : Op → M → Prop) {xs : List D} (h : m.r[i]? = some (.ol xs)) : W (mutL (.sl i) m g) Q = okQ (g xs) m fun z _ => Q z.1 ⟨m.r.set i (.ol z.2), m.S⟩ := by
  with_unfolding_all
    unfold mutL
    simp only [h]
    cases g xs with
    | none => rfl
    | some z => rfl
theorem W_mut_loc (l : Nat) (m : M) (g : List D → Option (Op × List D)) (Q : Op → M → Prop) {xs : List D} (h : m.S[l]? = some (.lst xs)) : W (mutL (.v (.loc l)) m g) Q = okQ (g xs) m fun z _ => Q z.1 ⟨m.r, m.S.set l (.lst z.2)⟩ := by
  with_unfolding_all
    unfold mutL
    simp only [h]
    cases g xs with
    | none => rfl
    | some z => rfl
theorem W_mutD_sl (i : Nat) (m : M) (g : Kvs → Option (Op × Kvs)) (Q : Op → M → Prop) {xs : Kvs} (h : m.r[i]? = some (.od xs)) : W (mutD (.sl i) m g) Q = okQ (g xs) m fun z _ => Q z.1 ⟨m.r.set i (.od z.2), m.S⟩ := by
  with_unfolding_all
    unfold mutD
    simp only [h]
    cases g xs with
    | none => rfl
    | some z => rfl
theorem W_mutD_loc (l : Nat) (m : M) (g : Kvs → Option (Op × Kvs)) (Q : Op → M → Prop) {xs : Kvs} (h : m.S[l]? = some (.dct xs)) : W (mutD (.v (.loc l)) m g) Q = okQ (g xs) m fun z _ => Q z.1 ⟨m.r, m.S.set l (.dct z.2)⟩ := by
  with_unfolding_all
    unfold mutD
    simp only [h]
    cases g xs with
    | none => rfl
    | some z => rfl
theorem W_meth (g : Option Vw → Bool) (f : Vw → List D → Option Op) (o : DE) (as : List DE) (nv : Nv) (m : M) (Q : Op → M → Prop) : W (eMeth g f o as nv m) Q = W (o nv m) fun x m1 => g (vw x m1) = true ∧ W (eList as nv m1) fun ys m2 => okQ ((vw x m2).bind fun v => f v ys) m2 Q := by
  show W ((o nv m).bind _) Q = _
  rw [W_bind]
  refine W_c2 ?_; funext x m1
  by_cases h : g (vw x m1) = true
  · rw [if_pos h, W_bind]; simp only [h, true_and]; refine W_c2 ?_; funext _ _; rw [W_of]
  · rw [if_neg h, W_no]; exact propext ⟨fun z => z.elim, fun z => h z.1⟩
@[irreducible] def setQ (x : Op) (j v : D) (m : M) (Q : Fl → M → Prop) [Un (v, Q)] : Prop := match vw x m with
  | some (.l _) => W (mutL x m (setL j v)) fun _ m4 => Q .nx m4
  | some (.k _) => W (mutD x m (setK j v)) fun _ m4 => Q .nx m4
  | _ => False
theorem setQ_l (x : Op) (j v : D) (m : M) (Q : Fl → M → Prop) {xs : List D} (h : vw x m = some (.l xs)) : setQ x j v m Q = W (mutL x m (setL j v)) fun _ m4 => Q .nx m4 := by unfold setQ; simp only [h]
theorem setQ_k (x : Op) (j v : D) (m : M) (Q : Fl → M → Prop) {xs : Kvs} (h : vw x m = some (.k xs)) : setQ x j v m Q = W (mutD x m (setK j v)) fun _ m4 => Q .nx m4 := by unfold setQ; simp only [h]
theorem W_set (o k e : DE) (nv : Nv) (m : M) (Q : Fl → M → Prop) : W (sSet o k e nv m) Q = W (eF e nv m) fun v m1 => W (o nv m1) fun x m2 => W (eF k nv m2) fun j m3 => setQ x j v m3 Q := by
  with_unfolding_all
    show W ((eF e nv m).bind _) Q = _
    rw [W_bind]
    refine W_c2 ?_; funext v m1
    rw [W_bind]
    refine W_c2 ?_; funext x m2
    rw [W_bind]
    refine W_c2 ?_; funext j m3
    unfold setQ
    cases vw x m3 with
    | none => rfl
    | some w =>
      cases w with
      | d _ => rfl
      | l _ => exact W_bind _ _ _
      | k _ => exact W_bind _ _ _
/-! ### dicts -/
theorem W_kvs_nil (nv : Nv) (m : M) (Q : Kvs → M → Prop) : W (eKvs [] nv m) Q = Q [] m := by with_unfolding_all exact rfl
theorem W_kvs_cons (k v : DE) (r : List (DE × DE)) (nv : Nv) (m : M) (Q : Kvs → M → Prop) : W (eKvs ((k, v) :: r) nv m) Q = W (eF k nv m) fun x m1 => W (eF v nv m1) fun y m2 => W (eKvs r nv m2) fun kvs m3 => okQ x.kk m3 fun j m3 => Q ((j, y) :: kvs) m3 := by
  with_unfolding_all
    show W ((eF k nv m).bind _) Q = _
    rw [W_bind]
    refine W_c2 ?_; funext x m1
    rw [W_bind]
    refine W_c2 ?_; funext y m2
    rw [W_bind]
    refine W_c2 ?_; funext kvs m3
    cases x.kk <;> rfl
theorem W_dct (kvs : List (DE × DE)) (nv : Nv) (m : M) (Q : Op → M → Prop) : W (eDct kvs nv m) Q = W (eKvs kvs nv m) fun ps m1 => if ps.length ≤ 15 ∧ ps.all (fun kv => kv.1.flat1) = true then Q (.nd (mergeD [] ps)) m1 else False := by
  with_unfolding_all
    show W ((eKvs kvs nv m).bind _) Q = _
    rw [W_bind]
    refine W_c2 ?_; funext ps m1
    split <;> rfl
def dzO (x y : D) : Option Op := match x, y with
  | .lst xs, .lst ys => match zipK xs ys with
    | some kvs => if (kvs.all (fun kv => kv.1.flat1) || kvs.all (fun kv => kv.1.flatT)) = true then some (.nd (mergeD [] kvs)) else none
    | none => none
  | _, _ => none
theorem W_dctZ (a b : DE) (nv : Nv) (m : M) (Q : Op → M → Prop) : W (eDctZ a b nv m) Q = W (eF a nv m) fun x m1 => W (eF b nv m1) fun y m2 => okQ (dzO x y) m2 Q := by
  show W ((eF a nv m).bind _) Q = _
  rw [W_bind]
  refine W_c2 ?_; funext x m1
  rw [W_bind]
  refine W_c2 ?_; funext y m2
  rw [W_of]
  rfl
end Kd

namespace Kd
open PySem
/-! ### slots -/
@[irreducible] def vaQ (i : Nat) (s : Option Sl) (m : M) (Q : Op → M → Prop) [Un (i, m, Q)] : Prop := match s with
  | some (.val d) => Q (.v d) m
  | some (.ol _) => Q (.sl i) m
  | some (.od _) => Q (.sl i) m
  | _ => False
theorem vaQ_val (i : Nat) (d : D) (m : M) (Q : Op → M → Prop) : vaQ i (some (.val d)) m Q = Q (.v d) m := by with_unfolding_all exact rfl
theorem vaQ_ol (i : Nat) (d : List D) (m : M) (Q : Op → M → Prop) : vaQ i (some (.ol d)) m Q = Q (.sl i) m := by with_unfolding_all exact rfl
theorem vaQ_od (i : Nat) (d : Kvs) (m : M) (Q : Op → M → Prop) : vaQ i (some (.od d)) m Q = Q (.sl i) m := by with_unfolding_all exact rfl
theorem W_eVar (i : Nat) (nv : Nv) (m : M) (Q : Op → M → Prop) : W (eVar i nv m) Q = vaQ i m.r[i]? m Q := by
  with_unfolding_all
    unfold eVar
    cases m.r[i]? with
    | none => rfl
    | some s => cases s <;> rfl
@[irreducible] def fzQ (i : Nat) (s : Option Sl) (m : M) (Q : D → M → Prop) [Un (i, m, Q)] : Prop := match s with
  | some (.val d) => Q d m
  | some (.ol xs) => Q (.lst xs) ⟨m.r.set i (.val (.lst xs)), m.S⟩
  | some (.od kvs) => Q (.dct kvs) ⟨m.r.set i (.val (.dct kvs)), m.S⟩
  | _ => False
theorem fzQ_val (i : Nat) (d : D) (m : M) (Q : D → M → Prop) : fzQ i (some (.val d)) m Q = Q d m := by with_unfolding_all exact rfl
theorem fzQ_ol (i : Nat) (d : List D) (m : M) (Q : D → M → Prop) : fzQ i (some (.ol d)) m Q = Q (.lst d) ⟨m.r.set i (.val (.lst d)), m.S⟩ := by with_unfolding_all exact rfl
theorem fzQ_od (i : Nat) (d : Kvs) (m : M) (Q : D → M → Prop) : fzQ i (some (.od d)) m Q = Q (.dct d) ⟨m.r.set i (.val (.dct d)), m.S⟩ := by with_unfolding_all exact rfl
theorem W_fz (i : Nat) (m : M) (Q : D → M → Prop) : W (fz (.sl i) m) Q = fzQ i m.r[i]? m Q := by
  with_unfolding_all
    unfold fz
    simp only
    cases m.r[i]? with
    | none => rfl
    | some s => cases s <;> rfl
@[irreducible] def rtS (s : Option Sl) (m : M) (Q : Fl → M → Prop) : Prop := match s with
  | some (.val d) => Q (.rt (.v d)) m
  | some (.ol xs) => Q (.rt (.nl xs)) m
  | some (.od kvs) => Q (.rt (.nd kvs)) m
  | _ => False
theorem rtS_ol (d : List D) (m : M) (Q : Fl → M → Prop) : rtS (some (.ol d)) m Q = Q (.rt (.nl d)) m := by with_unfolding_all exact rfl
theorem rtS_od (d : Kvs) (m : M) (Q : Fl → M → Prop) : rtS (some (.od d)) m Q = Q (.rt (.nd d)) m := by with_unfolding_all exact rfl
theorem rtQ_slot (i : Nat) (m : M) (Q : Fl → M → Prop) : rtQ (.sl i) m Q = rtS m.r[i]? m Q := by
  with_unfolding_all
    unfold rtQ
    simp only
    cases m.r[i]? with
    | none => rfl
    | some s => cases s <;> rfl
def vwS (s : Option Sl) (S : List Ob) : Option Vw := match s with
  | some (.ol xs) => some (.l xs)
  | some (.od kvs) => some (.k kvs)
  | some (.val d) => vwD S d
  | _ => none
theorem vwS_ol (d : List D) (S : List Ob) : vwS (some (.ol d)) S = some (.l d) := rfl
theorem vwS_od (d : Kvs) (S : List Ob) : vwS (some (.od d)) S = some (.k d) := rfl
theorem vw_sl (i : Nat) (m : M) : vw (.sl i) m = vwS m.r[i]? m.S := by
  unfold vw
  simp only
  cases m.r[i]? with
  | none => rfl
  | some s => cases s <;> rfl
theorem vw_v (d : D) (m : M) : vw (.v d) m = vwD m.S d := rfl
theorem vw_nl (d : List D) (m : M) : vw (.nl d) m = some (.l d) := rfl
theorem vw_nd (d : Kvs) (m : M) : vw (.nd d) m = some (.k d) := rfl
theorem vwD_int (S : List Ob) (i : Int) : vwD S (.int i) = some (.d (.int i)) := rfl
theorem vwD_str (S : List Ob) (i : Str) : vwD S (.str i) = some (.d (.str i)) := rfl
theorem vwD_bl (S : List Ob) (i : Bool) : vwD S (.bl i) = some (.d (.bl i)) := rfl
theorem vwD_non (S : List Ob) : vwD S .non = some (.d .non) := rfl
theorem vwD_tup (S : List Ob) (i : List D) : vwD S (.tup i) = some (.d (.tup i)) := rfl
theorem vwD_lst (S : List Ob) (i : List D) : vwD S (.lst i) = some (.l i) := rfl
theorem vwD_dct (S : List Ob) (i : Kvs) : vwD S (.dct i) = some (.k i) := rfl
def vwO (o : Option Ob) (l : Nat) : Option Vw := match o with
  | some (.lst xs) => some (.l xs)
  | some (.dct kvs) => some (.k kvs)
  | some (.ins _ _) => some (.d (.loc l))
  | none => none
theorem vwD_loc (S : List Ob) (l : Nat) : vwD S (.loc l) = vwO S[l]? l := rfl
theorem vwO_lst (l : Nat) (xs : List D) : vwO (some (.lst xs)) l = some (.l xs) := rfl
theorem vwO_dct (l : Nat) (xs : Kvs) : vwO (some (.dct xs)) l = some (.k xs) := rfl
@[irreducible] def muQ (i : Nat) (s : Option Sl) (m : M) (g : List D → Option (Op × List D)) (Q : Op → M → Prop) [Un (i, m, g, Q)] : Prop := match s with
  | some (.ol xs) => okQ (g xs) m fun z _ => Q z.1 ⟨m.r.set i (.ol z.2), m.S⟩
  | _ => False
theorem muQ_ol (i : Nat) (xs : List D) (m : M) (g : List D → Option (Op × List D)) (Q : Op → M → Prop) : muQ i (some (.ol xs)) m g Q = okQ (g xs) m fun z _ => Q z.1 ⟨m.r.set i (.ol z.2), m.S⟩ := by with_unfolding_all exact rfl
theorem W_mut (i : Nat) (m : M) (g : List D → Option (Op × List D)) (Q : Op → M → Prop) : W (mutL (.sl i) m g) Q = muQ i m.r[i]? m g Q := by
  with_unfolding_all
    cases h : m.r[i]? with
    | none => unfold mutL; simp only [h]; rfl
    | some s =>
      cases s with
      | ol xs => exact W_mut_sl i m g Q h
      | val d => unfold mutL; simp only [h]; rfl
      | un => unfold mutL; simp only [h]; rfl
      | od kvs => unfold mutL; simp only [h]; rfl
@[irreducible] def muO (l : Nat) (s : Option Ob) (m : M) (g : List D → Option (Op × List D)) (Q : Op → M → Prop) [Un (l, m, g, Q)] : Prop := match s with
  | some (.lst xs) => okQ (g xs) m fun z _ => Q z.1 ⟨m.r, m.S.set l (.lst z.2)⟩
  | _ => False
theorem muO_lst (i : Nat) (xs : List D) (m : M) (g : List D → Option (Op × List D)) (Q : Op → M → Prop) : muO i (some (.lst xs)) m g Q = okQ (g xs) m fun z _ => Q z.1 ⟨m.r, m.S.set i (.lst z.2)⟩ := by with_unfolding_all exact rfl
theorem W_mutO (l : Nat) (m : M) (g : List D → Option (Op × List D)) (Q : Op → M → Prop) : W (mutL (.v (.loc l)) m g) Q = muO l m.S[l]? m g Q := by
  with_unfolding_all
    cases h : m.S[l]? with
    | none => unfold mutL; simp only [h]; rfl
    | some s =>
      cases s with
      | lst xs => exact W_mut_loc l m g Q h
      | dct _ => unfold mutL; simp only [h]; rfl
      | ins _ _ => unfold mutL; simp only [h]; rfl
@[irreducible] def mdQ (i : Nat) (s : Option Sl) (m : M) (g : Kvs → Option (Op × Kvs)) (Q : Op → M → Prop) [Un (i, m, g, Q)] : Prop := match s with
  | some (.od xs) => okQ (g xs) m fun z _ => Q z.1 ⟨m.r.set i (.od z.2), m.S⟩
  | _ => False
theorem mdQ_od (i : Nat) (xs : Kvs) (m : M) (g : Kvs → Option (Op × Kvs)) (Q : Op → M → Prop) : mdQ i (some (.od xs)) m g Q = okQ (g xs) m fun z _ => Q z.1 ⟨m.r.set i (.od z.2), m.S⟩ := by with_unfolding_all exact rfl
theorem W_mutD (i : Nat) (m : M) (g : Kvs → Option (Op × Kvs)) (Q : Op → M → Prop) : W (mutD (.sl i) m g) Q = mdQ i m.r[i]? m g Q := by
  with_unfolding_all
    cases h : m.r[i]? with
    | none => unfold mutD; simp only [h]; rfl
    | some s =>
      cases s with
      | od xs => exact W_mutD_sl i m g Q h
      | val d => unfold mutD; simp only [h]; rfl
      | un => unfold mutD; simp only [h]; rfl
      | ol kvs => unfold mutD; simp only [h]; rfl
@[irreducible] def mdO (l : Nat) (s : Option Ob) (m : M) (g : Kvs → Option (Op × Kvs)) (Q : Op → M → Prop) [Un (l, m, g, Q)] : Prop := match s with
  | some (.dct xs) => okQ (g xs) m fun z _ => Q z.1 ⟨m.r, m.S.set l (.dct z.2)⟩
  | _ => False
theorem mdO_dct (i : Nat) (xs : Kvs) (m : M) (g : Kvs → Option (Op × Kvs)) (Q : Op → M → Prop) : mdO i (some (.dct xs)) m g Q = okQ (g xs) m fun z _ => Q z.1 ⟨m.r, m.S.set i (.dct z.2)⟩ := by with_unfolding_all exact rfl
theorem W_mutDO (l : Nat) (m : M) (g : Kvs → Option (Op × Kvs)) (Q : Op → M → Prop) : W (mutD (.v (.loc l)) m g) Q = mdO l m.S[l]? m g Q := by
  with_unfolding_all
    cases h : m.S[l]? with
    | none => unfold mutD; simp only [h]; rfl
    | some s =>
      cases s with
      | dct xs => exact W_mutD_loc l m g Q h
      | lst _ => unfold mutD; simp only [h]; rfl
      | ins _ _ => unfold mutD; simp only [h]; rfl
@[irreducible] def setV (w : Option Vw) (x : Op) (j v : D) (m : M) (Q : Fl → M → Prop) [Un (x, j, v, m, Q)] : Prop := match w with
  | some (.l _) => W (mutL x m (setL j v)) fun _ m4 => Q .nx m4
  | some (.k _) => W (mutD x m (setK j v)) fun _ m4 => Q .nx m4
  | _ => False
theorem setV_l (xs : List D) (x : Op) (j v : D) (m : M) (Q : Fl → M → Prop) : setV (some (.l xs)) x j v m Q = W (mutL x m (setL j v)) fun _ m4 => Q .nx m4 := by with_unfolding_all exact rfl
theorem setV_k (xs : Kvs) (x : Op) (j v : D) (m : M) (Q : Fl → M → Prop) : setV (some (.k xs)) x j v m Q = W (mutD x m (setK j v)) fun _ m4 => Q .nx m4 := by with_unfolding_all exact rfl
theorem setQ_eq (x : Op) (j v : D) (m : M) (Q : Fl → M → Prop) : setQ x j v m Q = setV (vw x m) x j v m Q := by unfold setQ setV; rfl
/-! ### setSl -/
theorem setSl_v (i : Nat) (d : D) (r : List Sl) (S : List Ob) : setSl i (.v d) ⟨r, S⟩ = some ⟨r.set i (.val d), S⟩ := rfl
theorem setSl_nl (i : Nat) (d : List D) (r : List Sl) (S : List Ob) : setSl i (.nl d) ⟨r, S⟩ = some ⟨r.set i (.ol d), S⟩ := rfl
theorem setSl_nd (i : Nat) (d : Kvs) (r : List Sl) (S : List Ob) : setSl i (.nd d) ⟨r, S⟩ = some ⟨r.set i (.od d), S⟩ := rfl
def slS (i j : Nat) (s : Option Sl) (r : List Sl) (S : List Ob) : Option M := match s with
  | some (.val d) => some ⟨r.set i (.val d), S⟩
  | some (.ol xs) => some ⟨(r.set j (.val (.lst xs))).set i (.val (.lst xs)), S⟩
  | some (.od kvs) => some ⟨(r.set j (.val (.dct kvs))).set i (.val (.dct kvs)), S⟩
  | _ => none
theorem slS_ol (i j : Nat) (xs : List D) (r : List Sl) (S : List Ob) : slS i j (some (.ol xs)) r S = some ⟨(r.set j (.val (.lst xs))).set i (.val (.lst xs)), S⟩ := rfl
theorem slS_od (i j : Nat) (xs : Kvs) (r : List Sl) (S : List Ob) : slS i j (some (.od xs)) r S = some ⟨(r.set j (.val (.dct xs))).set i (.val (.dct xs)), S⟩ := rfl
theorem setSl_sl (i j : Nat) (r : List Sl) (S : List Ob) : setSl i (.sl j) ⟨r, S⟩ = if j = i then some ⟨r, S⟩ else slS i j r[j]? r S := by
  unfold setSl
  simp only
  cases r[j]? with
  | none => rfl
  | some s => cases s <;> rfl
/-! ### patterns -/
theorem pat_n (i : Nat) (d : D) (r : List Sl) (S : List Ob) : (Pat.n i).set d ⟨r, S⟩ = some ⟨r.set i (.val d), S⟩ := by simp only [Pat.set]
theorem pat_t (ps : List Pat) (xs : List D) (m : M) : (Pat.t ps).set (.tup xs) m = Pat.sets ps xs m := by simp only [Pat.set, vwD_tup]
theorem pat_tl (ps : List Pat) (xs : List D) (m : M) : (Pat.t ps).set (.lst xs) m = Pat.sets ps xs m := by simp only [Pat.set, vwD_lst]
theorem pats_nil (m : M) : Pat.sets [] [] m = some m := by simp only [Pat.sets]
theorem pats_cons (p : Pat) (ps : List Pat) (x : D) (xs : List D) (m : M) : Pat.sets (p :: ps) (x :: xs) m = (p.set x m).bind fun m1 => Pat.sets ps xs m1 := by
  simp only [Pat.sets]
  cases p.set x m <;> rfl
/-! ### operations on known shapes -/
theorem oAdd_i (i j : Int) : oAdd (.d (.int i)) (.d (.int j)) = some (.v (.int (i + j))) := rfl
theorem oSub_i (i j : Int) : oSub (.d (.int i)) (.d (.int j)) = some (.v (.int (i - j))) := rfl
theorem oMul_i {i j : Int} (h : (within64 i || within64 j) = true) : oMul (.d (.int i)) (.d (.int j)) = some (.v (.int (i * j))) := by
  show ((if (within64 i || within64 j) = true then some (i * j) else none : Option Int).map fun z => Op.v (.int z)) = _
  rw [if_pos h]; rfl
theorem oFdiv_i {i j : Int} (h : 0 < j) (h2 : j < 1073741824) : oFdiv (.d (.int i)) (.d (.int j)) = some (.v (.int (i / j))) := by
  show ((if (posB j && leB j 1073741823) = true then some (i / j) else none : Option Int).map fun z => Op.v (.int z)) = _
  rw [if_pos (by rw [posB_iff.mpr h, leB_iff.mpr (by omega)]; rfl)]; rfl
theorem oMod_i {i j : Int} (h : 0 < j) : oMod (.d (.int i)) (.d (.int j)) = some (.v (.int (i % j))) := by
  show ((if decide (0 < j) = true then some (i % j) else none : Option Int).map fun z => Op.v (.int z)) = _
  rw [if_pos (decide_eq_true h)]; rfl
theorem oPow_i {i j : Int} (h : powOk i j = true) : oPow (.d (.int i)) (.d (.int j)) = some (.v (.int (i ^ j.toNat))) := by
  show ((if powOk i j = true then some (i ^ j.toNat) else none : Option Int).map fun z => Op.v (.int z)) = _
  rw [if_pos h]; rfl
theorem oShl_i {i j : Int} (h : powOk i j = true) : oShl (.d (.int i)) (.d (.int j)) = some (.v (.int (i * 2 ^ j.toNat))) := by
  show ((if powOk i j = true then some (i * 2 ^ j.toNat) else none : Option Int).map fun z => Op.v (.int z)) = _
  rw [if_pos h]; rfl
theorem oNeg_i (i : Int) : oNeg (.d (.int i)) = some (.v (.int (-i))) := rfl
theorem oAdd_t {xs ys : List D} (h : xs.length + ys.length ≤ sizeLine) : oAdd (.d (.tup xs)) (.d (.tup ys)) = some (.v (.tup (xs ++ ys))) := by
  show (if xs.length + ys.length ≤ sizeLine then _ else _) = _
  rw [if_pos h]
theorem oAdd_l {xs ys : List D} (h : xs.length + ys.length ≤ sizeLine) : oAdd (.l xs) (.l ys) = some (.nl (xs ++ ys)) := by
  show (if xs.length + ys.length ≤ sizeLine then _ else _) = _
  rw [if_pos h]
theorem cLt_i (i j : Int) : cLt (.d (.int i)) (.d (.int j)) = some (decide (i < j)) := rfl
theorem cLe_i (i j : Int) : cLe (.d (.int i)) (.d (.int j)) = some (decide (i ≤ j)) := rfl
theorem cGt_i (i j : Int) : cGt (.d (.int i)) (.d (.int j)) = some (decide (j < i)) := rfl
theorem cGe_i (i j : Int) : cGe (.d (.int i)) (.d (.int j)) = some (decide (j ≤ i)) := rfl
theorem bLen_l (xs : List D) : bLen (.l xs) = some (.v (.int (xs.length : Nat))) := rfl
theorem bLen_t (xs : List D) : bLen (.d (.tup xs)) = some (.v (.int (xs.length : Nat))) := rfl
theorem bLen_k (xs : Kvs) : bLen (.k xs) = some (.v (.int (xs.length : Nat))) := rfl
theorem bTuple_l (xs : List D) : bTuple (.l xs) = some (.v (.tup xs)) := rfl
theorem bTuple_t (xs : List D) : bTuple (.d (.tup xs)) = some (.v (.tup xs)) := rfl
theorem bList_l (xs : List D) : bList (.l xs) = some (.nl xs) := rfl
theorem bList_t (xs : List D) : bList (.d (.tup xs)) = some (.nl xs) := rfl
theorem bInt_i (i : Int) : bInt (.d (.int i)) = some (.v (.int i)) := rfl
theorem atI_pos {α : Type} (xs : List α) {i : Int} (h : 0 ≤ i) : L2.atI xs i = xs[i.toNat]? := by
  unfold L2.atI L2.ixN
  rw [if_pos h]
  by_cases h1 : i < (xs.length : Int)
  · rw [if_pos h1]; rfl
  · rw [if_neg h1]
    exact (List.getElem?_eq_none (by omega)).symm
theorem atI_nat {α : Type} (xs : List α) (i : Nat) : L2.atI xs (i : Int) = xs[i]? := atI_pos xs (Int.natCast_nonneg i)
theorem atI_neg {α : Type} (xs : List α) {i : Int} (h : i < 0) (h2 : -(xs.length : Int) ≤ i) : L2.atI xs i = xs[(i + xs.length).toNat]? := by
  unfold L2.atI L2.ixN
  rw [if_neg (by omega), if_pos h2]; rfl
theorem oIx_l (xs : List D) (i : Int) : oIx (.l xs) (.d (.int i)) = (L2.atI xs i).map .v := rfl
theorem oIx_t (xs : List D) (i : Int) : oIx (.d (.tup xs)) (.d (.int i)) = (L2.atI xs i).map .v := rfl
def kvO (k : Option KK) (kvs : Kvs) : Option Op := match k with
  | some j => (valD kvs j).map .v
  | none => none
theorem oIx_k (kvs : Kvs) (k : Vw) : oIx (.k kvs) k = kvO k.D.kk kvs := by
  unfold oIx
  simp only
  cases k.D.kk <;> rfl
theorem kvO_some (j : KK) (kvs : Kvs) : kvO (some j) kvs = (valD kvs j).map .v := rfl
theorem kk_int (i : Int) : D.kk (.int i) = some (.i i) := by simp only [D.kk]
theorem kk_str (i : Str) : D.kk (.str i) = some (.s i) := by simp only [D.kk]
theorem isTy_int (t : Ty) (i : Int) : isTy t (.d (.int i)) = some (decide (t = .int)) := rfl
theorem isTy_tup (t : Ty) (i : List D) : isTy t (.d (.tup i)) = some (decide (t = .tuple)) := rfl
theorem isTy_bl (t : Ty) (i : Bool) : isTy t (.d (.bl i)) = some (decide (t = .bool) || decide (t = .int)) := rfl
theorem isTy_str (t : Ty) (i : Str) : isTy t (.d (.str i)) = some (decide (t = .str)) := rfl
theorem isTy_non (t : Ty) : isTy t (.d .non) = some false := rfl
theorem isTy_l (t : Ty) (i : List D) : isTy t (.l i) = some (decide (t = .list)) := rfl
theorem isTy_k (t : Ty) (i : Kvs) : isTy t (.k i) = some (decide (t = .dict)) := rfl
theorem vwDD (d : D) : (Vw.d d).D = d := rfl
theorem lAppend_one (y : D) (xs : List D) (h : xs.length < sizeLine) : lAppend [y] xs = some (.v .non, xs ++ [y]) := by
  show (if xs.length < sizeLine then _ else _) = _
  rw [if_pos h]
theorem frozen_t (xs : List D) : frozen (.tup xs) = some xs := rfl
theorem frozen_l (xs : List D) : frozen (.lst xs) = some xs := rfl
theorem bind_some' {α β : Type} (a : α) (f : α → Option β) : (some a).bind f = f a := rfl
theorem map_some' {α β : Type} (a : α) (f : α → β) : (some a).map f = some (f a) := rfl
theorem map_none' {α β : Type} (f : α → β) : (none : Option α).map f = none := rfl
theorem start1 (n : Nat) (a : D) (S : List Ob) : startM n [a] S = ⟨.val a :: List.replicate (n - 1) .un, S⟩ := rfl
theorem start2 (n : Nat) (a b : D) (S : List Ob) : startM n [a, b] S = ⟨.val a :: .val b :: List.replicate (n - 2) .un, S⟩ := rfl
theorem start3 (n : Nat) (a b c : D) (S : List Ob) : startM n [a, b, c] S = ⟨.val a :: .val b :: .val c :: List.replicate (n - 3) .un, S⟩ := rfl
theorem start4 (n : Nat) (a b c d : D) (S : List Ob) : startM n [a, b, c, d] S = ⟨.val a :: .val b :: .val c :: .val d :: List.replicate (n - 4) .un, S⟩ := rfl
theorem get0 {α : Type} (a : α) (l : List α) : (a :: l)[0]? = some a := rfl
theorem getS {α : Type} (a : α) (l : List α) (i : Nat) : (a :: l)[i + 1]? = l[i]? := rfl
theorem set0 {α : Type} (a b : α) (l : List α) : (a :: l).set 0 b = b :: l := rfl
theorem setS {α : Type} (a b : α) (l : List α) (i : Nat) : (a :: l).set (i + 1) b = a :: l.set i b := rfl
end Kd
namespace Kd
open PySem
theorem okQ_of {α : Type} {x : Option α} {z : α} {m : M} {Q : α → M → Prop} (h : x = some z) (q : Q z m) : okQ x m Q := by with_unfolding_all (rw [h]; exact q)
theorem valD_hit (k : KK) (v : D) (r : Kvs) : valD ((k, v) :: r) k = some v := by
  unfold valD
  rw [List.find?_cons_of_pos (by simp)]
  rfl
theorem valD_miss {k j : KK} (v : D) (r : Kvs) (h : k ≠ j) : valD ((k, v) :: r) j = valD r j := by
  unfold valD
  rw [List.find?_cons_of_neg (by simpa using h)]
theorem s_ne {a b : Str} (h : (a == b) = false) : KK.s a ≠ KK.s b := fun e => by
  cases e
  simp at h
end Kd
namespace Kd
open PySem
theorem sz0 : (0 ≤ sizeLine) = True := eq_true (by decide)
theorem sz1 : (1 ≤ sizeLine) = True := eq_true (by decide)
theorem sz2 : (2 ≤ sizeLine) = True := eq_true (by decide)
theorem sz3 : (3 ≤ sizeLine) = True := eq_true (by decide)
theorem sz4 : (4 ≤ sizeLine) = True := eq_true (by decide)
theorem sz5 : (5 ≤ sizeLine) = True := eq_true (by decide)
theorem sz6 : (6 ≤ sizeLine) = True := eq_true (by decide)
theorem sz7 : (7 ≤ sizeLine) = True := eq_true (by decide)
theorem sz8 : (8 ≤ sizeLine) = True := eq_true (by decide)
theorem sz9 : (9 ≤ sizeLine) = True := eq_true (by decide)
theorem sz10 : (10 ≤ sizeLine) = True := eq_true (by decide)
theorem isL_l (xs : List D) : isL (some (.l xs)) = true := rfl
theorem isK_k (xs : Kvs) : isK (some (.k xs)) = true := rfl
theorem shQ_nl (xs : List D) (m : M) (Q : Op → M → Prop) : shQ (.nl xs) m Q = Q (.v (.loc m.S.length)) ⟨m.r, m.S ++ [.lst xs]⟩ := by with_unfolding_all exact rfl
theorem shQ_nd (xs : Kvs) (m : M) (Q : Op → M → Prop) : shQ (.nd xs) m Q = Q (.v (.loc m.S.length)) ⟨m.r, m.S ++ [.dct xs]⟩ := by with_unfolding_all exact rfl
theorem vwLD (d : List D) : (Vw.l d).D = .lst d := rfl
theorem vwKD (d : Kvs) : (Vw.k d).D = .dct d := rfl
end Kd

namespace Kd
open PySem
/-- data that == can look at -/
def okd (d : D) : Bool := match d.py with
  | some y => y.canLay0 && decide (y.depth ≤ 50)
  | none => false
theorem okd_py {d : D} (h : okd d = true) : ∃ y, d.py = some y ∧ y.canLay0 = true ∧ y.depth ≤ 50 := by
  unfold okd at h
  split at h
  · rename_i y e
    rw [Bool.and_eq_true, decide_eq_true_eq] at h
    exact ⟨y, e, h.1, h.2⟩
  · cases h
theorem okd_all : ∀ {xs : List D}, (∀ x ∈ xs, okd x = true) → ∃ ys, D.pys xs = some ys ∧ PyData.canLayAll0 ys = true ∧ PyData.depthAll ys ≤ 50 ∧ ys.length = xs.length
  | [], _ => ⟨[], by simp only [D.pys], by simp only [PyData.canLayAll0], by simp only [PyData.depthAll]; omega, rfl⟩
  | x :: xs, h => by
    obtain ⟨y, h1, h2, h3⟩ := okd_py (h x (List.mem_cons_self ..))
    obtain ⟨ys, k1, k2, k3, k4⟩ := okd_all fun z hz => h z (List.mem_cons_of_mem _ hz)
    refine ⟨y :: ys, by simp only [D.pys, h1, k1], by simp only [PyData.canLayAll0, h2, k2]; rfl, ?_, by rw [List.length_cons, List.length_cons, k4]⟩
    simp only [PyData.depthAll]
    omega
theorem shaped_of {y : PyData} (h : y.canLay0 = true) (h2 : y.depth ≤ 64) : SeqAt.shaped y = true := by
  unfold SeqAt.shaped
  rw [h, decide_eq_true h2]; rfl
theorem shaped_l {ys : List PyData} (h : PyData.canLayAll0 ys = true) (h2 : PyData.depthAll ys ≤ 60) : SeqAt.shaped (.list ys) = true :=
  shaped_of (by simpa only [PyData.canLay0] using h) (by simp only [PyData.depth]; omega)
theorem shaped_t {ys : List PyData} (h : PyData.canLayAll0 ys = true) (h2 : PyData.depthAll ys ≤ 60) : SeqAt.shaped (.tuple ys) = true :=
  shaped_of (by simpa only [PyData.canLay0] using h) (by simp only [PyData.depth]; omega)
theorem py_lst {xs : List D} {ys : List PyData} (h : D.pys xs = some ys) : D.py (.lst xs) = some (.list ys) := by simp only [D.py, h]; rfl
theorem py_tup {xs : List D} {ys : List PyData} (h : D.pys xs = some ys) : D.py (.tup xs) = some (.tuple ys) := by simp only [D.py, h]; rfl
theorem py_int (i : Int) : D.py (.int i) = some (.int i) := by simp only [D.py]
theorem py_str (i : Str) : D.py (.str i) = some (.str i) := by simp only [D.py]
theorem py_bl (i : Bool) : D.py (.bl i) = some (.bool i) := by simp only [D.py]
theorem py_non : D.py .non = some .none := by simp only [D.py]
theorem okd_int (i : Int) : okd (.int i) = true := by
  unfold okd
  rw [py_int]
  simp [PyData.canLay0, PyData.depth]
theorem okd_bl (i : Bool) : okd (.bl i) = true := by
  unfold okd
  rw [py_bl]
  simp [PyData.canLay0, PyData.depth]
theorem okd_non : okd .non = true := by
  unfold okd
  rw [py_non]
  simp [PyData.canLay0, PyData.depth]
theorem pys_ints : ∀ xs : List Int, D.pys (xs.map .int) = some (xs.map .int)
  | [] => by simp only [D.pys, List.map_nil]
  | x :: xs => by simp only [D.pys, List.map_cons, py_int, pys_ints xs]
theorem lay_ints : ∀ xs : List Int, PyData.canLayAll0 (xs.map .int) = true
  | [] => by simp only [PyData.canLayAll0, List.map_nil]
  | x :: xs => by simp only [PyData.canLayAll0, List.map_cons, lay_ints xs, PyData.canLay0]; rfl
theorem okd_tI (xs : List Int) : okd (.tup (xs.map .int)) = true := by
  unfold okd
  rw [py_tup (pys_ints xs)]
  have h1 : PyData.canLay0 (.tuple (xs.map .int)) = true := by simpa only [PyData.canLay0] using lay_ints xs
  have h2 : PyData.depth (.tuple (xs.map .int)) ≤ 50 := by
    simp only [PyData.depth, PySem.W.depth_ints]
    omega
  simp only [h1, decide_eq_true h2]; rfl
theorem okd_lI (xs : List Int) : okd (.lst (xs.map .int)) = true := by
  unfold okd
  rw [py_lst (pys_ints xs)]
  have h1 : PyData.canLay0 (.list (xs.map .int)) = true := by simpa only [PyData.canLay0] using lay_ints xs
  have h2 : PyData.depth (.list (xs.map .int)) ≤ 50 := by
    simp only [PyData.depth, PySem.W.depth_ints]
    omega
  simp only [h1, decide_eq_true h2]; rfl
theorem eqvAll_nil : ∀ {xs : List PyData}, PyData.eqvAll xs [] = decide (xs = [])
  | [] => by simp [PyData.eqvAll]
  | _ :: _ => by simp [PyData.eqvAll]
theorem eqD_of {a b : D} {x y : PyData} (h1 : a.py = some x) (h2 : b.py = some y) (s1 : SeqAt.shaped x = true) (s2 : SeqAt.shaped y = true) : eqD a b = some (PyData.eqv x y) := by
  unfold eqD
  rw [h1, h2]
  simp only [s1, s2]; rfl
theorem eqD_nil {xs : List D} (h : ∀ x ∈ xs, okd x = true) : eqD (.lst xs) (.lst []) = some (decide (xs = [])) := by
  obtain ⟨ys, h1, h2, h3, h4⟩ := okd_all h
  rw [eqD_of (py_lst h1) (py_lst (xs := []) (ys := []) (by simp only [D.pys])) (shaped_l h2 (by omega)) (shaped_l (by simp only [PyData.canLayAll0]) (by simp only [PyData.depthAll]; omega))]
  simp only [PyData.eqv, eqvAll_nil]
  congr 1
  cases xs <;> cases ys <;> simp_all
theorem cNe_nil {xs : List D} (h : ∀ x ∈ xs, okd x = true) : cNe (.l xs) (.l []) = some (decide (xs ≠ [])) := by
  unfold cNe
  show (eqD (.lst xs) (.lst [])).map _ = _
  rw [eqD_nil h]
  simp
theorem cEq_nil {xs : List D} (h : ∀ x ∈ xs, okd x = true) : cEq (.l xs) (.l []) = some (decide (xs = [])) := eqD_nil h
theorem eqvAll_ints : ∀ xs ys : List Int, PyData.eqvAll (xs.map .int) (ys.map .int) = decide (xs = ys)
  | [], [] => by simp [PyData.eqvAll]
  | [], _ :: _ => by simp [PyData.eqvAll]
  | _ :: _, [] => by simp [PyData.eqvAll]
  | x :: xs, y :: ys => by
    simp only [List.map_cons, PyData.eqvAll, eqvAll_ints xs ys, PyData.eqv, List.cons.injEq]
    by_cases h : x = y
    · simp [h]
    · simp [h]
theorem eqD_int (i j : Int) : eqD (.int i) (.int j) = some (decide (i = j)) := by
  rw [eqD_of (py_int i) (py_int j) (shaped_of (by simp [PyData.canLay0]) (by simp [PyData.depth])) (shaped_of (by simp [PyData.canLay0]) (by simp [PyData.depth]))]
  simp only [PyData.eqv]
  by_cases h : i = j <;> simp [h]
theorem cEq_i (i j : Int) : cEq (.d (.int i)) (.d (.int j)) = some (decide (i = j)) := eqD_int i j
theorem cNe_i (i j : Int) : cNe (.d (.int i)) (.d (.int j)) = some (decide (i ≠ j)) := by
  unfold cNe
  show (eqD (.int i) (.int j)).map _ = _
  rw [eqD_int]
  simp
theorem eqD_bl (i j : Bool) : eqD (.bl i) (.bl j) = some (decide (i = j)) := by
  rw [eqD_of (py_bl i) (py_bl j) (shaped_of (by simp [PyData.canLay0]) (by simp [PyData.depth])) (shaped_of (by simp [PyData.canLay0]) (by simp [PyData.depth]))]
  simp only [PyData.eqv]
  cases i <;> cases j <;> rfl
theorem cNe_b (i j : Bool) : cNe (.d (.bl i)) (.d (.bl j)) = some (decide (i ≠ j)) := by
  unfold cNe
  show (eqD (.bl i) (.bl j)).map _ = _
  rw [eqD_bl]
  simp
theorem depth_ok (xs : List Int) : PyData.depthAll (xs.map .int) ≤ 60 := by rw [PySem.W.depth_ints]; omega
theorem eqD_tI (xs ys : List Int) : eqD (.tup (xs.map .int)) (.tup (ys.map .int)) = some (decide (xs = ys)) := by
  rw [eqD_of (py_tup (pys_ints xs)) (py_tup (pys_ints ys)) (shaped_t (lay_ints xs) (depth_ok xs)) (shaped_t (lay_ints ys) (depth_ok ys))]
  simp only [PyData.eqv, eqvAll_ints]
theorem cEq_tI (xs ys : List Int) : cEq (.d (.tup (xs.map .int))) (.d (.tup (ys.map .int))) = some (decide (xs = ys)) := eqD_tI xs ys
theorem cNe_tI (xs ys : List Int) : cNe (.d (.tup (xs.map .int))) (.d (.tup (ys.map .int))) = some (decide (xs ≠ ys)) := by
  unfold cNe
  show (eqD (.tup (xs.map .int)) (.tup (ys.map .int))).map _ = _
  rw [eqD_tI]
  simp
theorem cNe_tI0 (xs : List Int) : cNe (.d (.tup (xs.map .int))) (.d (.tup [])) = some (decide (xs ≠ [])) := cNe_tI xs []
theorem memD_ints (xs : List Int) (i : Int) : memD (xs.map .int) (.int i) = some (decide (i ∈ xs)) := by
  unfold memD
  rw [py_int, pys_ints]
  simp only [shaped_of (y := .int i) (by simp [PyData.canLay0]) (by simp [PyData.depth]), shaped_l (lay_ints xs) (depth_ok xs), Bool.and_self, if_true]
  congr 1
  induction xs with
  | nil => simp
  | cons x xs ih =>
    simp only [List.map_cons, List.any_cons, ih, PyData.eqv, List.mem_cons]
    by_cases h : i = x
    · subst h; simp
    · have h' : ¬ x = i := fun e => h e.symm
      simp [h, h']
theorem cIn_t (xs : List Int) (i : Int) : cIn (.d (.int i)) (.d (.tup (xs.map .int))) = some (decide (i ∈ xs)) := memD_ints xs i
theorem cIn_l (xs : List Int) (i : Int) : cIn (.d (.int i)) (.l (xs.map .int)) = some (decide (i ∈ xs)) := memD_ints xs i
theorem cNotIn_t (xs : List Int) (i : Int) : cNotIn (.d (.int i)) (.d (.tup (xs.map .int))) = some (decide (i ∉ xs)) := by
  unfold cNotIn
  rw [cIn_t]
  simp
theorem cNotIn_l (xs : List Int) (i : Int) : cNotIn (.d (.int i)) (.l (xs.map .int)) = some (decide (i ∉ xs)) := by
  unfold cNotIn
  rw [cIn_l]
  simp
end Kd
namespace Kd
open PySem
@[irreducible] def joinQ (R : M → Prop) (Q : Fl → M → Prop) (f : Fl) (m : M) : Prop := match f with
  | .nx => R m
  | .rt o => Q (.rt o) m
  | .bk => Q .bk m
  | .ct => Q .ct m
theorem joinQ_nx (R : M → Prop) (Q : Fl → M → Prop) (m : M) : joinQ R Q .nx m = R m := by with_unfolding_all exact rfl
theorem joinQ_rt (R : M → Prop) (Q : Fl → M → Prop) (o : Op) (m : M) : joinQ R Q (.rt o) m = Q (.rt o) m := by with_unfolding_all exact rfl
theorem joinQ_bk (R : M → Prop) (Q : Fl → M → Prop) (m : M) : joinQ R Q .bk m = Q .bk m := by with_unfolding_all exact rfl
theorem joinQ_ct (R : M → Prop) (Q : Fl → M → Prop) (m : M) : joinQ R Q .ct m = Q .ct m := by with_unfolding_all exact rfl
/-- the ways of a statement, joined -/
theorem W_step {a b : DS} {nv : Nv} {m : M} {Q : Fl → M → Prop} (R : M → Prop) (h : W (a nv m) (joinQ R Q)) (k : ∀ m1, R m1 → W (b nv m1) Q) : W (sSeq [a, b] nv m) Q := by
  with_unfolding_all
    rw [W_seq]
    refine W.mono h fun f m1 z => ?_
    cases f with
    | nx => exact k m1 z
    | rt o => exact z
    | bk => exact z
    | ct => exact z
theorem W_tf {A B : M → Prop} {c : Bool} {m : M} (h1 : c = true → A m) (h2 : c = false → B m) : tfQ A B c m := by
  with_unfolding_all
    cases c with
    | true => exact h1 rfl
    | false => exact h2 rfl
theorem W_if' {a b : M → R Fl} {Q : Fl → M → Prop} {c : Bool} {m : M} (h1 : c = true → W (a m) Q) (h2 : c = false → W (b m) Q) : ifQ a b Q c m := by
  with_unfolding_all
    cases c with
    | true => exact h1 rfl
    | false => exact h2 rfl
/-- the reel's dict -/
def reelD (cells : List Int) (st c : Int) : Kvs := [(.s "deep", .loc 0), (.s "cells", .lst (cells.map .int)), (.s "stamp", .int st), (.s "count", .int c)]
theorem reel_deep (cells : List Int) (st c : Int) : valD (reelD cells st c) (.s "deep") = some (.loc 0) := by rfl
theorem reel_cells (cells : List Int) (st c : Int) : valD (reelD cells st c) (.s "cells") = some (.lst (cells.map .int)) := by rfl
theorem reel_stamp (cells : List Int) (st c : Int) : valD (reelD cells st c) (.s "stamp") = some (.int st) := by rfl
theorem reel_count (cells : List Int) (st c : Int) : valD (reelD cells st c) (.s "count") = some (.int c) := by rfl
theorem reel_set (cells : List Int) (st c d : Int) : setK (.str "count") (.int d) (reelD cells st c) = some (.v .non, reelD cells st d) := by rfl
/-- what a law draws from -/
def RW (S : List Ob) : Prop := ∃ (deep cells : List Int) (st c : Int), S = [.lst (deep.map .int), .dct (reelD cells st c)] ∧ 0 < cells.length ∧ 0 ≤ st ∧ st < 4294967296 ∧ deep.length ≤ 100
theorem w64_lit {i : Int} (h : within64 i = true) (j : Int) : (within64 j || within64 i) = true := by rw [h, Bool.or_true]
theorem w64_lit' {i : Int} (h : within64 i = true) (j : Int) : (within64 i || within64 j) = true := by rw [h, Bool.true_or]
theorem w64_of {i : Int} (h : 0 ≤ i) (h2 : i < 18446744073709551616) : within64 i = true := by
  unfold within64
  rw [Bool.and_eq_true, geB_iff, leB_iff]
  omega
theorem atI_mod {xs : List D} {i : Int} (h : 0 < xs.length) : ∃ x, L2.atI xs (i % (xs.length : Nat)) = some x ∧ x ∈ xs := by
  have h0 : 0 ≤ i % ((xs.length : Nat) : Int) := Int.emod_nonneg _ (by omega)
  have h1 : i % ((xs.length : Nat) : Int) < (xs.length : Nat) := Int.emod_lt_of_pos _ (by omega)
  have h2 : (i % ((xs.length : Nat) : Int)).toNat < xs.length := by omega
  exact ⟨xs[(i % ((xs.length : Nat) : Int)).toNat], by rw [atI_pos _ h0, List.getElem?_eq_getElem h2], List.getElem_mem h2⟩
theorem oMul_r {i j : Int} (h : within64 j = true) : oMul (.d (.int i)) (.d (.int j)) = some (.v (.int (i * j))) := oMul_i (w64_lit h i)
theorem oMul_l {i j : Int} (h : within64 i = true) : oMul (.d (.int i)) (.d (.int j)) = some (.v (.int (i * j))) := oMul_i (w64_lit' h j)
theorem atI_of {xs : List D} {i : Int} (h : 0 ≤ i) (h2 : i < (xs.length : Nat)) : ∃ x, L2.atI xs i = some x ∧ x ∈ xs := by
  have h3 : i.toNat < xs.length := by omega
  exact ⟨xs[i.toNat], by rw [atI_pos _ h, List.getElem?_eq_getElem h3], List.getElem_mem h3⟩
theorem rngOk_of {i : Int} (h : -4611686018427387904 ≤ i) (h2 : i < 4611686018427387904) : rngOk i = true := by
  unfold rngOk
  rw [Bool.and_eq_true, geB_iff, leB_iff]
  omega
theorem rgQ_i {j : Int} (m : M) (Q : List D → M → Prop) (h : rngOk j = true) : rgQ (.v (.int j)) m Q = Q (rngD 0 j.toNat) m := by
  with_unfolding_all
    show (if rngOk j = true then _ else _) = _
    rw [if_pos h]
theorem rgQ2_i {i j : Int} (m : M) (Q : List D → M → Prop) (h : rngOk i = true) (h2 : rngOk j = true) : rgQ2 (.v (.int i)) (.v (.int j)) m Q = Q (rngD i (j - i).toNat) m := by
  with_unfolding_all
    show (if (rngOk i && rngOk j) = true then _ else _) = _
    rw [if_pos (by rw [h, h2]; rfl)]
theorem int_mem {x : D} {xs : List Int} (h : x ∈ xs.map D.int) : ∃ i, x = .int i ∧ i ∈ xs := by
  rw [List.mem_map] at h
  obtain ⟨i, h1, h2⟩ := h
  exact ⟨i, h2.symm, h1⟩
theorem okd_ints (xs : List Int) : ∀ x ∈ xs.map D.int, okd x = true := fun x h => by
  obtain ⟨i, rfl, _⟩ := int_mem h
  exact okd_int i
end Kd
namespace Kd
open PySem
theorem rngD_get {lo : Int} {n i : Nat} {x : D} (h : (rngD lo n)[i]? = some x) : x = .int (lo + (i : Nat)) ∧ i < n := by
  unfold rngD at h
  rw [List.getElem?_map, Option.map_eq_some_iff] at h
  obtain ⟨j, h1, h2⟩ := h
  rw [List.getElem?_eq_some_iff] at h1
  obtain ⟨h3, h4⟩ := h1
  rw [List.getElem_range] at h4
  rw [List.length_range] at h3
  subst h4
  exact ⟨h2.symm, h3⟩
theorem rngD_len (lo : Int) (n : Nat) : (rngD lo n).length = n := by
  unfold rngD
  rw [List.length_map, List.length_range]
end Kd
namespace Kd
open PySem
theorem lPop_at {xs : List D} {i : Int} (h : 0 ≤ i) (h2 : i < (xs.length : Nat)) (h3 : xs.length ≤ 1000000) : ∃ x, xs[i.toNat]? = some x ∧ lPop [.int i] xs = some (.v x, xs.eraseIdx i.toNat) := by
  have h4 : i.toNat < xs.length := by omega
  refine ⟨xs[i.toNat], List.getElem?_eq_getElem h4, ?_⟩
  have e1 : (geB i 9223372036854775808 && leB i 9223372036854775807) = true := by
    rw [Bool.and_eq_true, geB_iff, leB_iff]
    omega
  show (if (geB i 9223372036854775808 && leB i 9223372036854775807) = true then match seqIndex? i xs.length with
      | some k => (xs[k]?).map fun y => (Op.v y, xs.eraseIdx k)
      | none => none
    else none) = _
  rw [if_pos e1]
  have e2 : seqIndex? i xs.length = some i.toNat := by
    unfold seqIndex?
    simp only
    first
      | (rw [if_neg (by omega)]; simp; omega)
      | (simp [h, h2]; try omega)
  rw [e2]
  simp only [List.getElem?_eq_getElem h4]
  rfl
end Kd
namespace Kd
open PySem
theorem wipeM_mk (own : List Nat) (r : List Sl) (S : List Ob) : wipeM own ⟨r, S⟩ = ⟨wipeS r own, S⟩ := rfl
theorem wipeS_nil (r : List Sl) : wipeS r [] = r := rfl
theorem wipeS_cons (r : List Sl) (i : Nat) (is : List Nat) : wipeS r (i :: is) = (wipeS r is).set i .un := rfl
theorem backS_nil (r0 r : List Sl) : backS r0 r [] = r := rfl
theorem backS_cons (r0 r : List Sl) (i : Nat) (is : List Nat) : backS r0 r (i :: is) = (backS r0 r is).set i (keptS r0[i]?) := rfl
theorem keptS_un : keptS (some .un) = .un := rfl
theorem keptS_val (d : D) : keptS (some (.val d)) = .val d := rfl
theorem keptS_ol (d : List D) : keptS (some (.ol d)) = .un := rfl
theorem keptS_od (d : Kvs) : keptS (some (.od d)) = .un := rfl
theorem oCut_l (xs : List D) (lo hi : Option Int) : oCut (.l xs) lo hi = some (.nl (cutD xs lo hi)) := rfl
theorem oCut_t (xs : List D) (lo hi : Option Int) : oCut (.d (.tup xs)) lo hi = some (.v (.tup (cutD xs lo hi))) := rfl
theorem cut_map {α β : Type} (f : α → β) (xs : List α) (lo hi : Option Int) : cutD (xs.map f) lo hi = (cutD xs lo hi).map f := by
  unfold cutD
  simp only [List.length_map, List.map_drop, List.map_take]
end Kd
namespace Kd
open PySem
theorem fm_filter {β γ : Type} (p : β → Bool) (f : β → γ) : ∀ ys : List β, ys.filterMap (fun b => if p b = true then some (f b) else none) = (ys.filter p).map f
  | [] => rfl
  | b :: ys => by
    rw [List.filterMap_cons, List.filter_cons]
    cases h : p b with
    | true => simp [fm_filter p f ys]
    | false => simp [fm_filter p f ys]
theorem W_compF {β γ : Type} {own : List Nat} {pt : Pat} {c : DT} {e : DE} {nv : Nv} {m : M} {Q : Op → M → Prop} {ys : List β} {g : β → D} (enc : γ → D) (p : β → Bool) (f : β → γ) (len : ys.length ≤ sizeLine)
    (step : ∀ b ∈ ys, okQ (pt.set (g b) (wipeM own m)) m fun m1 _ => W (c nv m1) fun t m2 => t = p b ∧ (t = true → W (eF e nv m2) fun y m3 => y = enc (f b) ∧ wipeM own m3 = wipeM own m) ∧ (t = false → wipeM own m2 = wipeM own m))
    (q : Q (.nl (((ys.filter p).map f).map enc)) ⟨backS m.r m.r own, m.S⟩) : W (compL own pt c (eF e) nv (ys.map g) m []) (compQ own m Q) := by
  with_unfolding_all
    refine W_compM enc (fun b => if p b = true then some (f b) else none) len (fun b hb => ?_) (by rw [fm_filter]; exact q)
    have s := step b hb
    revert s
    cases pt.set (g b) (wipeM own m) with
    | none => exact fun s => s
    | some m1 =>
      intro s
      refine W.mono (show W (c nv m1) _ from s) fun t m2 ⟨h1, h2, h3⟩ => ?_
      cases t with
      | true =>
        show W _ _
        refine W.mono (h2 rfl) fun y m3 ⟨k1, k2⟩ => ⟨⟨f b, by rw [← h1]; rfl, k1⟩, k2⟩
      | false => exact ⟨by rw [← h1]; rfl, h3 rfl⟩
/-- no test -/
theorem W_compA {β γ : Type} {own : List Nat} {pt : Pat} {e : DE} {nv : Nv} {m : M} {Q : Op → M → Prop} {ys : List β} {g : β → D} (enc : γ → D) (f : β → γ) (len : ys.length ≤ sizeLine)
    (step : ∀ b ∈ ys, okQ (pt.set (g b) (wipeM own m)) m fun m1 _ => W (eF e nv m1) fun y m3 => y = enc (f b) ∧ wipeM own m3 = wipeM own m)
    (q : Q (.nl ((ys.map f).map enc)) ⟨backS m.r m.r own, m.S⟩) : W (compL own pt (fun _ m => .ok true m) (eF e) nv (ys.map g) m []) (compQ own m Q) := by
  with_unfolding_all
    refine W_compF enc (fun _ => true) f len (fun b hb => ?_) (by rw [List.filter_eq_self.mpr (fun _ _ => rfl)]; exact q)
    have s := step b hb
    revert s
    cases pt.set (g b) (wipeM own m) with
    | none => exact fun s => s
    | some m1 => exact fun s => ⟨rfl, fun _ => s, fun h => by cases h⟩
def rgI (n : Nat) : List Int := (List.range n).map fun (i : Nat) => (i : Int)
theorem rngD0 (n : Nat) : rngD 0 n = (rgI n).map D.int := by
  unfold rngD rgI
  rw [List.map_map]
  congr 1
  funext i
  simp
theorem rgI_len (n : Nat) : (rgI n).length = n := by
  unfold rgI
  rw [List.length_map, List.length_range]
theorem rgI_mem {n : Nat} {x : Int} : x ∈ rgI n ↔ 0 ≤ x ∧ x < (n : Nat) := by
  unfold rgI
  rw [List.mem_map]
  constructor
  · rintro ⟨i, h, rfl⟩
    rw [List.mem_range] at h
    omega
  · rintro ⟨h1, h2⟩
    exact ⟨x.toNat, by rw [List.mem_range]; omega, by omega⟩
theorem rgI_nodup (n : Nat) : (rgI n).Nodup := by
  unfold rgI
  exact List.Pairwise.map _ (fun a b h => fun e => h (by omega)) List.nodup_range
end Kd
namespace Kd
theorem rng_0 : rngOk 0 = true := by rfl
theorem rng_1 : rngOk 1 = true := by rfl
theorem rng_2 : rngOk 2 = true := by rfl
theorem rng_3 : rngOk 3 = true := by rfl
theorem rng_4 : rngOk 4 = true := by rfl
theorem rng_5 : rngOk 5 = true := by rfl
theorem rng_6 : rngOk 6 = true := by rfl
theorem rng_7 : rngOk 7 = true := by rfl
theorem rng_8 : rngOk 8 = true := by rfl
theorem rng_9 : rngOk 9 = true := by rfl
theorem rng_10 : rngOk 10 = true := by rfl
theorem rng_11 : rngOk 11 = true := by rfl
theorem rng_12 : rngOk 12 = true := by rfl
theorem rng_13 : rngOk 13 = true := by rfl
theorem rng_14 : rngOk 14 = true := by rfl
theorem rng_15 : rngOk 15 = true := by rfl
theorem rng_16 : rngOk 16 = true := by rfl
theorem rng_32 : rngOk 32 = true := by rfl
theorem rng_64 : rngOk 64 = true := by rfl
end Kd
namespace Kd
open PySem
theorem W_rgI {n : Nat} {m : M} {Q : List D → M → Prop} (h : n ≤ 1000000) (q : Q ((rgI n).map D.int) m) : rgQ (.v (.int (n : Nat))) m Q := by
  rw [rgQ_i _ _ (rngOk_of (by omega) (by omega)), Int.toNat_natCast, rngD0]
  exact q
theorem asInts_map : ∀ ns : List Int, asInts (ns.map D.int) = some ns
  | [] => rfl
  | n :: ns => by
    show (match asInt (.int n), asInts (ns.map D.int) with | some i, some is => some (i :: is) | _, _ => none) = _
    rw [asInts_map ns]
    rfl
theorem bSorted_ints (ns : List Int) : bSorted (.l (ns.map D.int)) = some (.nl ((sortI ns).map D.int)) := by
  unfold bSorted
  simp only [asInts_map]
theorem bMin_ints (ns : List Int) : bMin (.l (ns.map D.int)) = (minI ns).map fun z => .v (.int z) := by
  unfold bMin
  simp only [asInts_map]
  rfl
theorem bMax_ints (ns : List Int) : bMax (.l (ns.map D.int)) = (maxI ns).map fun z => .v (.int z) := by
  unfold bMax
  simp only [asInts_map]
  rfl
theorem sz_le {n : Nat} (h : n ≤ 1000000) : n ≤ sizeLine := Nat.le_trans h (by decide)
theorem sz_lt {n : Nat} (h : n ≤ 1000000) : n < sizeLine := Nat.lt_of_le_of_lt h (by decide)
theorem perm_map_inv {α β : Type} {f : α → β} {xs ys : List β} (h : ys.Perm xs) : ∀ {l : List α}, xs = l.map f → ∃ zs : List α, ys = zs.map f ∧ zs.Perm l := by
  have h2 := h.symm
  clear h
  induction h2 with
  | nil => intro l e; exact ⟨[], rfl, by cases l with | nil => exact List.Perm.nil | cons _ _ => cases e⟩
  | cons x _ ih =>
    intro l e
    cases l with
    | nil => cases e
    | cons a l =>
      rw [List.map_cons, List.cons.injEq] at e
      obtain ⟨zs, h1, h2⟩ := ih e.2
      exact ⟨a :: zs, by rw [List.map_cons, h1, e.1], h2.cons a⟩
  | swap x y r =>
    intro l e
    cases l with
    | nil => cases e
    | cons a l =>
      cases l with
      | nil => cases e
      | cons b l =>
        rw [List.map_cons, List.map_cons, List.cons.injEq, List.cons.injEq] at e
        exact ⟨b :: a :: l, by rw [List.map_cons, List.map_cons, e.1, e.2.1, e.2.2], List.Perm.swap a b l⟩
  | trans _ _ ih1 ih2 =>
    intro l e
    obtain ⟨zs, h1, h2⟩ := ih1 e
    obtain ⟨ws, h3, h4⟩ := ih2 h1
    exact ⟨ws, h3, h4.trans h2⟩
theorem cut_take {α : Type} (xs : List α) (k : Nat) : cutD xs none (some (k : Int)) = xs.take k := by
  unfold cutD
  rw [HT.sIx_none, HT.sIx_nat, List.drop_zero, Nat.sub_zero]
  by_cases h : k ≤ xs.length
  · rw [Nat.min_eq_left h]
  · rw [Nat.min_eq_right (by omega), List.take_of_length_le (Nat.le_refl _), List.take_of_length_le (by omega)]
end Kd
namespace Kd
open PySem
theorem cut2 {α : Type} (xs : List α) : cutD xs none (some 2) = xs.take 2 := cut_take xs 2
theorem cut4 {α : Type} (xs : List α) : cutD xs none (some 4) = xs.take 4 := cut_take xs 4
end Kd
namespace Kd
open PySem
theorem cut_drop {α : Type} (xs : List α) (k : Nat) : cutD xs (some (k : Int)) none = xs.drop k := by
  unfold cutD
  rw [HT.sIx_none, HT.sIx_nat]
  by_cases h : k ≤ xs.length
  · rw [Nat.min_eq_left h, List.take_of_length_le (by rw [List.length_drop]; omega)]
  · rw [Nat.min_eq_right (by omega), List.drop_eq_nil_of_le (Nat.le_refl _), List.drop_eq_nil_of_le (by omega)]
    simp
end Kd
namespace Kd
open PySem
theorem cEq_s (a b : Str) : cEq (.d (.str a)) (.d (.str b)) = some (decide (a = b)) := rfl
theorem cNe_s (a b : Str) : cNe (.d (.str a)) (.d (.str b)) = some (!decide (a = b)) := rfl
end Kd

namespace Kd
open PySem
def b_is_integer : DS :=
  (sRet (eAnd [(eB (t1 (isTy .int) (eVar 0))), (eB (tNot (tE (eB (t1 (isTy .bool) (eVar 0))))))]))
def b_lots_of : DS :=
  (sSeq [(sAsg 2 (eLst [(eTup [])])),
  (sSeq [(sFor (.n 3) (iRng1 (eVar 1)) (sSeq [(sAsg 4 (eLst [])), (sSeq [(sFor (.n 5) (iSeq (eVar 2)) (sSeq [(sAsg 6 (eIf (t2 cNe (eVar 5) (eTup [])) (e2 oAdd (e2 oIx (eVar 5) (e1 oNeg (eC (.int 1)))) (eC (.int 1))) (eC (.int 0)))), (sAsg 4 (e2 oAdd (eVar 4) (eComp (iRng2 (eVar 6) (e2 oAdd (e2 oAdd (e2 oSub (eVar 0) (eVar 1)) (eVar 3)) (eC (.int 1)))) (.n 7) (fun _ m => .ok true m) (e2 oAdd (eVar 5) (eTup [(eVar 7)])) [7])))])), (sAsg 2 (eVar 4))])])),
  (sRet (e1 bTuple (eVar 2)))])])
def b_all_lots (c_lots_of : Nat) : DS :=
  (sSeq [(sIf (t2 cGt (eVar 0) (eC (.int 6))) sNo sSkip),
  (sSeq [(sAsg 1 (eTup [])),
  (sSeq [(sFor (.n 2) (iRng1 (e2 oAdd (eVar 0) (eC (.int 1)))) (sAsg 1 (e2 oAdd (eVar 1) (eCall c_lots_of none [(eVar 0), (eVar 2)])))),
  (sRet (eVar 1))])])])
def b_goal : DS :=
  (sRet (e1 bTuple (eComp (iRng1 (eVar 0)) (.n 2) (t2 cNotIn (eVar 2) (eVar 1)) (eVar 2) [2])))
def b_is_entry (c_goal : Nat) : DS :=
  (sSeq [(sIf (tOr [(tNot (tE (eB (t1 (isTy .tuple) (eVar 2))))), (t2 cNe (e1 bLen (eVar 2)) (eVar 0))]) (sRet (eC (.bl false))) sSkip),
  (sSeq [(sFor (.t [(.n 3), (.n 4)]) (iEnum (eVar 2)) (sIf (tOr [(tNot (tE (eB (t1 (isTy .int) (eVar 4))))), (tE (eB (t1 (isTy .bool) (eVar 4)))), (tNot (t3 cLe cLt (e1 oNeg (eC (.int 1))) (eVar 4) (eVar 0))), (t2 cNe (eB (t2 cLt (eVar 4) (eC (.int 0)))) (eB (t2 cIn (eVar 3) (eVar 1))))]) (sRet (eC (.bl false))) sSkip)),
  (sRet (eB (t2 cEq (e1 bLen (eCall c_goal none [(eVar 0), (eVar 2)])) (e1 bLen (eVar 1)))))])])
def b_is_numbered (c_is_integer : Nat) : DS :=
  (sRet (eAnd [(eB (t1 (isTy .tuple) (eVar 1))), (eB (t2 cEq (e1 bLen (eVar 1)) (eC (.int 2)))), (eCall c_is_integer none [(e2 oIx (eVar 1) (eC (.int 0)))]), (eB (t3 cLe cLt (eC (.int 0)) (e2 oIx (eVar 1) (eC (.int 0))) (e2 oShl (eC (.int 1)) (eVar 0))))]))
def b_part_error (c_is_numbered : Nat) (c_all_lots : Nat) (c_is_entry : Nat) (c_goal : Nat) : DS :=
  (sSeq [(sIf (tNot (tE (eB (t1 (isTy .tuple) (eVar 1))))) (sRet (eC (.str "form"))) sSkip),
  (sSeq [(sFor (.t [(.n 3), (.n 5)]) (iEnum (eVar 1)) (sIf (tNot (tE (eCall c_is_numbered none [(eVar 0), (eVar 5)]))) (sRet (eTup [(eC (.str "number")), (eVar 3)])) sSkip)),
  (sSeq [(sAsg 2 (eCall c_all_lots none [(eVar 0)])),
  (sSeq [(sFor (.t [(.n 3), (.t [(.n 6), (.n 7)])]) (iEnum (eVar 1)) (sIf (tNot (tE (eCall c_is_entry none [(eVar 0), (e2 oIx (eVar 2) (eVar 6)), (eVar 7)]))) (sRet (eTup [(eC (.str "entry")), (eVar 3)])) sSkip)),
  (sSeq [(sFor (.n 3) (iRng2 (eC (.int 1)) (e1 bLen (eVar 1))) (sIf (t2 cLe (e2 oIx (e2 oIx (eVar 1) (eVar 3)) (eC (.int 0))) (e2 oIx (e2 oIx (eVar 1) (e2 oSub (eVar 3) (eC (.int 1)))) (eC (.int 0)))) (sRet (eTup [(eC (.str "order")), (eVar 3)])) sSkip)),
  (sSeq [(sAsg 4 (eLst [])),
  (sSeq [(sFor (.t [(.n 3), (.t [(.n 6), (.n 7)])]) (iEnum (eVar 1)) (sSeq [(sIf (t2 cIn (eCall c_goal none [(eVar 0), (eVar 7)]) (eVar 4)) (sRet (eTup [(eC (.str "goal")), (eVar 3)])) sSkip), (sExp (eMutL lAppend (eVar 4) [(eCall c_goal none [(eVar 0), (eVar 7)])]))])),
  (sRet (eC .non))])])])])])])])
def b_law_reel : DS :=
  (sSeq [(sPar2 3 4 (eComp (iSeq (eSlice oCut (eVar 0) none (some (eC (.int 63))))) (.n 1) (fun _ m => .ok true m) (eIf (t2 cGe (eVar 1) (eC (.int 0))) (e2 oMul (eC (.int 2)) (eVar 1)) (e2 oSub (e2 oMul (e1 oNeg (eC (.int 2))) (eVar 1)) (eC (.int 1)))) [1]) (e2 oAdd (e1 bLen (eVar 0)) (eC (.int 7)))),
  (sSeq [(sFor (.n 1) (iSeq (eVar 3)) (sAsg 4 (e2 oMod (e1 bInt (e2 oAdd (e2 oAdd (e2 oMul (eVar 4) (eC (.int 69069))) (e2 oMul (eVar 1) (eC (.int 11)))) (eC (.int 5)))) (eC (.int 4294967291))))),
  (sSeq [(sAsg 2 (eShare (eComp (iSeq (eVar 3)) (.n 1) (t2 cGe (eVar 1) (e2 oPow (eC (.int 10)) (eC (.int 18)))) (eVar 1) [1]))),
  (sRet (eShare (eDct [((eC (.str "deep")), (eVar 2)), ((eC (.str "cells")), (e2 oAdd (eVar 3) (eLst [(e2 oAdd (e2 oMul (eC (.int 2)) (e1 bLen (eVar 3))) (eC (.int 1)))]))), ((eC (.str "stamp")), (eVar 4)), ((eC (.str "count")), (eC (.int 0)))])))])])])
def b_law_draw : DS :=
  (sSeq [(sAsg 2 (e2 oIx (eVar 0) (eC (.str "deep")))),
  (sSeq [(sIf (tAnd [(t2 cNe (eVar 2) (eLst [])), (t2 cGt (eVar 1) (eC (.int 1)))]) (sSeq [(sAsg 5 (eMutL lPop (eVar 2) [])), (sSeq [(sIf (t2 cGe (eVar 5) (eVar 1)) (sExp (eMutL lAppend (eVar 2) [(e2 oFdiv (eVar 5) (eVar 1))])) sSkip), (sRet (e2 oMod (e1 bInt (eVar 5)) (eVar 1)))])]) sSkip),
  (sSeq [(sSet (eVar 0) (eC (.str "count")) (e2 oAdd (e2 oIx (eVar 0) (eC (.str "count"))) (eC (.int 1)))),
  (sSeq [(sPar2 6 7 (e2 oIx (eVar 0) (eC (.str "count"))) (e2 oIx (eVar 0) (eC (.str "cells")))),
  (sSeq [(sAsg 3 (e2 oMod (e1 bInt (e2 oAdd (e2 oAdd (e2 oMul (e2 oIx (eVar 7) (e2 oMod (e1 bInt (e2 oMul (eVar 6) (eC (.int 7)))) (e1 bLen (eVar 7)))) (eC (.int 2246822519))) (e2 oIx (eVar 0) (eC (.str "stamp")))) (e2 oMul (eVar 6) (eC (.int 3266489917))))) (eC (.int 4294967291)))),
  (sSeq [(sFor (.n 4) (iRng1 (eC (.int 2))) (sAsg 3 (e2 oMod (e1 bInt (e2 oAdd (e2 oMul (eVar 3) (eVar 3)) (e2 oMul (e2 oIx (eVar 0) (eC (.str "stamp"))) (e2 oAdd (eVar 6) (eVar 4))))) (eC (.int 4294967279))))),
  (sRet (e2 oMod (e1 bInt (e2 oFdiv (eVar 3) (eC (.int 512)))) (eVar 1)))])])])])])])
def b_law_pick (c_law_draw : Nat) : DS :=
  (sRet (e2 oIx (eVar 1) (eCall c_law_draw none [(eVar 0), (e1 bLen (eVar 1))])))
def b_law_mixed (c_law_draw : Nat) : DS :=
  (sSeq [(sPar2 2 3 (e1 bList (eVar 1)) (eLst [])),
  (sSeq [(sWhile (t2 cNe (eVar 2) (eLst [])) (sExp (eMutL lAppend (eVar 3) [(eMutL lPop (eVar 2) [(eCall c_law_draw none [(eVar 0), (e1 bLen (eVar 2))])])]))),
  (sRet (eVar 3))])])
def b_law_world : DS :=
  (sSeq [(sPar2 2 3 (eLst [(eTup [])]) (eLst [(eTup [])])),
  (sSeq [(sFor (.n 1) (iRng1 (eVar 0)) (sSeq [(sAsg 4 (eLst [])), (sSeq [(sFor (.n 5) (iSeq (eVar 2)) (sFor (.n 6) (iRng2 (eIf (t2 cNe (eVar 5) (eTup [])) (e2 oAdd (e2 oIx (eVar 5) (e1 oNeg (eC (.int 1)))) (eC (.int 1))) (eC (.int 0))) (eVar 0)) (sExp (eMutL lAppend (eVar 4) [(e2 oAdd (eVar 5) (eTup [(eVar 6)]))])))), (sPar2 2 3 (eVar 4) (e2 oAdd (eVar 3) (eVar 4)))])])),
  (sRet (eDct [((eC (.str "n")), (eVar 0)), ((eC (.str "lots")), (eVar 3)), ((eC (.str "spots")), (eDctZ (eVar 3) (eLstI (iRng1 (e1 bLen (eVar 3))))))]))])])
def b_law_end : DS :=
  (sRet (e1 bTuple (eComp (iRng1 (e1 bLen (eVar 0))) (.n 1) (t2 cNotIn (eVar 1) (eVar 0)) (eVar 1) [1])))
def b_law_stay : DS :=
  (sRet (e1 bTuple (eComp (iRng1 (eVar 0)) (.n 2) (fun _ m => .ok true m) (eIf (t2 cIn (eVar 2) (eVar 1)) (e1 oNeg (eC (.int 1))) (eVar 2)) [2])))
def b_law_deed (c_law_mixed : Nat) : DS :=
  (sSeq [(sAsg 3 (eCall c_law_mixed none [(eVar 0), (eLstI (iRng1 (eVar 1)))])),
  (sRet (eTup [(e1 bTuple (e1 bSorted (eSlice oCut (eVar 3) (some (eC (.int 2))) (some (e2 oAdd (eC (.int 2)) (eVar 2)))))), (e1 bMin (eSlice oCut (eVar 3) none (some (eC (.int 2))))), (e1 bMax (eSlice oCut (eVar 3) none (some (eC (.int 2)))))]))])
def b_law_deed_table (c_law_stay : Nat) : DS :=
  (sSeq [(sUn (.t [(.n 3), (.n 4), (.n 5)]) (eVar 1)),
  (sSeq [(sPar2 6 7 (eDct [((eVar 4), (eVar 5)), ((eVar 5), (eVar 4))]) (eLst [])),
  (sSeq [(sFor (.n 2) (iSeq (e2 oIx (eVar 0) (eC (.str "lots")))) (sSeq [(sAsg 8 (eCall c_law_stay none [(e2 oIx (eVar 0) (eC (.str "n"))), (eVar 2)])), (sSeq [(sIf (t2 cEq (eComp (iSeq (eVar 3)) (.n 9) (t2 cNotIn (eVar 9) (eVar 2)) (eVar 9) [9]) (eLst [])) (sAsg 8 (e1 bTuple (eComp (iSeq (eVar 8)) (.n 10) (fun _ m => .ok true m) (eMeth isK mGet2 (eVar 6) [(eVar 10), (eVar 10)]) [10]))) sSkip), (sExp (eMutL lAppend (eVar 7) [(eVar 8)]))])])),
  (sRet (e1 bTuple (eVar 7)))])])])
def b_law_then (c_law_end : Nat) : DS :=
  (sSeq [(sAsg 3 (eLst [])),
  (sSeq [(sFor (.n 4) (iSeq (eVar 1)) (sSeq [(sAsg 5 (e2 oIx (eVar 2) (e2 oIx (e2 oIx (eVar 0) (eC (.str "spots"))) (eCall c_law_end none [(eVar 4)])))), (sExp (eMutL lAppend (eVar 3) [(e1 bTuple (eComp (iSeq (eVar 4)) (.n 6) (fun _ m => .ok true m) (eIf (t2 cLt (eVar 6) (eC (.int 0))) (e1 oNeg (eC (.int 1))) (e2 oIx (eVar 5) (eVar 6))) [6]))]))])),
  (sRet (e1 bTuple (eVar 3)))])])
def b_law_product (c_law_stay : Nat) (c_law_then : Nat) (c_law_deed_table : Nat) (c_law_deed : Nat) (c_law_pick : Nat) : DS :=
  (sSeq [(sAsg 4 (e1 bTuple (eComp (iSeq (e2 oIx (eVar 1) (eC (.str "lots")))) (.n 6) (fun _ m => .ok true m) (eCall c_law_stay none [(e2 oIx (eVar 1) (eC (.str "n"))), (eVar 6)]) [6]))),
  (sSeq [(sFor (.n 5) (iRng1 (eVar 3)) (sAsg 4 (eCall c_law_then none [(eVar 1), (eVar 4), (eCall c_law_deed_table none [(eVar 1), (eCall c_law_deed none [(eVar 0), (e2 oIx (eVar 1) (eC (.str "n"))), (eCall c_law_pick none [(eVar 0), (eVar 2)])])])]))),
  (sRet (eVar 4))])])
def b_law_turned (c_law_draw : Nat) (c_law_mixed : Nat) : DS :=
  (sSeq [(sPar2 6 7 (e2 oIx (eVar 1) (eC (.str "n"))) (e1 bList (eVar 2))),
  (sSeq [(sAsg 3 (eCall c_law_draw none [(eVar 0), (e2 oSub (e2 oSub (e1 bLen (eVar 7)) (eVar 6)) (eC (.int 1)))])),
  (sSeq [(sIf (t2 cEq (eCall c_law_draw none [(eVar 0), (eC (.int 2))]) (eC (.int 0))) (sSeq [(sUn (.t [(.n 14), (.n 15)]) (eSlice oCut (eCall c_law_mixed none [(eVar 0), (eComp (iRng1 (eVar 6)) (.n 14) (t2 cGe (e2 oIx (e2 oIx (eVar 7) (eVar 3)) (eVar 14)) (eC (.int 0))) (eVar 14) [14])]) none (some (eC (.int 2))))), (sSeq [(sAsg 8 (eDct [((e2 oIx (e2 oIx (eVar 7) (eVar 3)) (eVar 14)), (e2 oIx (e2 oIx (eVar 7) (eVar 3)) (eVar 15))), ((e2 oIx (e2 oIx (eVar 7) (eVar 3)) (eVar 15)), (e2 oIx (e2 oIx (eVar 7) (eVar 3)) (eVar 14)))])), (sSeq [(sSet (eVar 7) (eVar 3) (e1 bTuple (eComp (iSeq (e2 oIx (eVar 7) (eVar 3))) (.n 16) (fun _ m => .ok true m) (eMeth isK mGet2 (eVar 8) [(eVar 16), (eVar 16)]) [16]))), (sRet (e1 bTuple (eVar 7)))])])]) sSkip),
  (sSeq [(sAsg 4 (e2 oAdd (eC (.int 1)) (eCall c_law_draw none [(eVar 0), (e2 oSub (eVar 6) (eC (.int 1)))]))),
  (sSeq [(sUn (.t [(.n 9), (.n 10)]) (eSlice oCut (eCall c_law_mixed none [(eVar 0), (eComp (iRng1 (e1 bLen (eVar 7))) (.n 11) (t2 cEq (e1 bLen (e2 oIx (e2 oIx (eVar 1) (eC (.str "lots"))) (eVar 11))) (eVar 4)) (eVar 11) [11])]) none (some (eC (.int 2))))),
  (sSeq [(sAsg 5 (eComp (iSeq (eTup [(eVar 9), (eVar 10)])) (.n 11) (fun _ m => .ok true m) (eComp (iSeq (e2 oIx (eVar 7) (eVar 11))) (.n 15) (t2 cGe (eVar 15) (eC (.int 0))) (eVar 15) [15]) [11])),
  (sSeq [(sFor (.t [(.n 11), (.n 12)]) (iSeq (eTup [(eTup [(eVar 9), (e2 oIx (eVar 5) (eC (.int 1)))]), (eTup [(eVar 10), (e2 oIx (eVar 5) (eC (.int 0)))])])) (sSeq [(sAsg 13 (e1 bList (eVar 12))), (sSet (eVar 7) (eVar 11) (e1 bTuple (eComp (iSeq (e2 oIx (eVar 7) (eVar 11))) (.n 15) (fun _ m => .ok true m) (eIf (t2 cLt (eVar 15) (eC (.int 0))) (e1 oNeg (eC (.int 1))) (eMutL lPop (eVar 13) [(eC (.int 0))])) [15])))])),
  (sRet (e1 bTuple (eVar 7)))])])])])])])])
def b_law_is_entry : DS :=
  (sSeq [(sIf (tOr [(tNot (tE (eB (t1 (isTy .tuple) (eVar 2))))), (t2 cNe (e1 bLen (eVar 2)) (eVar 0))]) (sRet (eC (.bl false))) sSkip),
  (sSeq [(sFor (.t [(.n 4), (.n 5)]) (iEnum (eVar 2)) (sIf (tOr [(tE (eB (t1 (isTy .bool) (eVar 5)))), (tNot (tE (eB (t1 (isTy .int) (eVar 5))))), (t2 cLt (eVar 5) (e1 oNeg (eC (.int 1)))), (t2 cGe (eVar 5) (eVar 0)), (t2 cNe (eB (t2 cLt (eVar 5) (eC (.int 0)))) (eB (t2 cIn (eVar 4) (eVar 1))))]) (sRet (eC (.bl false))) sSkip)),
  (sSeq [(sAsg 3 (eComp (iSeq (eVar 2)) (.n 5) (t2 cGe (eVar 5) (eC (.int 0))) (eVar 5) [5])),
  (sRet (eB (t2 cEq (e1 bLen (eVar 3)) (e1 bLen (eDctZ (eVar 3) (eVar 3))))))])])])
def b_law_entry (c_law_mixed : Nat) : DS :=
  (sSeq [(sAsg 4 (eCall c_law_mixed none [(eVar 0), (eComp (iRng1 (eVar 1)) (.n 5) (t2 cNotIn (eVar 5) (eVar 3)) (eVar 5) [5])])),
  (sRet (e1 bTuple (eComp (iRng1 (eVar 1)) (.n 5) (fun _ m => .ok true m) (eIf (t2 cIn (eVar 5) (eVar 2)) (e1 oNeg (eC (.int 1))) (eMutL lPop (eVar 4) [])) [5])))])
def b_law_part (c_law_draw : Nat) (c_law_mixed : Nat) (c_law_pick : Nat) : DS :=
  (sSeq [(sPar2 6 7 (e2 oIx (eVar 1) (eC (.str "lots"))) (eCall c_law_draw none [(eVar 0), (eC (.int 5))])),
  (sSeq [(sAsg 3 (eComp (iRng1 (e2 oAdd (e2 oIx (eVar 1) (eC (.str "n"))) (eC (.int 1)))) (.n 9) (t2 cEq (eCall c_law_draw none [(eVar 0), (eC (.int 2))]) (eC (.int 0))) (eVar 9) [9])),
  (sSeq [(sAsg 4 (eSlice oCut (eCall c_law_mixed none [(eVar 0), (eLstI (iRng1 (e1 bLen (eVar 6))))]) none (some (eCall c_law_draw none [(eVar 0), (eC (.int 7))])))),
  (sSeq [(sAsg 5 (eCall c_law_pick none [(eVar 0), (eLstI (iRng1 (e1 bLen (eVar 6))))])),
  (sSeq [(sIf (t2 cEq (eVar 7) (eC (.int 0))) (sAsg 8 (eVar 4)) (sIf (t2 cEq (eVar 7) (eC (.int 1))) (sAsg 8 (eComp (iRng1 (e1 bLen (eVar 6))) (.n 10) (t2 cGt (eCall c_law_draw none [(eVar 0), (eC (.int 3))]) (eC (.int 0))) (eVar 10) [10])) (sIf (t2 cEq (eVar 7) (eC (.int 2))) (sAsg 8 (eComp (iRng1 (e1 bLen (eVar 6))) (.n 10) (t2 cIn (e1 bLen (e2 oIx (eVar 6) (eVar 10))) (eVar 3)) (eVar 10) [10])) (sIf (t2 cEq (eVar 7) (eC (.int 3))) (sAsg 8 (eComp (iRng1 (e1 bLen (eVar 6))) (.n 10) (tAnd [(t2 cNe (eVar 10) (eVar 5)), (tOr [(t2 cIn (e1 bLen (e2 oIx (eVar 6) (eVar 10))) (eVar 3)), (t2 cIn (eVar 10) (eVar 4))])]) (eVar 10) [10])) (sAsg 8 (eComp (iRng1 (e1 bLen (eVar 6))) (.n 10) (t2 cNotIn (eVar 10) (eVar 4)) (eVar 10) [10])))))),
  (sRet (e1 bTuple (eComp (iSeq (e1 bSorted (eVar 8))) (.n 10) (fun _ m => .ok true m) (eTup [(eVar 10), (e2 oIx (eVar 2) (eVar 10))]) [10])))])])])])])
def b_law_due (c_law_is_entry : Nat) (c_law_end : Nat) : DS :=
  (sSeq [(sPar2 4 5 (e2 oIx (eVar 0) (eC (.str "n"))) (e2 oIx (eVar 0) (eC (.str "lots")))),
  (sSeq [(sIf (tNot (tE (eB (t1 (isTy .tuple) (eVar 1))))) (sRet (eC (.str "form"))) sSkip),
  (sSeq [(sFor (.t [(.n 2), (.n 6)]) (iEnum (eVar 1)) (sSeq [(sAsg 7 (eAnd [(eB (t1 (isTy .tuple) (eVar 6))), (eB (t2 cEq (e1 bLen (eVar 6)) (eC (.int 2)))), (eB (t1 (isTy .int) (e2 oIx (eVar 6) (eC (.int 0))))), (eB (tNot (tE (eB (t1 (isTy .bool) (e2 oIx (eVar 6) (eC (.int 0))))))))])), (sIf (tOr [(tNot (tE (eVar 7))), (t2 cLt (e2 oIx (eVar 6) (eC (.int 0))) (eC (.int 0))), (t2 cGe (e2 oIx (eVar 6) (eC (.int 0))) (e1 bLen (eVar 5)))]) (sRet (eTup [(eC (.str "number")), (eVar 2)])) sSkip)])),
  (sSeq [(sFor (.t [(.n 2), (.n 6)]) (iEnum (eVar 1)) (sIf (tNot (tE (eCall c_law_is_entry none [(eVar 4), (e2 oIx (eVar 5) (e2 oIx (eVar 6) (eC (.int 0)))), (e2 oIx (eVar 6) (eC (.int 1)))]))) (sRet (eTup [(eC (.str "entry")), (eVar 2)])) sSkip)),
  (sSeq [(sFor (.n 2) (iRng2 (eC (.int 1)) (e1 bLen (eVar 1))) (sIf (t2 cLe (e2 oIx (e2 oIx (eVar 1) (eVar 2)) (eC (.int 0))) (e2 oIx (e2 oIx (eVar 1) (e2 oSub (eVar 2) (eC (.int 1)))) (eC (.int 0)))) (sRet (eTup [(eC (.str "order")), (eVar 2)])) sSkip)),
  (sSeq [(sAsg 3 (eLst [])),
  (sSeq [(sFor (.t [(.n 2), (.n 6)]) (iEnum (eVar 1)) (sSeq [(sIf (t2 cIn (eCall c_law_end none [(e2 oIx (eVar 6) (eC (.int 1)))]) (eVar 3)) (sRet (eTup [(eC (.str "goal")), (eVar 2)])) sSkip), (sExp (eMutL lAppend (eVar 3) [(eCall c_law_end none [(e2 oIx (eVar 6) (eC (.int 1)))])]))])),
  (sRet (eC .non))])])])])])])])
def b_law_loose (c_law_mixed : Nat) (c_law_draw : Nat) (c_law_entry : Nat) : DS :=
  (sSeq [(sPar2 3 4 (eLst []) (e2 oIx (eVar 1) (eC (.str "lots")))),
  (sSeq [(sFor (.n 2) (iRng1 (e2 oAdd (e2 oIx (eVar 1) (eC (.str "n"))) (eC (.int 1)))) (sSeq [(sAsg 5 (eComp (iRng1 (e1 bLen (eVar 4))) (.n 7) (t2 cEq (e1 bLen (e2 oIx (eVar 4) (eVar 7))) (eVar 2)) (eVar 7) [7])), (sSeq [(sAsg 6 (eCall c_law_mixed none [(eVar 0), (eVar 5)])), (sFor (.n 7) (iSeq (eSlice oCut (eCall c_law_mixed none [(eVar 0), (eVar 5)]) none (some (eCall c_law_draw none [(eVar 0), (eC (.int 4))])))) (sExp (eMutL lAppend (eVar 3) [(eTup [(eVar 7), (eCall c_law_entry none [(eVar 0), (e2 oIx (eVar 1) (eC (.str "n"))), (e2 oIx (eVar 4) (eVar 7)), (e2 oIx (eVar 4) (eMutL lPop (eVar 6) []))])])])))])])),
  (sRet (e1 bTuple (e1 bSorted (eVar 3))))])])
def b_law_odd_item (c_law_draw : Nat) (c_law_pick : Nat) : DS :=
  (sSeq [(sUn (.t [(.n 4), (.n 5)]) (eVar 2)),
  (sSeq [(sPar2 6 7 (eCall c_law_draw none [(eVar 0), (e2 oIx (eVar 1) (eC (.str "n")))]) (eCall c_law_draw none [(eVar 0), (eC (.int 13))])),
  (sSeq [(sIf (t2 cLt (eVar 7) (eC (.int 6))) (sSeq [(sAsg 3 (eLst [(eC .non), (eTup []), (e1 oNeg (eC (.int 1))), (e2 oIx (eVar 1) (eC (.str "n"))), (eC (.bl true)), (eC (.str "1")), (e2 oIx (eVar 5) (e2 oSub (eVar 6) (eC (.int 1)))), (e2 oAdd (e2 oIx (eVar 5) (eVar 6)) (eC (.int 1))), (eC (.int 0)), (eLst [(eC (.int 0))])])), (sRet (eTup [(eVar 4), (e2 oAdd (e2 oAdd (eSlice oCut (eVar 5) none (some (eVar 6))) (eTup [(eCall c_law_pick none [(eVar 0), (eVar 3)])])) (eSlice oCut (eVar 5) (some (e2 oAdd (eVar 6) (eC (.int 1)))) none))]))]) sSkip),
  (sSeq [(sIf (t2 cEq (eVar 7) (eC (.int 6))) (sRet (eTup [(eVar 4), (eCall c_law_pick none [(eVar 0), (eLst [(eSlice oCut (eVar 5) (some (eC (.int 1))) none), (e2 oAdd (eVar 5) (eTup [(e1 oNeg (eC (.int 1)))])), (e1 bList (eVar 5)), (eC .non), (eTup []), (e1 oRev (eVar 5)), (eC (.int 7)), (eC (.str "entry"))])])])) sSkip),
  (sSeq [(sIf (t2 cEq (eVar 7) (eC (.int 7))) (sSeq [(sAsg 8 (eCall c_law_draw none [(eVar 0), (e1 bLen (e2 oIx (eVar 1) (eC (.str "lots"))))])), (sRet (eTup [(eVar 8), (eVar 5)]))]) sSkip),
  (sSeq [(sIf (t2 cLt (eVar 7) (eC (.int 11))) (sSeq [(sAsg 3 (eLst [(e1 oNeg (eC (.int 1))), (e1 bLen (e2 oIx (eVar 1) (eC (.str "lots")))), (eC (.bl true)), (eC (.bl false)), (eC .non), (eC (.str "3")), (eTup [(eVar 4)]), (e2 oPow (eC (.int 10)) (eC (.int 40))), (eC (.str "")), (eLst [(eVar 4)])])), (sRet (eTup [(eCall c_law_pick none [(eVar 0), (eVar 3)]), (eVar 5)]))]) sSkip),
  (sSeq [(sAsg 3 (eLst [(eC .non), (eTup []), (eTup [(eVar 4)]), (eLst [(eVar 4), (eVar 5)]), (eTup [(eVar 4), (eVar 5), (eC (.int 0))]), (eVar 4), (eVar 5), (eC (.str "ab")), (eDct [((eVar 4), (eVar 5))])])),
  (sRet (eCall c_law_pick none [(eVar 0), (eVar 3)]))])])])])])])])
def b_law_spoilt (c_law_draw : Nat) (c_law_pick : Nat) (c_law_odd_item : Nat) (c_law_mixed : Nat) (c_law_end : Nat) (c_law_entry : Nat) : DS :=
  (sSeq [(sPar2 10 9 (eCall c_law_draw none [(eVar 0), (eC (.int 9))]) (e1 bList (eVar 2))),
  (sSeq [(sIf (tOr [(t2 cEq (eVar 10) (eC (.int 0))), (t2 cEq (eVar 9) (eLst []))]) (sRet (eCall c_law_pick none [(eVar 0), (eLst [(e1 bList (eVar 2)), (eC .non), (eC (.int 0)), (eC (.str "part")), (eDct []), (eTup [(eC .non)]), (eTup [(eTup [(eC (.int 0))])]), (e2 oAdd (eVar 2) (eTup [(eTup [])])), (e2 oAdd (eVar 2) (eTup [(eVar 2)])), (eC (.bl true))])])) sSkip),
  (sSeq [(sAsg 3 (eCall c_law_draw none [(eVar 0), (e1 bLen (eVar 9))])),
  (sSeq [(sIf (t2 cLt (eVar 10) (eC (.int 5))) (sSeq [(sSet (eVar 9) (eVar 3) (eCall c_law_odd_item none [(eVar 0), (eVar 1), (e2 oIx (eVar 9) (eVar 3))])), (sRet (e1 bTuple (eVar 9)))]) sSkip),
  (sSeq [(sIf (t2 cEq (eVar 10) (eC (.int 5))) (sRet (e1 bTuple (eCall c_law_mixed none [(eVar 0), (eVar 9)]))) sSkip),
  (sSeq [(sIf (t2 cEq (eVar 10) (eC (.int 6))) (sRet (e1 bTuple (e2 oAdd (e2 oAdd (eSlice oCut (eVar 9) none (some (eVar 3))) (eLst [(e2 oIx (eVar 9) (eVar 3))])) (eSlice oCut (eVar 9) (some (eVar 3)) none)))) sSkip),
  (sSeq [(sAsg 4 (eCall c_law_pick none [(eVar 0), (eVar 9)])),
  (sSeq [(sAsg 5 (eComp (iRng1 (e1 bLen (e2 oIx (eVar 1) (eC (.str "lots"))))) (.n 11) (t2 cEq (e1 bLen (e2 oIx (e2 oIx (eVar 1) (eC (.str "lots"))) (eVar 11))) (e1 bLen (e2 oIx (e2 oIx (eVar 1) (eC (.str "lots"))) (e2 oIx (eVar 4) (eC (.int 0)))))) (eVar 11) [11])),
  (sSeq [(sAsg 6 (eCall c_law_pick none [(eVar 0), (eVar 5)])),
  (sSeq [(sAsg 7 (eCall c_law_end none [(e2 oIx (eVar 4) (eC (.int 1)))])),
  (sSeq [(sAsg 8 (eTup [(eVar 6), (eCall c_law_entry none [(eVar 0), (e2 oIx (eVar 1) (eC (.str "n"))), (e2 oIx (e2 oIx (eVar 1) (eC (.str "lots"))) (eVar 6)), (eVar 7)])])),
  (sSeq [(sAsg 9 (e2 oAdd (eComp (iSeq (eVar 9)) (.n 12) (tOr [(t2 cNe (e2 oIx (eVar 12) (eC (.int 0))) (eVar 6)), (t2 cEq (e2 oIx (eVar 12) (eC (.int 0))) (e2 oIx (eVar 4) (eC (.int 0))))]) (eVar 12) [12]) (eLst [(eVar 8)]))),
  (sRet (e1 bTuple (eIf (t2 cEq (eVar 10) (eC (.int 7))) (e1 bSorted (eVar 9)) (eVar 9))))])])])])])])])])])])])])
end Kd

namespace Kd
open PySem
local macro_rules | `(tactic| walk_at "kd") => `(tactic| try simp -dsimp +decide only [W_ok, W_seq, seqQ_nx, seqQ_rt, seqQ_bk, seqQ_ct, W_asg, stQ_some, W_un, W_par2, W_exp, W_ret, rtQ_v, rtQ_nl, rtQ_nd, rtQ_slot, rtS_ol, rtS_od, W_retN, W_skip, W_brk, W_cnt, W_if, ifQ_t, ifQ_f, okQ_some, W_of, W_eC, W_eVar,
  vaQ_val, vaQ_ol, vaQ_od, W_eF, W_fz_v, W_fz_nl, W_fz_nd, W_fz, fzQ_val, fzQ_ol, fzQ_od, W_fzS_v, W_fzS_nl, W_fzS_nd, W_fzS_sl, W_list_nil, W_list_cons, W_tup, W_lst, W_e1, W_e2, W_t1, W_t2, W_t3, tfQ_t, tfQ_f, W_eB, boQ_bl, W_tE, W_tNot, W_and_nil, W_or_nil, W_and, W_or,
  W_eand1, W_eor1, W_eand, W_eor, W_eIf, W_tIf, W_optN, W_optS, inQ_i, W_slice, W_call, W_callK, W_share, shQ_nl, shQ_nd, W_rng1, W_rng2, W_seqI, W_enumI, W_zipI, W_lstI, W_for, turnQ_nx, turnQ_ct, turnQ_bk, turnQ_rt, W_mutL, W_mut, muQ_ol, W_mutO, muO_lst, W_mutD, mdQ_od, W_mutDO, mdO_dct, W_meth, W_set, setQ_eq, setV_l, setV_k,
  W_kvs_nil, W_kvs_cons, W_dct, W_dctZ, W_comp, vw_v, vw_nl, vw_nd, vw_sl, vwS_ol, vwS_od, vwD_int, vwD_str, vwD_bl, vwD_non, vwD_tup, vwD_lst, vwD_dct, vwD_loc, vwO_lst, vwO_dct, setSl_v, setSl_nl, setSl_nd, setSl_sl, slS_ol, slS_od, pat_n, pat_t, pat_tl, pats_nil, pats_cons,
  oAdd_i, oSub_i, oNeg_i, cLt_i, cLe_i, cGt_i, cGe_i, bLen_l, bLen_t, bLen_k, bTuple_l, bTuple_t, bList_l, bList_t, bInt_i, oIx_l, oIx_t, oIx_k, kvO_some, kk_int, kk_str, isTy_int, isTy_tup, isTy_bl, isTy_str, isTy_non, isTy_l, isTy_k, vwDD, frozen_t, frozen_l, bind_some', map_some', map_none', start1, start2, start3, start4,
  retQ_rt, retQ_nx, get0, getS, set0, setS, List.replicate, List.length_cons, List.length_nil, Nat.reduceAdd, Nat.reduceSub, Nat.reduceMul, Nat.reduceLeDiff, isL_l, isK_k, Option.bind_some, if_true, if_false, ite_true, ite_false, Bool.not_true, Bool.not_false, true_and, and_true, Option.map_some, Option.map_none, reduceIte, reduceCtorEq, decide_true, decide_false, vwLD, vwKD, sz0, sz1, sz2, sz3, sz4, sz5, sz6, sz7, sz8, sz9, sz10, joinQ_nx, joinQ_rt, joinQ_bk, joinQ_ct, reel_deep, reel_cells, reel_stamp, reel_count, reel_set, cEq_i, cNe_i, cNe_b, cEq_tI, cNe_tI, cIn_t, cIn_l, cNotIn_t, cNotIn_l, List.length_map, oMul_r, oMul_l, oMod_i, oFdiv_i, oPow_i, lAppend_one, rgQ_i, rgQ2_i, W_forL_nil, W_forL_cons, wipeM_mk, wipeS_nil, wipeS_cons, backS_nil, backS_cons, keptS_un, keptS_val, keptS_ol, keptS_od, oCut_l, oCut_t, Int.toNat_natCast, forall_const, imp_self, atI_pos, Int.reduceToNat, bSorted_ints, bMin_ints, bMax_ints, cut_map, rng_0, rng_1, rng_2, rng_3, rng_4, rng_5, rng_6, rng_7, rng_8, rng_9, rng_10, rng_11, rng_12, rng_13, rng_14, rng_15, rng_16, rng_32, rng_64])
theorem draw_ok {P : List Cd} {wf k i : Nat} {S : List Ob} {n : Int} {Q : Op → List Ob → Prop} (h : P[i]? = some ⟨b_law_draw, 2, 8⟩) (hS : RW S) (hn : 0 < n) (hn2 : n < 1073741824)
    (q : ∀ z S', 0 ≤ z → z < n → RW S' → Q (.v (.int z)) S') : WC (ctK P wf (k + 1) i [.loc 1, .int n] S) Q := by
  obtain ⟨deep, cells, st, c, rfl, h1, h2, h3, h4⟩ := hS
  have hr : ∀ (x : Int) (S' : List Ob), RW S' → Q (.v (.int (x % n))) S' := fun x S' r => q _ _ (Int.emod_nonneg _ (by omega)) (Int.emod_lt_of_pos _ hn) r
  refine WC_ct h rfl ?_
  unfold b_law_draw
  refine W_step (fun m => m = ⟨[.val (.loc 1), .val (.int n), .val (.loc 0), .un, .un, .un, .un, .un], [.lst (deep.map .int), .dct (reelD cells st c)]⟩) ?_ ?_
  · walk_at "kd"
  rintro m1 rfl
  refine W_step (fun m => m = ⟨[.val (.loc 1), .val (.int n), .val (.loc 0), .un, .un, .un, .un, .un], [.lst (deep.map .int), .dct (reelD cells st c)]⟩) ?_ ?_
  · walk_at "kd"
    rw [cNe_nil (okd_ints deep)]
    walk_at "kd"
    refine W_tf (fun hd => ?_) (fun _ => ?_)
    · walk_at "kd"
      refine W_tf (fun h1n => ?_) (fun _ => ?_)
      · walk_at "kd"
        have hne : deep ≠ [] := by
          intro z
          subst z
          simp at hd
        obtain ⟨x, hx⟩ : ∃ x, deep[deep.length - 1]? = some x := ⟨deep[deep.length - 1]'(by
          have := List.length_pos_iff.mpr hne
          omega), List.getElem?_eq_getElem _⟩
        have hp : lPop [] (deep.map D.int) = some (.v (.int x), (deep.dropLast).map D.int) := by
          show ((deep.map D.int)[(deep.map D.int).length - 1]?).map _ = _
          rw [List.length_map, List.getElem?_map, hx, ← List.map_dropLast]
          rfl
        rw [hp]
        walk_at "kd"
        have hl : deep.dropLast.length ≤ 100 := by rw [List.length_dropLast]; omega
        have hs : (deep.dropLast.map D.int).length < sizeLine := by
          rw [List.length_map]
          exact Nat.lt_of_le_of_lt hl (by decide)
        refine W_if' (fun hx1 => ?_) (fun hx1 => ?_)
        · walk_at "kd"
          rw [oFdiv_i hn hn2]
          walk_at "kd"
          rw [lAppend_one _ _ hs]
          walk_at "kd"
          rw [oMod_i hn]
          walk_at "kd"
          refine hr _ _ ⟨deep.dropLast ++ [x / n], cells, st, c, by rw [List.map_append]; rfl, h1, h2, h3, ?_⟩
          rw [List.length_append, List.length_singleton, List.length_dropLast]
          have := List.length_pos_iff.mpr hne
          omega
        · walk_at "kd"
          rw [oMod_i hn]
          walk_at "kd"
          exact hr _ _ ⟨deep.dropLast, cells, st, c, rfl, h1, h2, h3, hl⟩
      · walk_at "kd"
    · walk_at "kd"
  rintro m1 rfl
  have r2 : ∀ c, RW [.lst (deep.map .int), .dct (reelD cells st c)] := fun c => ⟨deep, cells, st, c, rfl, h1, h2, h3, h4⟩
  have hst : within64 st = true := w64_of h2 (by omega)
  walk_at "kd"
  rw [oMod_i (by omega : (0 : Int) < (cells.length : Nat))]
  walk_at "kd"
  obtain ⟨x, hx, hx2⟩ := atI_mod (xs := cells.map D.int) (i := (c + 1) * 7) (by rw [List.length_map]; exact h1)
  rw [List.length_map] at hx
  obtain ⟨y, rfl, _⟩ := int_mem hx2
  rw [hx]
  walk_at "kd"
  refine W_forL (fun _ m => ∃ (u : Int) (s4 : Sl), 0 ≤ u ∧ u < 4294967296 ∧ m = ⟨[.val (.loc 1), .val (.int n), .val (.loc 0), .val (.int u), s4, .un, .val (.int (c + 1)), .val (.lst (cells.map D.int))], [.lst (deep.map .int), .dct (reelD cells st (c + 1))]⟩) ?_ ?_ ?_
  · exact ⟨_, _, Int.emod_nonneg _ (by decide), Int.lt_trans (Int.emod_lt_of_pos _ (by decide)) (by decide), rfl⟩
  · rintro i x m hx ⟨u, s4, u1, u2, rfl⟩
    obtain ⟨rfl, _⟩ := rngD_get hx
    have hu : within64 u = true := w64_of u1 (by omega)
    walk_at "kd"
    rw [oMul_l hu]
    walk_at "kd"
    rw [oMul_l hst]
    walk_at "kd"
    exact ⟨_, _, Int.emod_nonneg _ (by decide), Int.lt_trans (Int.emod_lt_of_pos _ (by decide)) (by decide), rfl⟩
  · rintro m ⟨u, s4, u1, u2, rfl⟩
    walk_at "kd"
    rw [oMod_i hn]
    walk_at "kd"
    exact hr _ _ (r2 _)
end Kd

namespace Kd
open PySem
local macro_rules | `(tactic| walk_at "kd") => `(tactic| try simp -dsimp +decide only [W_ok, W_seq, seqQ_nx, seqQ_rt, seqQ_bk, seqQ_ct, W_asg, stQ_some, W_un, W_par2, W_exp, W_ret, rtQ_v, rtQ_nl, rtQ_nd, rtQ_slot, rtS_ol, rtS_od, W_retN, W_skip, W_brk, W_cnt, W_if, ifQ_t, ifQ_f, okQ_some, W_of, W_eC, W_eVar,
  vaQ_val, vaQ_ol, vaQ_od, W_eF, W_fz_v, W_fz_nl, W_fz_nd, W_fz, fzQ_val, fzQ_ol, fzQ_od, W_fzS_v, W_fzS_nl, W_fzS_nd, W_fzS_sl, W_list_nil, W_list_cons, W_tup, W_lst, W_e1, W_e2, W_t1, W_t2, W_t3, tfQ_t, tfQ_f, W_eB, boQ_bl, W_tE, W_tNot, W_and_nil, W_or_nil, W_and, W_or,
  W_eand1, W_eor1, W_eand, W_eor, W_eIf, W_tIf, W_optN, W_optS, inQ_i, W_slice, W_call, W_callK, W_share, shQ_nl, shQ_nd, W_rng1, W_rng2, W_seqI, W_enumI, W_zipI, W_lstI, W_for, turnQ_nx, turnQ_ct, turnQ_bk, turnQ_rt, W_mutL, W_mut, muQ_ol, W_mutO, muO_lst, W_mutD, mdQ_od, W_mutDO, mdO_dct, W_meth, W_set, setQ_eq, setV_l, setV_k,
  W_kvs_nil, W_kvs_cons, W_dct, W_dctZ, W_comp, vw_v, vw_nl, vw_nd, vw_sl, vwS_ol, vwS_od, vwD_int, vwD_str, vwD_bl, vwD_non, vwD_tup, vwD_lst, vwD_dct, vwD_loc, vwO_lst, vwO_dct, setSl_v, setSl_nl, setSl_nd, setSl_sl, slS_ol, slS_od, pat_n, pat_t, pat_tl, pats_nil, pats_cons,
  oAdd_i, oSub_i, oNeg_i, cLt_i, cLe_i, cGt_i, cGe_i, bLen_l, bLen_t, bLen_k, bTuple_l, bTuple_t, bList_l, bList_t, bInt_i, oIx_l, oIx_t, oIx_k, kvO_some, kk_int, kk_str, isTy_int, isTy_tup, isTy_bl, isTy_str, isTy_non, isTy_l, isTy_k, vwDD, frozen_t, frozen_l, bind_some', map_some', map_none', start1, start2, start3, start4,
  retQ_rt, retQ_nx, get0, getS, set0, setS, List.replicate, List.length_cons, List.length_nil, Nat.reduceAdd, Nat.reduceSub, Nat.reduceMul, Nat.reduceLeDiff, isL_l, isK_k, Option.bind_some, if_true, if_false, ite_true, ite_false, Bool.not_true, Bool.not_false, true_and, and_true, Option.map_some, Option.map_none, reduceIte, reduceCtorEq, decide_true, decide_false, vwLD, vwKD, sz0, sz1, sz2, sz3, sz4, sz5, sz6, sz7, sz8, sz9, sz10, joinQ_nx, joinQ_rt, joinQ_bk, joinQ_ct, reel_deep, reel_cells, reel_stamp, reel_count, reel_set, cEq_i, cNe_i, cNe_b, cEq_tI, cNe_tI, cIn_t, cIn_l, cNotIn_t, cNotIn_l, List.length_map, oMul_r, oMul_l, oMod_i, oFdiv_i, oPow_i, lAppend_one, rgQ_i, rgQ2_i, W_forL_nil, W_forL_cons, wipeM_mk, wipeS_nil, wipeS_cons, backS_nil, backS_cons, keptS_un, keptS_val, keptS_ol, keptS_od, oCut_l, oCut_t, Int.toNat_natCast, forall_const, imp_self, atI_pos, Int.reduceToNat, bSorted_ints, bMin_ints, bMax_ints, cut_map, rng_0, rng_1, rng_2, rng_3, rng_4, rng_5, rng_6, rng_7, rng_8, rng_9, rng_10, rng_11, rng_12, rng_13, rng_14, rng_15, rng_16, rng_32, rng_64])

theorem erase_perm {α : Type} : ∀ {l : List α} {i : Nat} {x : α}, l[i]? = some x → (l.eraseIdx i ++ [x]).Perm l
  | [], _, _, h => by simp at h
  | y :: l, 0, x, h => by
    simp at h
    subst h
    rw [List.eraseIdx_cons_zero]
    exact List.perm_append_comm
  | y :: l, i + 1, x, h => by
    rw [List.eraseIdx_cons_succ, List.cons_append]
    exact List.Perm.cons y (erase_perm (by simpa using h))
/-- a list or a tuple, for good -/
def Sq (d : D) (xs : List D) : Prop := d = .lst xs ∨ d = .tup xs
theorem pick_ok {P : List Cd} {wf k i iD : Nat} {S : List Ob} {d : D} {xs : List D} {Q : Op → List Ob → Prop} (h : P[i]? = some ⟨b_law_pick iD, 2, 2⟩) (hD : P[iD]? = some ⟨b_law_draw, 2, 8⟩) (hS : RW S) (hd : Sq d xs) (h0 : 0 < xs.length)
    (h1 : xs.length ≤ 1000000) (q : ∀ x S', x ∈ xs → RW S' → Q (.v x) S') : WC (ctK P wf (k + 2) i [.loc 1, d] S) Q := by
  refine WC_ct h rfl ?_
  unfold b_law_pick
  have fin : ∀ (z : Int) (S' : List Ob), 0 ≤ z → z < (xs.length : Nat) → RW S' → ∃ x, L2.atI xs z = some x ∧ Q (.v x) S' := fun z S' h2 h3 h4 => by
    obtain ⟨x, e1, e2⟩ := atI_of h2 h3
    exact ⟨x, e1, q x S' e2 h4⟩
  rcases hd with rfl | rfl
  · walk_at "kd"
    refine draw_ok hD hS (by omega) (by omega) fun z S' h2 h3 h4 => ?_
    obtain ⟨x, e1, e2⟩ := fin z S' h2 h3 h4
    walk_at "kd"
    rw [e1]
    walk_at "kd"
    exact e2
  · walk_at "kd"
    refine draw_ok hD hS (by omega) (by omega) fun z S' h2 h3 h4 => ?_
    obtain ⟨x, e1, e2⟩ := fin z S' h2 h3 h4
    walk_at "kd"
    rw [e1]
    walk_at "kd"
    exact e2
theorem mixed_ok {P : List Cd} {wf k i iD : Nat} {S : List Ob} {d : D} {xs : List D} {Q : Op → List Ob → Prop} (h : P[i]? = some ⟨b_law_mixed iD, 2, 4⟩) (hD : P[iD]? = some ⟨b_law_draw, 2, 8⟩) (hS : RW S) (hd : Sq d xs)
    (h1 : xs.length < wf) (h2 : xs.length ≤ 1000000) (ho : ∀ x ∈ xs, okd x = true) (q : ∀ ys S', ys.Perm xs → RW S' → Q (.nl ys) S') : WC (ctK P wf (k + 2) i [.loc 1, d] S) Q := by
  refine WC_ct h rfl ?_
  unfold b_law_mixed
  refine W_step (fun m => m = ⟨[.val (.loc 1), .val d, .ol xs, .ol []], S⟩) ?_ ?_
  · rcases hd with rfl | rfl <;> walk_at "kd"
  rintro m1 rfl
  rw [W_seq]
  refine W_while (fun n m => ∃ left found S', n = left.length ∧ (left ++ found).Perm xs ∧ RW S' ∧ m = ⟨[.val (.loc 1), .val d, .ol left, .ol found], S'⟩) xs.length ⟨xs, [], S, rfl, by rw [List.append_nil], hS, rfl⟩ h1 ?_
  rintro n m hn ⟨left, found, S', rfl, hp, hS', rfl⟩
  have hm : ∀ x ∈ left, okd x = true := fun x hx => ho x (hp.subset (List.mem_append_left _ hx))
  have hl := hp.length_eq
  rw [List.length_append] at hl
  walk_at "kd"
  rw [cNe_nil hm]
  walk_at "kd"
  refine W_tf (fun hd => ?_) (fun hd => ?_)
  · have hne : left ≠ [] := by simpa using hd
    have hpos := List.length_pos_iff.mpr hne
    walk_at "kd"
    refine draw_ok hD hS' (by omega) (by omega) fun z S2 z1 z2 hS2 => ?_
    obtain ⟨x, e1, e2⟩ := lPop_at z1 z2 (by omega)
    walk_at "kd"
    rw [e2]
    walk_at "kd"
    rw [lAppend_one _ _ (Nat.lt_of_le_of_lt (by omega : found.length ≤ 1000000) (by decide))]
    walk_at "kd"
    have hlt : z.toNat < left.length := by omega
    refine ⟨_, ?_, left.eraseIdx z.toNat, found ++ [x], S2, rfl, ?_, hS2, rfl⟩
    · rw [List.length_eraseIdx_of_lt hlt]; omega
    · refine List.Perm.trans ?_ hp
      rw [← List.append_assoc]
      have e4 := erase_perm e1
      have e5 : (left.eraseIdx z.toNat ++ found ++ [x]).Perm (left.eraseIdx z.toNat ++ [x] ++ found) := by
        rw [List.append_assoc, List.append_assoc]
        exact List.Perm.append_left _ List.perm_append_comm
      exact e5.trans (e4.append_right found)
  · have hz : left = [] := by simpa using hd
    subst hz
    walk_at "kd"
    exact q found S' (by simpa using hp) hS'
end Kd

namespace Kd
open PySem
local macro_rules | `(tactic| walk_at "kd") => `(tactic| try simp -dsimp +decide only [W_ok, W_seq, seqQ_nx, seqQ_rt, seqQ_bk, seqQ_ct, W_asg, stQ_some, W_un, W_par2, W_exp, W_ret, rtQ_v, rtQ_nl, rtQ_nd, rtQ_slot, rtS_ol, rtS_od, W_retN, W_skip, W_brk, W_cnt, W_if, ifQ_t, ifQ_f, okQ_some, W_of, W_eC, W_eVar,
  vaQ_val, vaQ_ol, vaQ_od, W_eF, W_fz_v, W_fz_nl, W_fz_nd, W_fz, fzQ_val, fzQ_ol, fzQ_od, W_fzS_v, W_fzS_nl, W_fzS_nd, W_fzS_sl, W_list_nil, W_list_cons, W_tup, W_lst, W_e1, W_e2, W_t1, W_t2, W_t3, tfQ_t, tfQ_f, W_eB, boQ_bl, W_tE, W_tNot, W_and_nil, W_or_nil, W_and, W_or,
  W_eand1, W_eor1, W_eand, W_eor, W_eIf, W_tIf, W_optN, W_optS, inQ_i, W_slice, W_call, W_callK, W_share, shQ_nl, shQ_nd, W_rng1, W_rng2, W_seqI, W_enumI, W_zipI, W_lstI, W_for, turnQ_nx, turnQ_ct, turnQ_bk, turnQ_rt, W_mutL, W_mut, muQ_ol, W_mutO, muO_lst, W_mutD, mdQ_od, W_mutDO, mdO_dct, W_meth, W_set, setQ_eq, setV_l, setV_k,
  W_kvs_nil, W_kvs_cons, W_dct, W_dctZ, W_comp, vw_v, vw_nl, vw_nd, vw_sl, vwS_ol, vwS_od, vwD_int, vwD_str, vwD_bl, vwD_non, vwD_tup, vwD_lst, vwD_dct, vwD_loc, vwO_lst, vwO_dct, setSl_v, setSl_nl, setSl_nd, setSl_sl, slS_ol, slS_od, pat_n, pat_t, pat_tl, pats_nil, pats_cons,
  oAdd_i, oSub_i, oNeg_i, cLt_i, cLe_i, cGt_i, cGe_i, bLen_l, bLen_t, bLen_k, bTuple_l, bTuple_t, bList_l, bList_t, bInt_i, oIx_l, oIx_t, oIx_k, kvO_some, kk_int, kk_str, isTy_int, isTy_tup, isTy_bl, isTy_str, isTy_non, isTy_l, isTy_k, vwDD, frozen_t, frozen_l, bind_some', map_some', map_none', start1, start2, start3, start4,
  retQ_rt, retQ_nx, get0, getS, set0, setS, List.replicate, List.length_cons, List.length_nil, Nat.reduceAdd, Nat.reduceSub, Nat.reduceMul, Nat.reduceLeDiff, isL_l, isK_k, Option.bind_some, if_true, if_false, ite_true, ite_false, Bool.not_true, Bool.not_false, true_and, and_true, Option.map_some, Option.map_none, reduceIte, reduceCtorEq, decide_true, decide_false, vwLD, vwKD, sz0, sz1, sz2, sz3, sz4, sz5, sz6, sz7, sz8, sz9, sz10, joinQ_nx, joinQ_rt, joinQ_bk, joinQ_ct, reel_deep, reel_cells, reel_stamp, reel_count, reel_set, cEq_i, cNe_i, cNe_b, cEq_tI, cNe_tI, cIn_t, cIn_l, cNotIn_t, cNotIn_l, List.length_map, oMul_r, oMul_l, oMod_i, oFdiv_i, oPow_i, lAppend_one, rgQ_i, rgQ2_i, W_forL_nil, W_forL_cons, wipeM_mk, wipeS_nil, wipeS_cons, backS_nil, backS_cons, keptS_un, keptS_val, keptS_ol, keptS_od, oCut_l, oCut_t, Int.toNat_natCast, forall_const, imp_self, atI_pos, Int.reduceToNat, bSorted_ints, bMin_ints, bMax_ints, cut_map, rng_0, rng_1, rng_2, rng_3, rng_4, rng_5, rng_6, rng_7, rng_8, rng_9, rng_10, rng_11, rng_12, rng_13, rng_14, rng_15, rng_16, rng_32, rng_64])

theorem cut63 {α : Type} {xs : List α} (h : xs.length ≤ 63) : cutD xs none (some 63) = xs := by
  unfold cutD
  have e : HT.sIx xs.length xs.length (some 63) = min 63 xs.length := HT.sIx_nat _ _ 63
  rw [e, HT.sIx_none, List.drop_zero, List.take_of_length_le (by omega)]
theorem reel_ok {P : List Cd} {wf k i : Nat} {ns : List Int} {Q : Op → List Ob → Prop} (h : P[i]? = some ⟨b_law_reel, 1, 5⟩) (hl : ns.length ≤ 63) (q : ∀ S', RW S' → Q (.v (.loc 1)) S') : WC (ctK P wf (k + 1) i [.lst (ns.map .int)] []) Q := by
  refine WC_ct h rfl ?_
  unfold b_law_reel
  refine W_step (fun m => ∃ cells : List Int, cells.length ≤ 63 ∧ m = ⟨[.val (.lst (ns.map .int)), .un, .un, .ol (cells.map .int), .val (.int ((ns.length : Nat) + 7))], []⟩) ?_ ?_
  · walk_at "kd"
    rw [cut63 hl]
    walk_at "kd"
    refine W_compM D.int (fun x => some (if x ≥ 0 then 2 * x else -2 * x - 1)) (Nat.le_trans hl (by decide)) (fun b hb => ?_) ?_
    · walk_at "kd"
      refine W_tf (fun hc => ?_) (fun hc => ?_)
      · walk_at "kd"
        refine ⟨_, rfl, ?_⟩
        rw [if_pos (by simpa using hc)]
      · walk_at "kd"
        refine ⟨_, rfl, ?_⟩
        rw [if_neg (by simpa using hc)]
    · walk_at "kd"
      exact ⟨_, Nat.le_trans (List.length_filterMap_le _ _) hl, rfl⟩
  rintro m1 ⟨cells, hc, rfl⟩
  refine W_step (fun m => ∃ (u : Int) (s : Sl), 0 ≤ u ∧ u < 4294967296 ∧ m = ⟨[.val (.lst (ns.map .int)), s, .un, .val (.lst (cells.map .int)), .val (.int u)], []⟩) ?_ ?_
  · walk_at "kd"
    refine W_forL (fun _ m => ∃ (u : Int) (s : Sl), 0 ≤ u ∧ u < 4294967296 ∧ m = ⟨[.val (.lst (ns.map .int)), s, .un, .val (.lst (cells.map .int)), .val (.int u)], []⟩) ?_ ?_ ?_
    · exact ⟨_, _, by omega, by omega, rfl⟩
    · rintro i x m hx ⟨u, s, u1, u2, rfl⟩
      obtain ⟨y, rfl, _⟩ := int_mem (List.mem_of_getElem? hx)
      walk_at "kd"
      exact ⟨_, _, Int.emod_nonneg _ (by decide), Int.lt_trans (Int.emod_lt_of_pos _ (by decide)) (by decide), rfl⟩
    · rintro m ⟨u, s, u1, u2, rfl⟩
      rw [joinQ_nx]
      exact ⟨u, s, u1, u2, rfl⟩
  rintro m1 ⟨u, s, u1, u2, rfl⟩
  refine W_step (fun m => ∃ (deep : List Int) (s : Sl), deep.length ≤ 63 ∧ m = ⟨[.val (.lst (ns.map .int)), s, .val (.loc 0), .val (.lst (cells.map .int)), .val (.int u)], [.lst (deep.map .int)]⟩) ?_ ?_
  · walk_at "kd"
    refine W_compM D.int (fun x => if x ≥ 10 ^ (18 : Int).toNat then some x else none) (Nat.le_trans hc (by decide)) (fun b hb => ?_) ?_
    · walk_at "kd"
      refine W_tf (fun hc => ?_) (fun hc => ?_)
      · walk_at "kd"
        refine ⟨b, ?_, rfl⟩
        rw [if_pos (by simpa using hc)]
      · walk_at "kd"
        rw [if_neg (by simpa using hc)]
    · walk_at "kd"
      exact ⟨_, _, Nat.le_trans (List.length_filterMap_le _ _) hc, rfl⟩
  rintro m1 ⟨deep, s, hd, rfl⟩
  walk_at "kd"
  rw [oAdd_l (by rw [List.length_map]; exact Nat.le_trans (by simp; omega : cells.length + [D.int (2 * (cells.length : Nat) + 1)].length ≤ 100) (by decide))]
  walk_at "kd"
  rw [if_pos (by rfl)]
  exact q _ ⟨deep, cells ++ [2 * ((cells.length : Nat) : Int) + 1], u, 0, by rw [reelD, List.map_append]; rfl, by simp, u1, u2, by omega⟩
end Kd

namespace Kd
open PySem
abbrev tI (xs : List Int) : D := .tup (xs.map .int)
abbrev tT (ts : List (List Int)) : D := .tup (ts.map tI)
/-- the lots one longer -/
def longer (n : Nat) (ls : List (List Int)) : List (List Int) := ls.flatMap fun l => ((rgI n).filter fun x => l.all fun y => decide (y < x)).map fun x => l ++ [x]
def lotsBy (n : Nat) : Nat → List (List Int) × List (List Int)
  | 0 => ([[]], [[]])
  | k + 1 => (longer n (lotsBy n k).1, (lotsBy n k).2 ++ longer n (lotsBy n k).1)
def lotsI (n : Nat) : List (List Int) := (lotsBy n n).2
def keyI (l : List Int) : KK := .t (l.map .i)
def spotsFrom : Nat → List (List Int) → Kvs
  | _, [] => []
  | j, l :: r => (keyI l, .int (j : Nat)) :: spotsFrom (j + 1) r
def spotsI (n : Nat) : Kvs := spotsFrom 0 (lotsI n)
def worldK (n : Nat) : Kvs := [(.s "n", .int (n : Nat)), (.s "lots", .lst ((lotsI n).map tI)), (.s "spots", .dct (spotsI n))]
def Six (n : Nat) : Prop := n = 5 ∨ n = 6
theorem w_n (n : Nat) : valD (worldK n) (.s "n") = some (.int (n : Nat)) := by rfl
theorem w_lots (n : Nat) : valD (worldK n) (.s "lots") = some (.lst ((lotsI n).map tI)) := by rfl
theorem w_spots (n : Nat) : valD (worldK n) (.s "spots") = some (.dct (spotsI n)) := by rfl
theorem lots_len5 : (lotsI 5).length = 32 := by decide +kernel
theorem lots_len6 : (lotsI 6).length = 64 := by decide +kernel
theorem six_len {n : Nat} (h : Six n) : (lotsI n).length = 2 ^ n := by
  rcases h with rfl | rfl
  · exact lots_len5
  · exact lots_len6
/-- the parts of n places -/
def subI (n : Nat) (p : Int → Bool) : List Int := (rgI n).filter p
def sub5 (a b c d e : Bool) : List Int := ([(0, a), (1, b), (2, c), (3, d), (4, e)] : List (Int × Bool)).filterMap fun z => if z.2 then some z.1 else none
def sub6 (a b c d e f : Bool) : List Int := ([(0, a), (1, b), (2, c), (3, d), (4, e), (5, f)] : List (Int × Bool)).filterMap fun z => if z.2 then some z.1 else none
theorem sub5_eq (p : Int → Bool) : subI 5 p = sub5 (p 0) (p 1) (p 2) (p 3) (p 4) := by
  show ([0, 1, 2, 3, 4] : List Int).filter p = _
  unfold sub5
  simp only [List.filter_cons, List.filter_nil, List.filterMap_cons, List.filterMap_nil]
  cases p 0 <;> cases p 1 <;> cases p 2 <;> cases p 3 <;> cases p 4 <;> rfl
theorem sub6_eq (p : Int → Bool) : subI 6 p = sub6 (p 0) (p 1) (p 2) (p 3) (p 4) (p 5) := by
  show ([0, 1, 2, 3, 4, 5] : List Int).filter p = _
  unfold sub6
  simp only [List.filter_cons, List.filter_nil, List.filterMap_cons, List.filterMap_nil]
  cases p 0 <;> cases p 1 <;> cases p 2 <;> cases p 3 <;> cases p 4 <;> cases p 5 <;> rfl
def isSpot (v : Option D) : Option Nat := match v with
  | some (.int i) => if 0 ≤ i then some i.toNat else none
  | _ => none
def spotOk (n : Nat) (l : List Int) : Bool := match isSpot (valD (spotsI n) (keyI l)) with
  | some j => decide ((lotsI n)[j]? = some l)
  | none => false
theorem spot5 : ∀ a b c d e : Bool, spotOk 5 (sub5 a b c d e) = true := by decide +kernel
theorem spot6 : ∀ a b c d e f : Bool, spotOk 6 (sub6 a b c d e f) = true := by decide +kernel
theorem spot_of {n : Nat} (h : Six n) (p : Int → Bool) : ∃ j : Nat, valD (spotsI n) (keyI (subI n p)) = some (.int (j : Nat)) ∧ (lotsI n)[j]? = some (subI n p) := by
  have key : spotOk n (subI n p) = true := by
    rcases h with rfl | rfl
    · rw [sub5_eq]; exact spot5 _ _ _ _ _
    · rw [sub6_eq]; exact spot6 _ _ _ _ _ _
  unfold spotOk at key
  cases e : valD (spotsI n) (keyI (subI n p)) with
  | none => rw [e] at key; cases key
  | some v =>
    rw [e] at key
    cases v with
    | int i =>
      by_cases h0 : 0 ≤ i
      · have e2 : isSpot (some (.int i)) = some i.toNat := by
          show (if 0 ≤ i then some i.toNat else none) = _
          rw [if_pos h0]
        rw [e2] at key
        exact ⟨i.toNat, by rw [Int.toNat_of_nonneg h0], by simpa using key⟩
      · have e2 : isSpot (some (.int i)) = none := by
          show (if 0 ≤ i then some i.toNat else none) = _
          rw [if_neg h0]
        rw [e2] at key
        cases key
    | _ => cases key
theorem kk_tI (l : List Int) : (tI l).kk = some (keyI l) := by
  have key : ∀ l : List Int, D.kks (l.map D.int) = some (l.map KK.i) := by
    intro l
    induction l with
    | nil => simp only [List.map_nil, D.kks]
    | cons x l ih => simp only [List.map_cons, D.kks, D.kk, ih]
  show D.kk (.tup (l.map D.int)) = _
  simp only [D.kk, key, Option.map_some, keyI]
/-- the law's world, by running it -/
theorem world_run5 (nv : Nv) (S : List Ob) (Q : Op → List Ob → Prop) : W (b_law_world nv (startM 7 [.int 5] S)) (retQ Q) = Q (.nd (worldK 5)) S := by kernel_rfl
theorem world_run6 (nv : Nv) (S : List Ob) (Q : Op → List Ob → Prop) : W (b_law_world nv (startM 7 [.int 6] S)) (retQ Q) = Q (.nd (worldK 6)) S := by kernel_rfl
end Kd

namespace Kd
open PySem
/-- the places that no entry leads to -/
def endI (n : Nat) (e : List Int) : List Int := subI n fun x => decide (x ∉ e)
/-- an entry of a lot -/
structure Ent (n : Nat) (lot e : List Int) : Prop where
  len : e.length = n
  neg : ∀ (x : Nat) (v : Int), e[x]? = some v → (v = -1 ↔ (x : Int) ∈ lot)
  rng : ∀ v ∈ e, -1 ≤ v ∧ v < n
  inj : ∀ (i j : Nat) (v : Int), e[i]? = some v → e[j]? = some v → 0 ≤ v → i = j
/-- a table of all lots -/
structure Tab (n : Nat) (ts : List (List Int)) : Prop where
  len : ts.length = (lotsI n).length
  ent : ∀ (k : Nat) (lot e : List Int), (lotsI n)[k]? = some lot → ts[k]? = some e → Ent n lot e
def stayI (n : Nat) (lot : List Int) : List Int := (rgI n).map fun x => if x ∈ lot then -1 else x
theorem rgI_get {n x : Nat} : (rgI n)[x]? = if x < n then some (x : Int) else none := by
  unfold rgI
  rw [List.getElem?_map]
  by_cases h : x < n
  · rw [List.getElem?_range h, if_pos h]; rfl
  · rw [if_neg h, List.getElem?_eq_none (by rw [List.length_range]; omega)]; rfl
theorem ent_stay (n : Nat) (lot : List Int) : Ent n lot (stayI n lot) := by
  have get : ∀ (x : Nat) (v : Int), (stayI n lot)[x]? = some v → x < n ∧ v = if (x : Int) ∈ lot then -1 else (x : Int) := fun x v h => by
    unfold stayI at h
    rw [List.getElem?_map, rgI_get] at h
    by_cases hx : x < n
    · rw [if_pos hx] at h
      exact ⟨hx, (Option.some.inj h).symm⟩
    · rw [if_neg hx] at h; cases h
  refine ⟨by unfold stayI; rw [List.length_map, rgI_len], fun x v h => ?_, fun v h => ?_, fun i j v h1 h2 h3 => ?_⟩
  · obtain ⟨hx, rfl⟩ := get x v h
    by_cases hl : (x : Int) ∈ lot
    · simp [hl]
    · rw [if_neg hl]
      constructor
      · intro z; omega
      · intro z; exact absurd z hl
  · obtain ⟨x, hx⟩ := List.mem_iff_getElem?.mp h
    obtain ⟨hx, rfl⟩ := get x v hx
    split <;> omega
  · obtain ⟨a1, a2⟩ := get i v h1
    obtain ⟨b1, b2⟩ := get j v h2
    split at a2
    · omega
    · split at b2
      · omega
      · omega
def swapI (a b y : Int) : Int := if y = a then b else if y = b then a else y
theorem swapI_inv {a b y z : Int} (h : swapI a b y = swapI a b z) : y = z := by
  unfold swapI at h
  split at h <;> split at h <;> (try split at h) <;> (try split at h) <;> omega
theorem ent_swap {n : Nat} {lot e : List Int} {a b : Int} (E : Ent n lot e) (ha : 0 ≤ a) (ha2 : a < n) (hb : 0 ≤ b) (hb2 : b < n) : Ent n lot (e.map (swapI a b)) := by
  have key : ∀ v : Int, (swapI a b v = -1 ↔ v = -1) ∧ (-1 ≤ v ∧ v < n → -1 ≤ swapI a b v ∧ swapI a b v < n) ∧ (0 ≤ swapI a b v → 0 ≤ v ∨ v = -1 ∨ v < -1) := fun v => by
    unfold swapI
    split <;> (try split) <;> omega
  refine ⟨by rw [List.length_map, E.len], fun x v h => ?_, fun v h => ?_, fun i j v h1 h2 h3 => ?_⟩
  · rw [List.getElem?_map, Option.map_eq_some_iff] at h
    obtain ⟨u, h1, h2⟩ := h
    subst h2
    exact (key u).1.trans (E.neg x u h1)
  · rw [List.mem_map] at h
    obtain ⟨u, h1, h2⟩ := h
    subst h2
    exact (key u).2.1 (E.rng u h1)
  · rw [List.getElem?_map, Option.map_eq_some_iff] at h1 h2
    obtain ⟨u, h1, e1⟩ := h1
    obtain ⟨w, h2, e2⟩ := h2
    have := swapI_inv (e1.trans e2.symm)
    subst this
    refine E.inj i j u h1 h2 ?_
    have hu := E.rng u (List.mem_of_getElem? h1)
    by_cases z : u = -1
    · have := (key u).1.mpr z
      omega
    · omega
theorem mem_endI {n : Nat} {e : List Int} {x : Int} : x ∈ endI n e ↔ (0 ≤ x ∧ x < n) ∧ x ∉ e := by
  unfold endI subI
  rw [List.mem_filter, rgI_mem, decide_eq_true_eq]
/-- one entry, then what the table says -/
def thenI (f e : List Int) : List Int := e.map fun y => if y < 0 then -1 else (f[y.toNat]?).getD 0
theorem ent_then {n : Nat} {lot e f : List Int} (E : Ent n lot e) (F : Ent n (endI n e) f) : Ent n lot (thenI f e) := by
  have get : ∀ (x : Nat) (v : Int), (thenI f e)[x]? = some v → ∃ y, e[x]? = some y ∧ ((y = -1 ∧ v = -1) ∨ (0 ≤ y ∧ f[y.toNat]? = some v ∧ 0 ≤ v ∧ v < n)) := fun x v h => by
    unfold thenI at h
    rw [List.getElem?_map, Option.map_eq_some_iff] at h
    obtain ⟨y, h1, h2⟩ := h
    refine ⟨y, h1, ?_⟩
    have hy := E.rng y (List.mem_of_getElem? h1)
    split at h2
    · exact .inl ⟨by omega, h2.symm⟩
    · rename_i h0
      have h3 : y.toNat < f.length := by rw [F.len]; omega
      rw [List.getElem?_eq_getElem h3] at h2 ⊢
      have h2' : f[y.toNat] = v := h2
      have hv := F.rng _ (List.getElem_mem h3)
      have hn := F.neg y.toNat _ (List.getElem?_eq_getElem h3)
      rw [h2'] at hv hn
      refine .inr ⟨by omega, by rw [h2'], ?_, hv.2⟩
      have : ¬ v = -1 := fun z => by
        have q := hn.mp z
        rw [mem_endI] at q
        have e5 : ((y.toNat : Nat) : Int) = y := by omega
        rw [e5] at q
        exact q.2 (List.mem_of_getElem? h1)
      omega
  refine ⟨by unfold thenI; rw [List.length_map, E.len], fun x v h => ?_, fun v h => ?_, fun i j v h1 h2 h3 => ?_⟩
  · obtain ⟨y, h1, h2⟩ := get x v h
    rw [← E.neg x y h1]
    rcases h2 with ⟨h2, h3⟩ | ⟨h2, _, h3, _⟩ <;> omega
  · obtain ⟨x, hx⟩ := List.mem_iff_getElem?.mp h
    obtain ⟨y, h1, h2⟩ := get x v hx
    rcases h2 with ⟨h2, h3⟩ | ⟨h2, _, h3, h4⟩ <;> omega
  · obtain ⟨y, a1, a2⟩ := get i v h1
    obtain ⟨z, b1, b2⟩ := get j v h2
    rcases a2 with ⟨_, q⟩ | ⟨a2, a3, _, _⟩
    · omega
    · rcases b2 with ⟨_, q⟩ | ⟨b2, b3, _, _⟩
      · omega
      · have := F.inj _ _ v a3 b3 h3
        have e0 : y = z := by omega
        subst e0
        exact E.inj i j y a1 b1 a2
/-! ### counting -/
theorem sub_len {α : Type} [DecidableEq α] : ∀ {l m : List α}, l.Nodup → (∀ x ∈ l, x ∈ m) → l.length ≤ m.length
  | [], _, _, _ => Nat.zero_le _
  | x :: l, m, hn, h => by
    rw [List.nodup_cons] at hn
    have hx := h x (List.mem_cons_self ..)
    have q := sub_len (l := l) (m := m.erase x) hn.2 fun y hy => by
      have hy2 := h y (List.mem_cons_of_mem _ hy)
      have ne : y ≠ x := fun e => hn.1 (e ▸ hy)
      exact (List.mem_erase_of_ne ne).mpr hy2
    rw [List.length_erase_of_mem hx] at q
    have := List.length_pos_of_mem hx
    rw [List.length_cons]
    omega
theorem filter_two {α : Type} (p : α → Bool) : ∀ l : List α, (l.filter p).length + (l.filter fun x => !p x).length = l.length
  | [] => rfl
  | x :: l => by
    have q := filter_two p l
    rw [List.filter_cons, List.filter_cons]
    cases h : p x <;> simp <;> omega
/-- the nonnegative items of an entry are pairwise unlike -/
theorem ent_nodup {n : Nat} {lot e : List Int} (E : Ent n lot e) : (e.filter fun v => decide (0 ≤ v)).Nodup := by
  have key : ∀ (l : List Int), (∀ (i j : Nat) (v : Int), l[i]? = some v → l[j]? = some v → 0 ≤ v → i = j) → (l.filter fun v => decide (0 ≤ v)).Nodup := by
    intro l
    induction l with
    | nil => intro _; exact List.nodup_nil
    | cons x l ih =>
      intro h
      have q := ih fun i j v h1 h2 h3 => by
        have := h (i + 1) (j + 1) v (by simpa using h1) (by simpa using h2) h3
        omega
      rw [List.filter_cons]
      by_cases hx : 0 ≤ x
      · rw [if_pos (decide_eq_true hx), List.nodup_cons]
        refine ⟨fun z => ?_, q⟩
        rw [List.mem_filter] at z
        obtain ⟨j, hj⟩ := List.mem_iff_getElem?.mp z.1
        have := h 0 (j + 1) x (by simp) (by simpa using hj) hx
        omega
      · rw [if_neg (by simpa using hx)]
        exact q
  exact key e E.inj
/-- as many places lead nowhere as lot has -/
theorem end_len {n : Nat} {lot e : List Int} (E : Ent n lot e) : (endI n e).length + (e.filter fun v => decide (0 ≤ v)).length = n := by
  have h1 := filter_two (fun x => decide (x ∉ e)) (rgI n)
  rw [rgI_len] at h1
  have h2 : ((rgI n).filter fun x => !decide (x ∉ e)).length = (e.filter fun v => decide (0 ≤ v)).length := by
    refine Nat.le_antisymm ?_ ?_
    · refine sub_len ((rgI_nodup n).sublist List.filter_sublist) fun x hx => ?_
      rw [List.mem_filter] at hx ⊢
      have := rgI_mem.mp hx.1
      have h3 : x ∈ e := by simpa using hx.2
      exact ⟨h3, by simpa using this.1⟩
    · refine sub_len (ent_nodup E) fun x hx => ?_
      rw [List.mem_filter] at hx ⊢
      have := E.rng x hx.1
      have h3 : 0 ≤ x := by simpa using hx.2
      exact ⟨rgI_mem.mpr ⟨h3, this.2⟩, by simpa using hx.1⟩
  unfold endI subI
  omega
theorem neg_len : ∀ (e lot : List Int) (k : Nat), (∀ (x : Nat) (v : Int), e[x]? = some v → (v = -1 ↔ ((x + k : Nat) : Int) ∈ lot) ∧ -1 ≤ v) →
    (e.filter fun v => decide (0 ≤ v)).length = (((List.range e.length).map fun (i : Nat) => ((i + k : Nat) : Int)).filter fun x => decide (x ∉ lot)).length
  | [], _, _, _ => rfl
  | v :: e, lot, k, h => by
    have q := neg_len e lot (k + 1) fun x w hw => by
      have := h (x + 1) w (by simpa using hw)
      rw [show x + (k + 1) = x + 1 + k by omega]
      exact this
    have h0 := h 0 v (by simp)
    rw [List.length_cons, List.range_succ_eq_map, List.map_cons, List.map_map]
    have e1 : ((fun (i : Nat) => ((i + k : Nat) : Int)) ∘ Nat.succ) = fun (i : Nat) => ((i + (k + 1) : Nat) : Int) := by
      funext i
      show (((i + 1) + k : Nat) : Int) = _
      congr 1
      omega
    rw [e1, List.filter_cons, List.filter_cons]
    by_cases hv : 0 ≤ v
    · have : ((0 + k : Nat) : Int) ∉ lot := fun z => by
        have := h0.1.mpr z
        omega
      rw [if_pos (decide_eq_true hv), if_pos (decide_eq_true this), List.length_cons, List.length_cons, q]
    · have : ((0 + k : Nat) : Int) ∈ lot := h0.1.mp (by omega)
      rw [if_neg (by simpa using hv), if_neg (by simpa using this), q]
theorem pos_len {n : Nat} {lot e : List Int} (E : Ent n lot e) : (e.filter fun v => decide (0 ≤ v)).length = (subI n fun x => decide (x ∉ lot)).length := by
  have q := neg_len e lot 0 fun x v h => ⟨by simpa using E.neg x v h, (E.rng v (List.mem_of_getElem? h)).1⟩
  rw [E.len] at q
  unfold subI rgI
  simpa using q
end Kd

namespace Kd
open PySem
local macro_rules | `(tactic| walk_at "kd") => `(tactic| try simp -dsimp +decide only [W_ok, W_seq, seqQ_nx, seqQ_rt, seqQ_bk, seqQ_ct, W_asg, stQ_some, W_un, W_par2, W_exp, W_ret, rtQ_v, rtQ_nl, rtQ_nd, rtQ_slot, rtS_ol, rtS_od, W_retN, W_skip, W_brk, W_cnt, W_if, ifQ_t, ifQ_f, okQ_some, W_of, W_eC, W_eVar,
  vaQ_val, vaQ_ol, vaQ_od, W_eF, W_fz_v, W_fz_nl, W_fz_nd, W_fz, fzQ_val, fzQ_ol, fzQ_od, W_fzS_v, W_fzS_nl, W_fzS_nd, W_fzS_sl, W_list_nil, W_list_cons, W_tup, W_lst, W_e1, W_e2, W_t1, W_t2, W_t3, tfQ_t, tfQ_f, W_eB, boQ_bl, W_tE, W_tNot, W_and_nil, W_or_nil, W_and, W_or,
  W_eand1, W_eor1, W_eand, W_eor, W_eIf, W_tIf, W_optN, W_optS, inQ_i, W_slice, W_call, W_callK, W_share, shQ_nl, shQ_nd, W_rng1, W_rng2, W_seqI, W_enumI, W_zipI, W_lstI, W_for, turnQ_nx, turnQ_ct, turnQ_bk, turnQ_rt, W_mutL, W_mut, muQ_ol, W_mutO, muO_lst, W_mutD, mdQ_od, W_mutDO, mdO_dct, W_meth, W_set, setQ_eq, setV_l, setV_k,
  W_kvs_nil, W_kvs_cons, W_dct, W_dctZ, W_comp, vw_v, vw_nl, vw_nd, vw_sl, vwS_ol, vwS_od, vwD_int, vwD_str, vwD_bl, vwD_non, vwD_tup, vwD_lst, vwD_dct, vwD_loc, vwO_lst, vwO_dct, setSl_v, setSl_nl, setSl_nd, setSl_sl, slS_ol, slS_od, pat_n, pat_t, pat_tl, pats_nil, pats_cons,
  oAdd_i, oSub_i, oNeg_i, cLt_i, cLe_i, cGt_i, cGe_i, bLen_l, bLen_t, bLen_k, bTuple_l, bTuple_t, bList_l, bList_t, bInt_i, oIx_l, oIx_t, oIx_k, kvO_some, kk_int, kk_str, isTy_int, isTy_tup, isTy_bl, isTy_str, isTy_non, isTy_l, isTy_k, vwDD, frozen_t, frozen_l, bind_some', map_some', map_none', start1, start2, start3, start4,
  retQ_rt, retQ_nx, get0, getS, set0, setS, List.replicate, List.length_cons, List.length_nil, Nat.reduceAdd, Nat.reduceSub, Nat.reduceMul, Nat.reduceLeDiff, isL_l, isK_k, Option.bind_some, if_true, if_false, ite_true, ite_false, Bool.not_true, Bool.not_false, true_and, and_true, Option.map_some, Option.map_none, reduceIte, reduceCtorEq, decide_true, decide_false, vwLD, vwKD, sz0, sz1, sz2, sz3, sz4, sz5, sz6, sz7, sz8, sz9, sz10, joinQ_nx, joinQ_rt, joinQ_bk, joinQ_ct, reel_deep, reel_cells, reel_stamp, reel_count, reel_set, cEq_i, cNe_i, cNe_b, cEq_tI, cNe_tI, cIn_t, cIn_l, cNotIn_t, cNotIn_l, List.length_map, oMul_r, oMul_l, oMod_i, oFdiv_i, oPow_i, lAppend_one, rgQ_i, rgQ2_i, W_forL_nil, W_forL_cons, wipeM_mk, wipeS_nil, wipeS_cons, backS_nil, backS_cons, keptS_un, keptS_val, keptS_ol, keptS_od, oCut_l, oCut_t, Int.toNat_natCast, forall_const, imp_self, atI_pos, Int.reduceToNat, bSorted_ints, bMin_ints, bMax_ints, cut_map, w_n, w_lots, w_spots, kk_tI, rng_0, rng_1, rng_2, rng_3, rng_4, rng_5, rng_6, rng_7, rng_8, rng_9, rng_10, rng_11, rng_12, rng_13, rng_14, rng_15, rng_16, rng_32, rng_64])

theorem goal_ok {P : List Cd} {wf k i : Nat} {S : List Ob} {n : Nat} {e : List Int} {Q : Op → List Ob → Prop} (h : P[i]? = some ⟨b_goal, 2, 3⟩) (hn : n ≤ 1000000) (q : Q (.v (tI (endI n e))) S) : WC (ctK P wf (k + 1) i [.int (n : Nat), tI e] S) Q := by
  refine WC_ct h rfl ?_
  unfold b_goal
  walk_at "kd"
  refine W_rgI hn ?_
  refine W_compF D.int (fun x => decide (x ∉ e)) (fun x => x) (by rw [rgI_len]; exact sz_le hn) (fun b hb => ?_) ?_
  · walk_at "kd"
    simp
  · walk_at "kd"
    rw [List.map_id']
    exact q
theorem end_ok {P : List Cd} {wf k i : Nat} {S : List Ob} {e : List Int} {n : Nat} {Q : Op → List Ob → Prop} (h : P[i]? = some ⟨b_law_end, 1, 2⟩) (he : e.length = n) (hn : n ≤ 1000000) (q : Q (.v (tI (endI n e))) S) : WC (ctK P wf (k + 1) i [tI e] S) Q := by
  refine WC_ct h rfl ?_
  unfold b_law_end
  walk_at "kd"
  rw [he]
  refine W_rgI hn ?_
  refine W_compF D.int (fun x => decide (x ∉ e)) (fun x => x) (by rw [rgI_len]; exact sz_le hn) (fun b hb => ?_) ?_
  · walk_at "kd"
    simp
  · walk_at "kd"
    rw [List.map_id']
    exact q
theorem stay_ok {P : List Cd} {wf k i : Nat} {S : List Ob} {e : List Int} {n : Nat} {Q : Op → List Ob → Prop} (h : P[i]? = some ⟨b_law_stay, 2, 3⟩) (hn : n ≤ 1000000) (q : Q (.v (tI (stayI n e))) S) : WC (ctK P wf (k + 1) i [.int (n : Nat), tI e] S) Q := by
  refine WC_ct h rfl ?_
  unfold b_law_stay
  walk_at "kd"
  refine W_rgI hn ?_
  refine W_compA D.int (fun x => if x ∈ e then -1 else x) (by rw [rgI_len]; exact sz_le hn) (fun b hb => ?_) ?_
  · walk_at "kd"
    refine W_tf (fun hc => ?_) (fun hc => ?_)
    · walk_at "kd"
      rw [if_pos (by simpa using hc)]
    · walk_at "kd"
      rw [if_neg (by simpa using hc)]
  · walk_at "kd"
    exact q
theorem mixedT_ok {P : List Cd} {wf k i iD : Nat} {S : List Ob} {d : D} {β : Type} {f : β → D} {xs : List β} {Q : Op → List Ob → Prop} (h : P[i]? = some ⟨b_law_mixed iD, 2, 4⟩) (hD : P[iD]? = some ⟨b_law_draw, 2, 8⟩) (hS : RW S) (hd : Sq d (xs.map f))
    (h1 : xs.length < wf) (h2 : xs.length ≤ 1000000) (ho : ∀ x, okd (f x) = true) (q : ∀ (ys : List β) S', ys.Perm xs → RW S' → Q (.nl (ys.map f)) S') : WC (ctK P wf (k + 2) i [.loc 1, d] S) Q := by
  refine mixed_ok h hD hS hd (by rw [List.length_map]; exact h1) (by rw [List.length_map]; exact h2) (fun x hx => ?_) fun ys S' hp hS' => ?_
  · rw [List.mem_map] at hx
    obtain ⟨y, _, rfl⟩ := hx
    exact ho y
  · obtain ⟨zs, rfl, hz⟩ := perm_map_inv hp rfl
    exact q zs S' hz hS'
theorem cut_len {α : Type} (xs : List α) (lo hi : Option Int) : (cutD xs lo hi).length ≤ xs.length := by
  unfold cutD
  rw [List.length_take, List.length_drop]
  omega
theorem insI_len (x : Int) : ∀ l : List Int, (insI x l).length = l.length + 1
  | [] => rfl
  | y :: l => by
    unfold insI
    split
    · rfl
    · rw [List.length_cons, insI_len x l, List.length_cons]
theorem sortI_len : ∀ l : List Int, (sortI l).length = l.length
  | [] => rfl
  | x :: l => by
    show (insI x (sortI l)).length = _
    rw [insI_len, sortI_len l, List.length_cons]
/-- a drawn deed -/
def DeedV (n : Nat) (d : D) : Prop := ∃ (need : List Int) (a b : Int), d = .tup [tI need, .int a, .int b] ∧ 0 ≤ a ∧ a < n ∧ 0 ≤ b ∧ b < n ∧ a ≠ b ∧ need.length ≤ n
theorem deed_ok {P : List Cd} {wf k i iM iD : Nat} {S : List Ob} {n : Nat} {kind : Int} {Q : Op → List Ob → Prop} (h : P[i]? = some ⟨b_law_deed iM, 3, 4⟩) (hM : P[iM]? = some ⟨b_law_mixed iD, 2, 4⟩) (hD : P[iD]? = some ⟨b_law_draw, 2, 8⟩) (hS : RW S)
    (hn : 2 ≤ n) (hn2 : n < wf) (hn3 : n ≤ 1000000) (q : ∀ d S', DeedV n d → RW S' → Q (.v d) S') : WC (ctK P wf (k + 3) i [.loc 1, .int (n : Nat), .int kind] S) Q := by
  refine WC_ct h rfl ?_
  unfold b_law_deed
  refine W_step (fun m => ∃ (zs : List Int) (S' : List Ob), zs.Perm (rgI n) ∧ RW S' ∧ m = ⟨[.val (.loc 1), .val (.int (n : Nat)), .val (.int kind), .ol (zs.map D.int)], S'⟩) ?_ ?_
  · walk_at "kd"
    refine W_rgI hn3 ?_
    rw [if_pos (by rw [List.length_map, rgI_len]; exact sz_le hn3)]
    walk_at "kd"
    refine mixedT_ok hM hD hS (.inl rfl) (by rw [rgI_len]; exact hn2) (by rw [rgI_len]; exact hn3) okd_int fun ys S' hp hS' => ?_
    walk_at "kd"
    exact ⟨ys, S', hp, hS', rfl⟩
  rintro m1 ⟨zs, S', hp, hS', rfl⟩
  have hl := hp.length_eq
  rw [rgI_len] at hl
  obtain ⟨x, y, rest, rfl⟩ : ∃ x y rest, zs = x :: y :: rest := by
    match zs, hl with
    | [], hl => simp at hl; omega
    | [_], hl => simp at hl; omega
    | x :: y :: rest, _ => exact ⟨x, y, rest, rfl⟩
  have hx := rgI_mem.mp (hp.subset (List.mem_cons_self ..))
  have hy := rgI_mem.mp (hp.subset (List.mem_cons_of_mem _ (List.mem_cons_self ..)))
  have hnd := (hp.nodup_iff).mpr (rgI_nodup n)
  have hxy : x ≠ y := by
    rw [List.nodup_cons] at hnd
    intro e
    exact hnd.1 (e ▸ List.mem_cons_self ..)
  have e2 : cutD (x :: y :: rest) none (some 2) = [x, y] := by
    have := cut_take (x :: y :: rest) 2
    exact this
  walk_at "kd"
  have m1 : minI [x, y] = some (if y < x then y else x) := rfl
  have m2 : maxI [x, y] = some (if y > x then y else x) := rfl
  rw [e2, m1]
  walk_at "kd"
  rw [e2, m2]
  walk_at "kd"
  refine q _ _ ⟨_, _, _, rfl, ?_, ?_, ?_, ?_, ?_, ?_⟩ hS'
  · split <;> omega
  · split <;> omega
  · split <;> omega
  · split <;> omega
  · split <;> split <;> omega
  · rw [(sortI_len _)]
    exact Nat.le_trans (cut_len _ _ _) (by rw [hl]; omega)
/-! ### a deed's table -/
theorem merge_turns {a b : Int} (h : a ≠ b) : mergeD [] [(.i a, .int b), (.i b, .int a)] = [(.i a, .int b), (.i b, .int a)] := by
  have h' : ¬ KK.i a = KK.i b := fun e => h (by cases e; rfl)
  show putD (putD [] (.i a) (.int b)) (.i b) (.int a) = _
  simp [putD, h']
theorem get_turns (a b y : Int) : mGet2 (.k [(.i a, .int b), (.i b, .int a)]) [.int y, .int y] = some (.v (.int (swapI a b y))) := by
  show (match D.kk (.int y) with
    | some j => if okKey [(.i a, .int b), (.i b, .int a)] j = true then some (Op.v ((valD [(.i a, .int b), (.i b, .int a)] j).getD (.int y))) else none
    | none => none) = _
  rw [kk_int]
  have e : okKey [(.i a, .int b), (.i b, .int a)] (.i y) = true := rfl
  simp only [e, if_true]
  congr 2
  unfold swapI
  by_cases h1 : y = a
  · subst h1
    rw [valD_hit, if_pos rfl]; rfl
  · have n1 : KK.i a ≠ KK.i y := fun z => h1 (by cases z; rfl)
    rw [valD_miss _ _ n1, if_neg h1]
    by_cases h2 : y = b
    · subst h2
      rw [valD_hit, if_pos rfl]; rfl
    · have n2 : KK.i b ≠ KK.i y := fun z => h2 (by cases z; rfl)
      rw [valD_miss _ _ n2, if_neg h2]; rfl
theorem deed_table_ok {P : List Cd} {wf k i iS n : Nat} {S : List Ob} {d : D} {Q : Op → List Ob → Prop} (h : P[i]? = some ⟨b_law_deed_table iS, 2, 11⟩) (hs : P[iS]? = some ⟨b_law_stay, 2, 3⟩) (hn : Six n) (hd : DeedV n d)
    (q : ∀ ts, Tab n ts → Q (.v (tT ts)) S) : WC (ctK P wf (k + 2) i [.dct (worldK n), d] S) Q := by
  have hn6 : n ≤ 6 := by rcases hn with rfl | rfl <;> omega
  obtain ⟨need, a, b, rfl, ha, ha2, hb, hb2, hab, hne⟩ := hd
  refine WC_ct h rfl ?_
  unfold b_law_deed_table
  refine W_step (fun m => m = ⟨[.val (.dct (worldK n)), .val (.tup [tI need, .int a, .int b]), .un, .val (tI need), .val (.int a), .val (.int b), .un, .un, .un, .un, .un], S⟩) ?_ ?_
  · walk_at "kd"
  rintro m1 rfl
  refine W_step (fun m => m = ⟨[.val (.dct (worldK n)), .val (.tup [tI need, .int a, .int b]), .un, .val (tI need), .val (.int a), .val (.int b), .od [(.i a, .int b), (.i b, .int a)], .ol [], .un, .un, .un], S⟩) ?_ ?_
  · walk_at "kd"
    rw [if_pos (by rfl), merge_turns hab]
    walk_at "kd"
  rintro m1 rfl
  refine W_step (fun m => ∃ (ts : List (List Int)) (s2 s8 s9 s10 : Sl), Tab n ts ∧ m = ⟨[.val (.dct (worldK n)), .val (.tup [tI need, .int a, .int b]), s2, .val (tI need), .val (.int a), .val (.int b), .od [(.i a, .int b), (.i b, .int a)], .ol (ts.map tI), s8, s9, s10], S⟩) ?_ ?_
  · walk_at "kd"
    refine W_forL (fun i m => ∃ (ts : List (List Int)) (s2 s8 s9 s10 : Sl), ts.length = i ∧ i ≤ (lotsI n).length ∧ (∀ (k : Nat) (lot e : List Int), (lotsI n)[k]? = some lot → ts[k]? = some e → Ent n lot e) ∧
      m = ⟨[.val (.dct (worldK n)), .val (.tup [tI need, .int a, .int b]), s2, .val (tI need), .val (.int a), .val (.int b), .od [(.i a, .int b), (.i b, .int a)], .ol (ts.map tI), s8, s9, s10], S⟩) ?_ ?_ ?_
    · exact ⟨[], _, _, _, _, rfl, Nat.zero_le _, fun k lot e _ h => by simp at h, rfl⟩
    · rintro i x m hx ⟨ts, s2, s8, s9, s10, hl, hi, ht, rfl⟩
      rw [List.getElem?_map, Option.map_eq_some_iff] at hx
      obtain ⟨lot, hlot, rfl⟩ := hx
      walk_at "kd"
      refine stay_ok hs (by omega) ?_
      walk_at "kd"
      have hi2 : i < (lotsI n).length := (List.getElem?_eq_some_iff.mp hlot).1
      have h64 : (lotsI n).length ≤ 64 := by rcases hn with rfl | rfl <;> decide
      have fin : ∀ e, Ent n lot e → ∀ (k : Nat) (lot' e' : List Int), (lotsI n)[k]? = some lot' → (ts ++ [e])[k]? = some e' → Ent n lot' e' := fun e E k lot' e' h1 h2 => by
        by_cases hk : k < ts.length
        · rw [List.getElem?_append_left hk] at h2
          exact ht k lot' e' h1 h2
        · rw [List.getElem?_append_right (by omega)] at h2
          have hz : k - ts.length = 0 := by
            have := (List.getElem?_eq_some_iff.mp h2).1
            simp at this
            omega
          rw [hz] at h2
          have hk2 : k = i := by omega
          subst hk2
          rw [hlot] at h1
          cases h1
          cases h2
          exact E
      have hts : (ts.map tI).length < sizeLine := by
        rw [List.length_map]
        exact sz_lt (by omega)
      have E0 := ent_stay n lot
      refine W_compF D.int (fun x => decide (x ∉ lot)) (fun x => x) (sz_le (by omega)) (fun x hx => ?_) ?_
      · walk_at "kd"
        simp
      walk_at "kd"
      rw [cEq_nil (okd_ints _)]
      walk_at "kd"
      refine W_if' (fun _ => ?_) (fun _ => ?_)
      · walk_at "kd"
        refine W_compA D.int (swapI a b) (sz_le (by rw [E0.len]; omega)) (fun y hy => ?_) ?_
        · walk_at "kd"
          rw [get_turns]
          walk_at "kd"
        walk_at "kd"
        rw [lAppend_one _ _ hts]
        walk_at "kd"
        exact ⟨ts ++ [(stayI n lot).map (swapI a b)], _, _, _, _, by rw [List.length_append, List.length_singleton, hl], by omega, fin _ (ent_swap E0 ha ha2 hb hb2), by rw [List.map_append]; rfl⟩
      · walk_at "kd"
        rw [lAppend_one _ _ hts]
        walk_at "kd"
        exact ⟨ts ++ [stayI n lot], _, _, _, _, by rw [List.length_append, List.length_singleton, hl], by omega, fin _ E0, by rw [List.map_append]; rfl⟩
    · rintro m ⟨ts, s2, s8, s9, s10, hl, hi, ht, rfl⟩
      rw [joinQ_nx]
      rw [List.length_map] at hl
      exact ⟨ts, _, _, _, _, ⟨hl, ht⟩, rfl⟩
  rintro m1 ⟨ts, s2, s8, s9, s10, ht, rfl⟩
  walk_at "kd"
  exact q ts ht
end Kd

namespace Kd
open PySem
local macro_rules | `(tactic| walk_at "kd") => `(tactic| try simp -dsimp +decide only [W_ok, W_seq, seqQ_nx, seqQ_rt, seqQ_bk, seqQ_ct, W_asg, stQ_some, W_un, W_par2, W_exp, W_ret, rtQ_v, rtQ_nl, rtQ_nd, rtQ_slot, rtS_ol, rtS_od, W_retN, W_skip, W_brk, W_cnt, W_if, ifQ_t, ifQ_f, okQ_some, W_of, W_eC, W_eVar,
  vaQ_val, vaQ_ol, vaQ_od, W_eF, W_fz_v, W_fz_nl, W_fz_nd, W_fz, fzQ_val, fzQ_ol, fzQ_od, W_fzS_v, W_fzS_nl, W_fzS_nd, W_fzS_sl, W_list_nil, W_list_cons, W_tup, W_lst, W_e1, W_e2, W_t1, W_t2, W_t3, tfQ_t, tfQ_f, W_eB, boQ_bl, W_tE, W_tNot, W_and_nil, W_or_nil, W_and, W_or,
  W_eand1, W_eor1, W_eand, W_eor, W_eIf, W_tIf, W_optN, W_optS, inQ_i, W_slice, W_call, W_callK, W_share, shQ_nl, shQ_nd, W_rng1, W_rng2, W_seqI, W_enumI, W_zipI, W_lstI, W_for, turnQ_nx, turnQ_ct, turnQ_bk, turnQ_rt, W_mutL, W_mut, muQ_ol, W_mutO, muO_lst, W_mutD, mdQ_od, W_mutDO, mdO_dct, W_meth, W_set, setQ_eq, setV_l, setV_k,
  W_kvs_nil, W_kvs_cons, W_dct, W_dctZ, W_comp, vw_v, vw_nl, vw_nd, vw_sl, vwS_ol, vwS_od, vwD_int, vwD_str, vwD_bl, vwD_non, vwD_tup, vwD_lst, vwD_dct, vwD_loc, vwO_lst, vwO_dct, setSl_v, setSl_nl, setSl_nd, setSl_sl, slS_ol, slS_od, pat_n, pat_t, pat_tl, pats_nil, pats_cons,
  oAdd_i, oSub_i, oNeg_i, cLt_i, cLe_i, cGt_i, cGe_i, bLen_l, bLen_t, bLen_k, bTuple_l, bTuple_t, bList_l, bList_t, bInt_i, oIx_l, oIx_t, oIx_k, kvO_some, kk_int, kk_str, isTy_int, isTy_tup, isTy_bl, isTy_str, isTy_non, isTy_l, isTy_k, vwDD, frozen_t, frozen_l, bind_some', map_some', map_none', start1, start2, start3, start4,
  retQ_rt, retQ_nx, get0, getS, set0, setS, List.replicate, List.length_cons, List.length_nil, Nat.reduceAdd, Nat.reduceSub, Nat.reduceMul, Nat.reduceLeDiff, isL_l, isK_k, Option.bind_some, if_true, if_false, ite_true, ite_false, Bool.not_true, Bool.not_false, true_and, and_true, Option.map_some, Option.map_none, reduceIte, reduceCtorEq, decide_true, decide_false, vwLD, vwKD, sz0, sz1, sz2, sz3, sz4, sz5, sz6, sz7, sz8, sz9, sz10, joinQ_nx, joinQ_rt, joinQ_bk, joinQ_ct, reel_deep, reel_cells, reel_stamp, reel_count, reel_set, cEq_i, cNe_i, cNe_b, cEq_tI, cNe_tI, cIn_t, cIn_l, cNotIn_t, cNotIn_l, List.length_map, oMul_r, oMul_l, oMod_i, oFdiv_i, oPow_i, lAppend_one, rgQ_i, rgQ2_i, W_forL_nil, W_forL_cons, wipeM_mk, wipeS_nil, wipeS_cons, backS_nil, backS_cons, keptS_un, keptS_val, keptS_ol, keptS_od, oCut_l, oCut_t, Int.toNat_natCast, forall_const, imp_self, atI_pos, Int.reduceToNat, bSorted_ints, bMin_ints, bMax_ints, cut_map, w_n, w_lots, w_spots, kk_tI, rng_0, rng_1, rng_2, rng_3, rng_4, rng_5, rng_6, rng_7, rng_8, rng_9, rng_10, rng_11, rng_12, rng_13, rng_14, rng_15, rng_16, rng_32, rng_64])

theorem six_le {n : Nat} (h : Six n) : n ≤ 6 := by rcases h with rfl | rfl <;> omega
theorem six_ge {n : Nat} (h : Six n) : 5 ≤ n := by rcases h with rfl | rfl <;> omega
theorem six_lots {n : Nat} (h : Six n) : (lotsI n).length ≤ 64 := by rcases h with rfl | rfl <;> decide
/-- behind one more entry -/
theorem tab_more {n i : Nat} {ts : List (List Int)} {lot e : List Int} (hl : ts.length = i) (hlot : (lotsI n)[i]? = some lot) (E : Ent n lot e) (ht : ∀ (k : Nat) (lot e : List Int), (lotsI n)[k]? = some lot → ts[k]? = some e → Ent n lot e) :
    ∀ (k : Nat) (lot' e' : List Int), (lotsI n)[k]? = some lot' → (ts ++ [e])[k]? = some e' → Ent n lot' e' := fun k lot' e' h1 h2 => by
  by_cases hk : k < ts.length
  · rw [List.getElem?_append_left hk] at h2
    exact ht k lot' e' h1 h2
  · rw [List.getElem?_append_right (by omega)] at h2
    have hz : k - ts.length = 0 := by
      have := (List.getElem?_eq_some_iff.mp h2).1
      simp at this
      omega
    rw [hz] at h2
    have hk2 : k = i := by omega
    subst hk2
    rw [hlot] at h1
    cases h1
    cases h2
    exact E
theorem tab_get {n k : Nat} {ts : List (List Int)} {e : List Int} (T : Tab n ts) (h : ts[k]? = some e) : ∃ lot, (lotsI n)[k]? = some lot ∧ Ent n lot e := by
  have hk : k < (lotsI n).length := by
    rw [← T.len]
    exact (List.getElem?_eq_some_iff.mp h).1
  exact ⟨_, List.getElem?_eq_getElem hk, T.ent k _ e (List.getElem?_eq_getElem hk) h⟩
theorem tab_at {n k : Nat} {ts : List (List Int)} {lot : List Int} (T : Tab n ts) (h : (lotsI n)[k]? = some lot) : ∃ e, ts[k]? = some e ∧ Ent n lot e := by
  have hk : k < ts.length := by
    rw [T.len]
    exact (List.getElem?_eq_some_iff.mp h).1
  exact ⟨_, List.getElem?_eq_getElem hk, T.ent k lot _ h (List.getElem?_eq_getElem hk)⟩
theorem then_ok {P : List Cd} {wf k i iE n : Nat} {S : List Ob} {ts us : List (List Int)} {Q : Op → List Ob → Prop} (h : P[i]? = some ⟨b_law_then iE, 3, 7⟩) (he : P[iE]? = some ⟨b_law_end, 1, 2⟩) (hn : Six n) (T : Tab n ts) (U : Tab n us)
    (q : ∀ ws, Tab n ws → Q (.v (tT ws)) S) : WC (ctK P wf (k + 2) i [.dct (worldK n), tT ts, tT us] S) Q := by
  have hn6 := six_le hn
  have h64 := six_lots hn
  refine WC_ct h rfl ?_
  unfold b_law_then
  refine W_step (fun m => m = ⟨[.val (.dct (worldK n)), .val (tT ts), .val (tT us), .ol [], .un, .un, .un], S⟩) ?_ ?_
  · walk_at "kd"
  rintro m1 rfl
  refine W_step (fun m => ∃ (ws : List (List Int)) (s4 s5 s6 : Sl), Tab n ws ∧ m = ⟨[.val (.dct (worldK n)), .val (tT ts), .val (tT us), .ol (ws.map tI), s4, s5, s6], S⟩) ?_ ?_
  · walk_at "kd"
    refine W_forL (fun i m => ∃ (ws : List (List Int)) (s4 s5 s6 : Sl), ws.length = i ∧ (∀ (k : Nat) (lot e : List Int), (lotsI n)[k]? = some lot → ws[k]? = some e → Ent n lot e) ∧
      m = ⟨[.val (.dct (worldK n)), .val (tT ts), .val (tT us), .ol (ws.map tI), s4, s5, s6], S⟩) ?_ ?_ ?_
    · exact ⟨[], _, _, _, rfl, fun k lot e _ h => by simp at h, rfl⟩
    · rintro i x m hx ⟨ws, s4, s5, s6, hl, hw, rfl⟩
      rw [List.getElem?_map, Option.map_eq_some_iff] at hx
      obtain ⟨e, he1, rfl⟩ := hx
      obtain ⟨lot, hlot, E⟩ := tab_get T he1
      have hi2 : i < (lotsI n).length := (List.getElem?_eq_some_iff.mp hlot).1
      obtain ⟨j, hj1, hj2⟩ := spot_of hn fun x => decide (x ∉ e)
      obtain ⟨f, hf, F⟩ := tab_at U hj2
      walk_at "kd"
      refine end_ok he E.len (by omega) ?_
      have hj1' : valD (spotsI n) (keyI (endI n e)) = some (.int (j : Nat)) := hj1
      walk_at "kd"
      rw [hj1']
      walk_at "kd"
      rw [atI_nat, List.getElem?_map, hf]
      walk_at "kd"
      refine W_compA D.int (fun y => if y < 0 then -1 else (f[y.toNat]?).getD 0) (sz_le (by rw [E.len]; omega)) (fun y hy => ?_) ?_
      · have hr := E.rng y hy
        walk_at "kd"
        refine W_tf (fun hc => ?_) (fun hc => ?_)
        · walk_at "kd"
          rw [if_pos (by simpa using hc)]
        · have h0 : ¬ y < 0 := by simpa using hc
          have h3 : y.toNat < f.length := by rw [F.len]; omega
          walk_at "kd"
          rw [atI_pos _ (by omega), List.getElem?_map, List.getElem?_eq_getElem h3]
          walk_at "kd"
          rw [if_neg h0]
          rfl
      walk_at "kd"
      rw [lAppend_one _ _ (by rw [List.length_map]; exact sz_lt (by omega))]
      walk_at "kd"
      exact ⟨ws ++ [thenI f e], _, _, _, by rw [List.length_append, List.length_singleton, hl], tab_more hl hlot (ent_then E F) hw, by rw [List.map_append]; rfl⟩
    · rintro m ⟨ws, s4, s5, s6, hl, hw, rfl⟩
      rw [joinQ_nx]
      rw [List.length_map, T.len] at hl
      exact ⟨ws, _, _, _, ⟨hl, hw⟩, rfl⟩
  rintro m1 ⟨ws, s4, s5, s6, hw, rfl⟩
  walk_at "kd"
  exact q ws hw
/-- the menu of kinds: ints -/
theorem product_ok {P : List Cd} {wf k i iE iS iT iY iDD iM iD iP n : Nat} {S : List Ob} {menu : List Int} {many : Nat} {Q : Op → List Ob → Prop} (h : P[i]? = some ⟨b_law_product iS iT iDD iY iP, 4, 7⟩) (hS : P[iS]? = some ⟨b_law_stay, 2, 3⟩)
    (hT : P[iT]? = some ⟨b_law_then iE, 3, 7⟩) (hE : P[iE]? = some ⟨b_law_end, 1, 2⟩) (hDD : P[iDD]? = some ⟨b_law_deed_table iS, 2, 11⟩) (hY : P[iY]? = some ⟨b_law_deed iM, 3, 4⟩) (hM : P[iM]? = some ⟨b_law_mixed iD, 2, 4⟩)
    (hD : P[iD]? = some ⟨b_law_draw, 2, 8⟩) (hP : P[iP]? = some ⟨b_law_pick iD, 2, 2⟩) (hwf : 100 < wf) (hn : Six n) (hR : RW S) (h0 : 0 < menu.length) (h1 : menu.length ≤ 100) (hm : many ≤ 100) (q : ∀ ts S', Tab n ts → RW S' → Q (.v (tT ts)) S') :
    WC (ctK P wf (k + 4) i [.loc 1, .dct (worldK n), .lst (menu.map .int), .int (many : Nat)] S) Q := by
  refine WC_ct h rfl ?_
  unfold b_law_product
  have h64 := six_lots hn
  have hn6 := six_le hn
  have hn5 := six_ge hn
  refine W_step (fun m => ∃ (ts : List (List Int)) (s5 s6 : Sl), Tab n ts ∧ m = ⟨[.val (.loc 1), .val (.dct (worldK n)), .val (.lst (menu.map .int)), .val (.int (many : Nat)), .val (tT ts), s5, s6], S⟩) ?_ ?_
  · walk_at "kd"
    refine W_compA tI (stayI n) (sz_le (by omega)) (fun lot hl => ?_) ?_
    · walk_at "kd"
      refine stay_ok hS (by omega) ?_
      walk_at "kd"
    · walk_at "kd"
      refine ⟨(lotsI n).map (stayI n), _, _, ⟨by rw [List.length_map], fun k lot e h1 h2 => ?_⟩, rfl⟩
      rw [List.getElem?_map, h1] at h2
      cases h2
      exact ent_stay n lot
  rintro m1 ⟨ts, s5, s6, T0, rfl⟩
  refine W_step (fun m => ∃ (ts : List (List Int)) (S' : List Ob) (s5 s6 : Sl), Tab n ts ∧ RW S' ∧ m = ⟨[.val (.loc 1), .val (.dct (worldK n)), .val (.lst (menu.map .int)), .val (.int (many : Nat)), .val (tT ts), s5, s6], S'⟩) ?_ ?_
  · walk_at "kd"
    refine W_rgI (by omega) ?_
    refine W_forL (fun _ m => ∃ (ts : List (List Int)) (S' : List Ob) (s5 s6 : Sl), Tab n ts ∧ RW S' ∧ m = ⟨[.val (.loc 1), .val (.dct (worldK n)), .val (.lst (menu.map .int)), .val (.int (many : Nat)), .val (tT ts), s5, s6], S'⟩) ⟨ts, S, s5, s6, T0, hR, rfl⟩ ?_ ?_
    · rintro j x m hx ⟨ts, S', s5, s6, T1, hR1, rfl⟩
      obtain ⟨z, rfl, _⟩ := int_mem (List.mem_of_getElem? hx)
      walk_at "kd"
      refine pick_ok hP hD hR1 (.inl rfl) (by rw [List.length_map]; exact h0) (by rw [List.length_map]; omega) fun x S2 hx2 hR2 => ?_
      obtain ⟨kind, rfl, _⟩ := int_mem hx2
      walk_at "kd"
      refine deed_ok hY hM hD hR2 (by omega) (by omega) (by omega) fun d S3 hd hR3 => ?_
      walk_at "kd"
      refine deed_table_ok hDD hS hn hd fun us U => ?_
      walk_at "kd"
      refine then_ok hT hE hn T1 U fun ws W => ?_
      walk_at "kd"
      exact ⟨ws, S3, _, _, W, hR3, rfl⟩
    · rintro m ⟨ts, S', s5, s6, T1, hR1, rfl⟩
      rw [joinQ_nx]
      exact ⟨ts, S', _, _, T1, hR1, rfl⟩
  rintro m1 ⟨ts, S', s5, s6, T1, hR1, rfl⟩
  walk_at "kd"
  exact q ts S' T1 hR1
end Kd

namespace Kd
open PySem
local macro_rules | `(tactic| walk_at "kd") => `(tactic| try simp -dsimp +decide only [W_ok, W_seq, seqQ_nx, seqQ_rt, seqQ_bk, seqQ_ct, W_asg, stQ_some, W_un, W_par2, W_exp, W_ret, rtQ_v, rtQ_nl, rtQ_nd, rtQ_slot, rtS_ol, rtS_od, W_retN, W_skip, W_brk, W_cnt, W_if, ifQ_t, ifQ_f, okQ_some, W_of, W_eC, W_eVar,
  vaQ_val, vaQ_ol, vaQ_od, W_eF, W_fz_v, W_fz_nl, W_fz_nd, W_fz, fzQ_val, fzQ_ol, fzQ_od, W_fzS_v, W_fzS_nl, W_fzS_nd, W_fzS_sl, W_list_nil, W_list_cons, W_tup, W_lst, W_e1, W_e2, W_t1, W_t2, W_t3, tfQ_t, tfQ_f, W_eB, boQ_bl, W_tE, W_tNot, W_and_nil, W_or_nil, W_and, W_or,
  W_eand1, W_eor1, W_eand, W_eor, W_eIf, W_tIf, W_optN, W_optS, inQ_i, W_slice, W_call, W_callK, W_share, shQ_nl, shQ_nd, W_rng1, W_rng2, W_seqI, W_enumI, W_zipI, W_lstI, W_for, turnQ_nx, turnQ_ct, turnQ_bk, turnQ_rt, W_mutL, W_mut, muQ_ol, W_mutO, muO_lst, W_mutD, mdQ_od, W_mutDO, mdO_dct, W_meth, W_set, setQ_eq, setV_l, setV_k,
  W_kvs_nil, W_kvs_cons, W_dct, W_dctZ, W_comp, vw_v, vw_nl, vw_nd, vw_sl, vwS_ol, vwS_od, vwD_int, vwD_str, vwD_bl, vwD_non, vwD_tup, vwD_lst, vwD_dct, vwD_loc, vwO_lst, vwO_dct, setSl_v, setSl_nl, setSl_nd, setSl_sl, slS_ol, slS_od, pat_n, pat_t, pat_tl, pats_nil, pats_cons,
  oAdd_i, oSub_i, oNeg_i, cLt_i, cLe_i, cGt_i, cGe_i, bLen_l, bLen_t, bLen_k, bTuple_l, bTuple_t, bList_l, bList_t, bInt_i, oIx_l, oIx_t, oIx_k, kvO_some, kk_int, kk_str, isTy_int, isTy_tup, isTy_bl, isTy_str, isTy_non, isTy_l, isTy_k, vwDD, frozen_t, frozen_l, bind_some', map_some', map_none', start1, start2, start3, start4,
  retQ_rt, retQ_nx, get0, getS, set0, setS, List.replicate, List.length_cons, List.length_nil, Nat.reduceAdd, Nat.reduceSub, Nat.reduceMul, Nat.reduceLeDiff, isL_l, isK_k, Option.bind_some, if_true, if_false, ite_true, ite_false, Bool.not_true, Bool.not_false, true_and, and_true, Option.map_some, Option.map_none, reduceIte, reduceCtorEq, decide_true, decide_false, vwLD, vwKD, sz0, sz1, sz2, sz3, sz4, sz5, sz6, sz7, sz8, sz9, sz10, joinQ_nx, joinQ_rt, joinQ_bk, joinQ_ct, reel_deep, reel_cells, reel_stamp, reel_count, reel_set, cEq_i, cNe_i, cNe_b, cEq_tI, cNe_tI, cIn_t, cIn_l, cNotIn_t, cNotIn_l, List.length_map, oMul_r, oMul_l, oMod_i, oFdiv_i, oPow_i, lAppend_one, rgQ_i, rgQ2_i, W_forL_nil, W_forL_cons, wipeM_mk, wipeS_nil, wipeS_cons, backS_nil, backS_cons, keptS_un, keptS_val, keptS_ol, keptS_od, oCut_l, oCut_t, Int.toNat_natCast, forall_const, imp_self, atI_pos, Int.reduceToNat, bSorted_ints, bMin_ints, bMax_ints, cut_map, w_n, w_lots, w_spots, kk_tI, rng_0, rng_1, rng_2, rng_3, rng_4, rng_5, rng_6, rng_7, rng_8, rng_9, rng_10, rng_11, rng_12, rng_13, rng_14, rng_15, rng_16, rng_32, rng_64])

theorem setL_nat {i : Nat} {v : D} {xs : List D} (h : i < xs.length) : setL (.int (i : Nat)) v xs = some (.v .non, xs.set i v) := by
  show (match L2.ixN xs.length (i : Int) with | some j => some (Op.v .non, xs.set j v) | none => none) = _
  have e : L2.ixN xs.length (i : Int) = some i := by
    unfold L2.ixN
    rw [if_pos (by omega), if_pos (by omega), Int.toNat_natCast]
  rw [e]
theorem tab_set {n k : Nat} {ts : List (List Int)} {lot e : List Int} (T : Tab n ts) (h : (lotsI n)[k]? = some lot) (E : Ent n lot e) : Tab n (ts.set k e) := by
  refine ⟨by rw [List.length_set, T.len], fun j lot' e' h1 h2 => ?_⟩
  by_cases hk : k = j
  · subst hk
    rw [h] at h1
    cases h1
    rw [List.getElem?_set_self (by rw [T.len]; exact (List.getElem?_eq_some_iff.mp h).1)] at h2
    cases h2
    exact E
  · rw [List.getElem?_set_ne hk] at h2
    exact T.ent j lot' e' h1 h2
/-- lots that leave two places and more -/
theorem two5 : ((lotsI 5).take 26).all (fun l => decide (2 ≤ (subI 5 fun x => decide (x ∉ l)).length)) = true := by decide +kernel
theorem two6 : ((lotsI 6).take 57).all (fun l => decide (2 ≤ (subI 6 fun x => decide (x ∉ l)).length)) = true := by decide +kernel
theorem two_of {n k : Nat} {lot : List Int} (h : Six n) (hk : k + n + 1 < (lotsI n).length) (hl : (lotsI n)[k]? = some lot) : 2 ≤ (subI n fun x => decide (x ∉ lot)).length := by
  rcases h with rfl | rfl
  · have q := two5
    rw [List.all_eq_true] at q
    rw [lots_len5] at hk
    have : lot ∈ (lotsI 5).take 26 := List.mem_of_getElem? (i := k) (by rw [List.getElem?_take_of_lt (by omega)]; exact hl)
    simpa using q lot this
  · have q := two6
    rw [List.all_eq_true] at q
    rw [lots_len6] at hk
    have : lot ∈ (lotsI 6).take 57 := List.mem_of_getElem? (i := k) (by rw [List.getElem?_take_of_lt (by omega)]; exact hl)
    simpa using q lot this
def sizeAt (n : Nat) (s : Int) : List Int := (rgI (lotsI n).length).filter fun k => decide (((((lotsI n)[k.toNat]?).getD []).length : Int) = s)
theorem size5 : (List.range 4).all (fun s => decide (2 ≤ (sizeAt 5 ((s : Nat) + 1)).length)) = true := by decide +kernel
theorem size6 : (List.range 5).all (fun s => decide (2 ≤ (sizeAt 6 ((s : Nat) + 1)).length)) = true := by decide +kernel
theorem size_two {n : Nat} {s : Int} (h : Six n) (h1 : 1 ≤ s) (h2 : s < n) : 2 ≤ (sizeAt n s).length := by
  rcases h with rfl | rfl
  · have q := size5
    rw [List.all_eq_true] at q
    have := q (s - 1).toNat (by rw [List.mem_range]; omega)
    rw [decide_eq_true_eq, show (((s - 1).toNat : Nat) : Int) + 1 = s by omega] at this
    exact this
  · have q := size6
    rw [List.all_eq_true] at q
    have := q (s - 1).toNat (by rw [List.mem_range]; omega)
    rw [decide_eq_true_eq, show (((s - 1).toNat : Nat) : Int) + 1 = s by omega] at this
    exact this
/-- lots of one size leave as many places -/
theorem left5 : (lotsI 5).all (fun l => decide ((subI 5 fun x => decide (x ∉ l)).length + l.length = 5)) = true := by decide +kernel
theorem left6 : (lotsI 6).all (fun l => decide ((subI 6 fun x => decide (x ∉ l)).length + l.length = 6)) = true := by decide +kernel
theorem left_of {n : Nat} {lot : List Int} (h : Six n) (hl : lot ∈ lotsI n) : (subI n fun x => decide (x ∉ lot)).length + lot.length = n := by
  rcases h with rfl | rfl
  · have q := left5
    rw [List.all_eq_true] at q
    simpa using q lot hl
  · have q := left6
    rw [List.all_eq_true] at q
    simpa using q lot hl
/-- other riders at the places of an entry -/
def fillI : List Int → List Int → List Int
  | [], _ => []
  | y :: e, far => if y < 0 then -1 :: fillI e far else match far with
    | f :: fs => f :: fillI e fs
    | [] => 0 :: fillI e []
theorem fill_get : ∀ (e far : List Int), (e.filter fun v => decide (0 ≤ v)).length = far.length → ∀ (x : Nat) (v : Int), (fillI e far)[x]? = some v → ∃ y, e[x]? = some y ∧ ((y < 0 ∧ v = -1) ∨ (0 ≤ y ∧ ∃ j : Nat, j = ((e.take x).filter fun v => decide (0 ≤ v)).length ∧ far[j]? = some v))
  | [], _, _, x, v, h => by simp [fillI] at h
  | y :: e, far, hl, x, v, h => by
    unfold fillI at h
    by_cases hy : y < 0
    · rw [if_pos hy] at h
      rw [List.filter_cons, if_neg (by simpa using hy)] at hl
      cases x with
      | zero => simp at h; exact ⟨y, rfl, .inl ⟨hy, h.symm⟩⟩
      | succ x =>
        obtain ⟨z, h1, h2⟩ := fill_get e far hl x v (by simpa using h)
        refine ⟨z, by simpa using h1, ?_⟩
        rcases h2 with h2 | ⟨h2, j, h3, h4⟩
        · exact .inl h2
        · refine .inr ⟨h2, j, ?_, h4⟩
          rw [List.take_succ_cons, List.filter_cons, if_neg (by simpa using hy)]
          exact h3
    · rw [if_neg hy] at h
      rw [List.filter_cons, if_pos (by simpa using hy)] at hl
      cases far with
      | nil => simp at hl
      | cons f fs =>
        simp only at h
        rw [List.length_cons, List.length_cons] at hl
        cases x with
        | zero => simp at h; exact ⟨y, rfl, .inr ⟨by omega, 0, by simp, by simpa using h⟩⟩
        | succ x =>
          obtain ⟨z, h1, h2⟩ := fill_get e fs (by omega) x v (by simpa using h)
          refine ⟨z, by simpa using h1, ?_⟩
          rcases h2 with h2 | ⟨h2, j, h3, h4⟩
          · exact .inl h2
          · refine .inr ⟨h2, j + 1, ?_, by simpa using h4⟩
            rw [List.take_succ_cons, List.filter_cons, if_pos (by simpa using hy), List.length_cons, ← h3]
theorem fill_len : ∀ e far : List Int, (fillI e far).length = e.length
  | [], _ => rfl
  | y :: e, far => by
    unfold fillI
    split
    · rw [List.length_cons, fill_len e far, List.length_cons]
    · split
      · rw [List.length_cons, fill_len e _, List.length_cons]
      · rw [List.length_cons, fill_len e _, List.length_cons]
theorem take_count (p : Int → Bool) : ∀ (e : List Int) (i j : Nat) (y : Int), i < j → e[i]? = some y → p y = true → ((e.take i).filter p).length < ((e.take j).filter p).length
  | [], _, _, _, _, h, _ => by simp at h
  | z :: e, i, 0, y, hij, _, _ => by omega
  | z :: e, 0, j + 1, y, _, h, hp => by
    simp at h
    subst h
    rw [List.take_succ_cons, List.filter_cons, if_pos hp]
    simp
  | z :: e, i + 1, j + 1, y, hij, h, hp => by
    have q := take_count p e i j y (by omega) (by simpa using h) hp
    rw [List.take_succ_cons, List.take_succ_cons, List.filter_cons, List.filter_cons]
    split <;> simp <;> omega
theorem ent_fill {n : Nat} {lot e far : List Int} (E : Ent n lot e) (hl : (e.filter fun v => decide (0 ≤ v)).length = far.length) (hf : ∀ v ∈ far, 0 ≤ v ∧ v < n) (hd : far.Nodup) : Ent n lot (fillI e far) := by
  have get := fill_get e far hl
  refine ⟨by rw [fill_len, E.len], fun x v h => ?_, fun v h => ?_, fun i j v h1 h2 h3 => ?_⟩
  · obtain ⟨y, h1, h2⟩ := get x v h
    rw [← E.neg x y h1]
    have := E.rng y (List.mem_of_getElem? h1)
    rcases h2 with ⟨h2, h3⟩ | ⟨h2, j, _, h3⟩
    · omega
    · have := hf v (List.mem_of_getElem? h3)
      omega
  · obtain ⟨x, hx⟩ := List.mem_iff_getElem?.mp h
    obtain ⟨y, h1, h2⟩ := get x v hx
    rcases h2 with ⟨h2, h3⟩ | ⟨h2, j, _, h3⟩
    · omega
    · have := hf v (List.mem_of_getElem? h3)
      omega
  · obtain ⟨y, a1, a2⟩ := get i v h1
    obtain ⟨z, b1, b2⟩ := get j v h2
    rcases a2 with ⟨_, q⟩ | ⟨a2, p, hp, a3⟩
    · omega
    · rcases b2 with ⟨_, q⟩ | ⟨b2, r, hr, b3⟩
      · omega
      · have hpr : p = r := by
          have hpl := (List.getElem?_eq_some_iff.mp a3).1
          exact (List.getElem?_inj hpl hd).mp (a3.trans b3.symm)
        subst hpr
        rcases Nat.lt_trichotomy i j with q | q | q
        · have := take_count (fun v => decide (0 ≤ v)) e i j y q a1 (by simpa using a2)
          omega
        · exact q
        · have := take_count (fun v => decide (0 ≤ v)) e j i z q b1 (by simpa using b2)
          omega
end Kd

namespace Kd
open PySem
local macro_rules | `(tactic| walk_at "kd") => `(tactic| try simp -dsimp +decide only [W_ok, W_seq, seqQ_nx, seqQ_rt, seqQ_bk, seqQ_ct, W_asg, stQ_some, W_un, W_par2, W_exp, W_ret, rtQ_v, rtQ_nl, rtQ_nd, rtQ_slot, rtS_ol, rtS_od, W_retN, W_skip, W_brk, W_cnt, W_if, ifQ_t, ifQ_f, okQ_some, W_of, W_eC, W_eVar,
  vaQ_val, vaQ_ol, vaQ_od, W_eF, W_fz_v, W_fz_nl, W_fz_nd, W_fz, fzQ_val, fzQ_ol, fzQ_od, W_fzS_v, W_fzS_nl, W_fzS_nd, W_fzS_sl, W_list_nil, W_list_cons, W_tup, W_lst, W_e1, W_e2, W_t1, W_t2, W_t3, tfQ_t, tfQ_f, W_eB, boQ_bl, W_tE, W_tNot, W_and_nil, W_or_nil, W_and, W_or,
  W_eand1, W_eor1, W_eand, W_eor, W_eIf, W_tIf, W_optN, W_optS, inQ_i, W_slice, W_call, W_callK, W_share, shQ_nl, shQ_nd, W_rng1, W_rng2, W_seqI, W_enumI, W_zipI, W_lstI, W_for, turnQ_nx, turnQ_ct, turnQ_bk, turnQ_rt, W_mutL, W_mut, muQ_ol, W_mutO, muO_lst, W_mutD, mdQ_od, W_mutDO, mdO_dct, W_meth, W_set, setQ_eq, setV_l, setV_k,
  W_kvs_nil, W_kvs_cons, W_dct, W_dctZ, W_comp, vw_v, vw_nl, vw_nd, vw_sl, vwS_ol, vwS_od, vwD_int, vwD_str, vwD_bl, vwD_non, vwD_tup, vwD_lst, vwD_dct, vwD_loc, vwO_lst, vwO_dct, setSl_v, setSl_nl, setSl_nd, setSl_sl, slS_ol, slS_od, pat_n, pat_t, pat_tl, pats_nil, pats_cons,
  oAdd_i, oSub_i, oNeg_i, cLt_i, cLe_i, cGt_i, cGe_i, bLen_l, bLen_t, bLen_k, bTuple_l, bTuple_t, bList_l, bList_t, bInt_i, oIx_l, oIx_t, oIx_k, kvO_some, kk_int, kk_str, isTy_int, isTy_tup, isTy_bl, isTy_str, isTy_non, isTy_l, isTy_k, vwDD, frozen_t, frozen_l, bind_some', map_some', map_none', start1, start2, start3, start4,
  retQ_rt, retQ_nx, get0, getS, set0, setS, List.replicate, List.length_cons, List.length_nil, Nat.reduceAdd, Nat.reduceSub, Nat.reduceMul, Nat.reduceLeDiff, isL_l, isK_k, Option.bind_some, if_true, if_false, ite_true, ite_false, Bool.not_true, Bool.not_false, true_and, and_true, Option.map_some, Option.map_none, reduceIte, reduceCtorEq, decide_true, decide_false, vwLD, vwKD, sz0, sz1, sz2, sz3, sz4, sz5, sz6, sz7, sz8, sz9, sz10, joinQ_nx, joinQ_rt, joinQ_bk, joinQ_ct, reel_deep, reel_cells, reel_stamp, reel_count, reel_set, cEq_i, cNe_i, cNe_b, cEq_tI, cNe_tI, cIn_t, cIn_l, cNotIn_t, cNotIn_l, List.length_map, oMul_r, oMul_l, oMod_i, oFdiv_i, oPow_i, lAppend_one, rgQ_i, rgQ2_i, W_forL_nil, W_forL_cons, wipeM_mk, wipeS_nil, wipeS_cons, backS_nil, backS_cons, keptS_un, keptS_val, keptS_ol, keptS_od, oCut_l, oCut_t, Int.toNat_natCast, forall_const, imp_self, atI_pos, Int.reduceToNat, bSorted_ints, bMin_ints, bMax_ints, cut_map, w_n, w_lots, w_spots, kk_tI, rng_0, rng_1, rng_2, rng_3, rng_4, rng_5, rng_6, rng_7, rng_8, rng_9, rng_10, rng_11, rng_12, rng_13, rng_14, rng_15, rng_16, rng_32, rng_64])

theorem first_two {α : Type} {l : List α} (h : 2 ≤ l.length) : ∃ x y r, l = x :: y :: r := by
  match l, h with
  | x :: y :: r, _ => exact ⟨x, y, r, rfl⟩
theorem fill_cons (y : Int) (e far : List Int) : fillI (y :: e) far = if y < 0 then -1 :: fillI e far else match far with
    | f :: fs => f :: fillI e fs
    | [] => 0 :: fillI e [] := by
  cases far <;> simp only [fillI]
theorem fill_run {nv : Nv} {e far : List Int} {s0 s1 s2 s3 s4 s5 s6 s7 s8 s9 s10 s11 s12 s14 s15 s16 : Sl} {S : List Ob} {Q : List D → M → Prop} (h100 : e.length ≤ 100) (hl : (e.filter fun v => decide (0 ≤ v)).length = far.length)
    (q : ∀ t, Q ((fillI e far).map D.int) ⟨[s0, s1, s2, s3, s4, s5, s6, s7, s8, s9, s10, s11, s12, .ol [], s14, t, s16], S⟩) :
    W (compL [15] (.n 15) (fun _ m => .ok true m) (eF (eIf (t2 cLt (eVar 15) (eC (.int 0))) (e1 oNeg (eC (.int 1))) (eMutL lPop (eVar 13) [(eC (.int 0))]))) nv (e.map D.int) ⟨[s0, s1, s2, s3, s4, s5, s6, s7, s8, s9, s10, s11, s12, .ol (far.map D.int), s14, s15, s16], S⟩ []) Q := by
  refine W_compL (fun i m acc => ∃ (dn far' : List Int) (t : Sl), acc = dn.map D.int ∧ dn ++ fillI (e.drop i) far' = fillI e far ∧ ((e.drop i).filter fun v => decide (0 ≤ v)).length = far'.length ∧ dn.length = i ∧
    m = ⟨[s0, s1, s2, s3, s4, s5, s6, s7, s8, s9, s10, s11, s12, .ol (far'.map D.int), s14, t, s16], S⟩) ?_ ?_ ?_
  · exact ⟨[], far, s15, rfl, rfl, hl, rfl, rfl⟩
  · rintro i x m acc hx ⟨dn, far', t, rfl, h1, h2, h3, rfl⟩
    rw [List.getElem?_map, Option.map_eq_some_iff] at hx
    obtain ⟨y, hy, rfl⟩ := hx
    have hi := (List.getElem?_eq_some_iff.mp hy).1
    have hd : e.drop i = y :: e.drop (i + 1) := by
      rw [List.drop_eq_getElem_cons hi]
      rw [List.getElem?_eq_getElem hi] at hy
      rw [Option.some.inj hy]
    rw [hd] at h1 h2
    have hz : (dn.map D.int).length < sizeLine := by
      rw [List.length_map]
      exact sz_lt (by omega)
    rw [List.filter_cons] at h2
    rw [fill_cons] at h1
    walk_at "kd"
    refine W_tf (fun hc => ?_) (fun hc => ?_)
    · have hc' : y < 0 := by simpa using hc
      rw [if_neg (by simpa using hc')] at h2
      rw [if_pos hc'] at h1
      walk_at "kd"
      exact ⟨by rw [List.length_map] at hz; exact hz, dn ++ [-1], far', _, by rw [List.map_append]; rfl, by rw [List.append_assoc]; exact h1, h2, by rw [List.length_append, List.length_singleton, h3], rfl⟩
    · have hc' : ¬ y < 0 := by simpa using hc
      rw [if_pos (by simpa using hc')] at h2
      rw [if_neg hc'] at h1
      cases far' with
      | nil => simp at h2
      | cons f fs =>
        rw [List.length_cons, List.length_cons] at h2
        simp only at h1
        have hp : lPop [.int 0] ((f :: fs).map D.int) = some (.v (.int f), fs.map D.int) := by
          have hlf : (f :: fs).length ≤ 1000000 := by
            have := List.length_filter_le (fun v : Int => decide (0 ≤ v)) (e.drop (i + 1))
            have h5 := List.length_drop (i := i + 1) (l := e)
            rw [List.length_cons]
            omega
          obtain ⟨x, p1, p2⟩ := lPop_at (xs := (f :: fs).map D.int) (i := 0) (Int.le_refl _) (by rw [List.length_map, List.length_cons]; omega) (by rw [List.length_map]; exact hlf)
          rw [p2]
          cases p1
          rfl
        walk_at "kd"
        rw [hp]
        walk_at "kd"
        exact ⟨by rw [List.length_map] at hz; exact hz, dn ++ [f], fs, _, by rw [List.map_append]; rfl, by rw [List.append_assoc]; exact h1, by omega, by rw [List.length_append, List.length_singleton, h3], rfl⟩
  · rintro m acc ⟨dn, far', t, rfl, h1, h2, h3, rfl⟩
    rw [List.length_map] at h1 h2 h3
    rw [List.drop_length] at h1 h2
    have hf : far' = [] := List.eq_nil_of_length_eq_zero (by simpa using h2.symm)
    subst hf
    have : dn = fillI e far := by simpa [fillI] using h1
    rw [this]
    exact q t
theorem turned_ok {P : List Cd} {wf k i iM iD n : Nat} {S : List Ob} {ts : List (List Int)} {Q : Op → List Ob → Prop} (h : P[i]? = some ⟨b_law_turned iD iM, 3, 17⟩) (hM : P[iM]? = some ⟨b_law_mixed iD, 2, 4⟩) (hD : P[iD]? = some ⟨b_law_draw, 2, 8⟩)
    (hwf : 100 < wf) (hn : Six n) (hR : RW S) (T : Tab n ts) (q : ∀ us S', Tab n us → RW S' → Q (.v (tT us)) S') : WC (ctK P wf (k + 3) i [.loc 1, .dct (worldK n), tT ts] S) Q := by
  have h64 := six_lots hn
  have hn6 := six_le hn
  have hn5 := six_ge hn
  have hL : n + 1 < (lotsI n).length := by rcases hn with rfl | rfl <;> decide
  have hlen := T.len
  refine WC_ct h rfl ?_
  unfold b_law_turned
  refine W_step (fun m => m = ⟨[.val (.loc 1), .val (.dct (worldK n)), .val (tT ts), .un, .un, .un, .val (.int (n : Nat)), .ol (ts.map tI), .un, .un, .un, .un, .un, .un, .un, .un, .un], S⟩) ?_ ?_
  · walk_at "kd"
  rintro m1 rfl
  refine W_step (fun m => ∃ (a : Nat) (S' : List Ob), a + n + 1 < (lotsI n).length ∧ RW S' ∧ m = ⟨[.val (.loc 1), .val (.dct (worldK n)), .val (tT ts), .val (.int (a : Nat)), .un, .un, .val (.int (n : Nat)), .ol (ts.map tI), .un, .un, .un, .un, .un, .un, .un, .un, .un], S'⟩) ?_ ?_
  · walk_at "kd"
    refine draw_ok hD hR (by omega) (by omega) fun z S' z1 z2 hR' => ?_
    walk_at "kd"
    refine ⟨z.toNat, S', by omega, hR', ?_⟩
    rw [show ((z.toNat : Nat) : Int) = z by omega]
  rintro m1 ⟨a, S1, ha, hR1, rfl⟩
  obtain ⟨lot, hlot⟩ : ∃ lot, (lotsI n)[a]? = some lot := ⟨_, List.getElem?_eq_getElem (by omega)⟩
  obtain ⟨e, he, E⟩ := tab_at T hlot
  have hat : a < ts.length := by omega
  have ixa : L2.atI (ts.map tI) (a : Nat) = some (tI e) := by rw [atI_nat, List.getElem?_map, he]; rfl
  refine W_step (fun m => ∃ (S' : List Ob), RW S' ∧ m = ⟨[.val (.loc 1), .val (.dct (worldK n)), .val (tT ts), .val (.int (a : Nat)), .un, .un, .val (.int (n : Nat)), .ol (ts.map tI), .un, .un, .un, .un, .un, .un, .un, .un, .un], S'⟩) ?_ ?_
  · walk_at "kd"
    refine draw_ok hD hR1 (by omega) (by omega) fun z S2 z1 z2 hR2 => ?_
    walk_at "kd"
    refine W_if' (fun _ => ?_) (fun _ => ?_)
    · refine W_step (fun m => ∃ (x y : Nat) (u v : Int) (S' : List Ob), e[x]? = some u ∧ e[y]? = some v ∧ 0 ≤ u ∧ 0 ≤ v ∧ u ≠ v ∧ RW S' ∧ m = ⟨[.val (.loc 1), .val (.dct (worldK n)), .val (tT ts), .val (.int (a : Nat)), .un, .un, .val (.int (n : Nat)), .ol (ts.map tI), .un, .un, .un, .un, .un, .un, .val (.int (x : Nat)), .val (.int (y : Nat)), .un], S'⟩) ?_ ?_
      · walk_at "kd"
        refine W_rgI (by omega) ?_
        refine W_compF D.int (fun x => decide (x ∉ lot)) (fun x => x) (by rw [rgI_len]; exact sz_le (by omega)) (fun x hx => ?_) ?_
        · have hx2 := rgI_mem.mp hx
          have h3 : x.toNat < e.length := by rw [E.len]; omega
          have hg := List.getElem?_eq_getElem h3
          have hng := E.neg _ _ hg
          have hrg := E.rng _ (List.getElem_mem h3)
          rw [show ((x.toNat : Nat) : Int) = x by omega] at hng
          walk_at "kd"
          rw [ixa]
          walk_at "kd"
          rw [atI_pos _ hx2.1, List.getElem?_map, hg]
          walk_at "kd"
          refine ⟨?_, fun _ => trivial, fun _ => trivial⟩
          rw [decide_eq_decide, ← hng]
          omega
        walk_at "kd"
        rw [List.map_id']
        have hsub : ((rgI n).filter fun x => decide (x ∉ lot)).length ≤ n := by
          have := List.length_filter_le (fun x => decide (x ∉ lot)) (rgI n)
          rw [rgI_len] at this
          exact this
        refine mixedT_ok hM hD hR2 (.inl rfl) (by omega) (by omega) okd_int fun zs S3 hp hR3 => ?_
        have hp2 := hp.length_eq
        have h2 : 2 ≤ ((rgI n).filter fun x => decide (x ∉ lot)).length := two_of hn ha hlot
        obtain ⟨x, y, r, rfl⟩ := first_two (by omega : 2 ≤ zs.length)
        have fx : ∀ x ∈ ((rgI n).filter fun x => decide (x ∉ lot)), ∃ (j : Nat) (u : Int), x = (j : Nat) ∧ e[j]? = some u ∧ 0 ≤ u := fun x hx => by
          rw [List.mem_filter, rgI_mem] at hx
          have h3 : x.toNat < e.length := by rw [E.len]; omega
          have hg := List.getElem?_eq_getElem h3
          have hng := E.neg _ _ hg
          have hrg := E.rng _ (List.getElem_mem h3)
          rw [show ((x.toNat : Nat) : Int) = x by omega] at hng
          refine ⟨x.toNat, _, by omega, hg, ?_⟩
          have hx3 : x ∉ lot := by simpa using hx.2
          rw [← hng] at hx3
          omega
        obtain ⟨jx, u, rfl, hu, u0⟩ := fx x (hp.subset (List.mem_cons_self ..))
        obtain ⟨jy, v, rfl, hv, v0⟩ := fx y (hp.subset (List.mem_cons_of_mem _ (List.mem_cons_self ..)))
        have hnd := (hp.nodup_iff).mpr ((rgI_nodup n).sublist List.filter_sublist)
        have hne : jx ≠ jy := by
          rw [List.nodup_cons] at hnd
          intro z
          subst z
          exact hnd.1 (List.mem_cons_self ..)
        walk_at "kd"
        simp only [cut2, List.take_succ_cons, List.take_zero, List.map_cons, List.map_nil]
        walk_at "kd"
        exact ⟨jx, jy, u, v, S3, hu, hv, u0, v0, fun z => hne (E.inj jx jy u hu (by rw [z]; exact hv) u0), hR3, rfl⟩
      rintro m1 ⟨x, y, u, v, S', hu, hv, u0, v0, huv, hR', rfl⟩
      have ru := E.rng u (List.mem_of_getElem? hu)
      have rv := E.rng v (List.mem_of_getElem? hv)
      have ixx : L2.atI (e.map D.int) (x : Nat) = some (.int u) := by rw [atI_nat, List.getElem?_map, hu]; rfl
      have ixy : L2.atI (e.map D.int) (y : Nat) = some (.int v) := by rw [atI_nat, List.getElem?_map, hv]; rfl
      refine W_step (fun m => m = ⟨[.val (.loc 1), .val (.dct (worldK n)), .val (tT ts), .val (.int (a : Nat)), .un, .un, .val (.int (n : Nat)), .ol (ts.map tI), .od [(.i u, .int v), (.i v, .int u)], .un, .un, .un, .un, .un, .val (.int (x : Nat)), .val (.int (y : Nat)), .un], S'⟩) ?_ ?_
      · walk_at "kd"
        rw [ixa]
        walk_at "kd"
        rw [ixx]
        walk_at "kd"
        rw [ixa]
        walk_at "kd"
        rw [ixy]
        walk_at "kd"
        rw [ixa]
        walk_at "kd"
        rw [ixy]
        walk_at "kd"
        rw [ixa]
        walk_at "kd"
        rw [ixx]
        walk_at "kd"
        rw [if_pos (by rfl), merge_turns huv]
        walk_at "kd"
      rintro m1 rfl
      refine W_step (fun m => ∃ s16, m = ⟨[.val (.loc 1), .val (.dct (worldK n)), .val (tT ts), .val (.int (a : Nat)), .un, .un, .val (.int (n : Nat)), .ol ((ts.set a (e.map (swapI u v))).map tI), .od [(.i u, .int v), (.i v, .int u)], .un, .un, .un, .un, .un, .val (.int (x : Nat)), .val (.int (y : Nat)), s16], S'⟩) ?_ ?_
      · walk_at "kd"
        rw [ixa]
        walk_at "kd"
        refine W_compA D.int (swapI u v) (sz_le (by rw [E.len]; omega)) (fun y hy => ?_) ?_
        · walk_at "kd"
          rw [get_turns]
          walk_at "kd"
        walk_at "kd"
        rw [setL_nat (by rw [List.length_map]; exact hat)]
        walk_at "kd"
        exact ⟨_, by rw [List.map_set]⟩
      rintro m1 ⟨s16, rfl⟩
      walk_at "kd"
      exact q _ S' (tab_set T hlot (ent_swap E u0 ru.2 v0 rv.2)) hR'
    · walk_at "kd"
      exact ⟨S2, hR2, rfl⟩
  rintro m1 ⟨S2, hR2, rfl⟩
  refine W_step (fun m => ∃ (s : Int) (S' : List Ob), 1 ≤ s ∧ s < n ∧ RW S' ∧ m = ⟨[.val (.loc 1), .val (.dct (worldK n)), .val (tT ts), .val (.int (a : Nat)), .val (.int s), .un, .val (.int (n : Nat)), .ol (ts.map tI), .un, .un, .un, .un, .un, .un, .un, .un, .un], S'⟩) ?_ ?_
  · walk_at "kd"
    refine draw_ok hD hR2 (by omega) (by omega) fun z S3 z1 z2 hR3 => ?_
    walk_at "kd"
    exact ⟨1 + z, S3, by omega, by omega, hR3, rfl⟩
  rintro m1 ⟨s, S3, s1, s2, hR3, rfl⟩
  refine W_step (fun m => ∃ (o p : Nat) (S' : List Ob), o ≠ p ∧ (o : Int) ∈ sizeAt n s ∧ (p : Int) ∈ sizeAt n s ∧ RW S' ∧ m = ⟨[.val (.loc 1), .val (.dct (worldK n)), .val (tT ts), .val (.int (a : Nat)), .val (.int s), .un, .val (.int (n : Nat)), .ol (ts.map tI), .un, .val (.int (o : Nat)), .val (.int (p : Nat)), .un, .un, .un, .un, .un, .un], S'⟩) ?_ ?_
  · walk_at "kd"
    refine W_rgI (by omega) ?_
    refine W_compF D.int (fun k => decide (((((lotsI n)[k.toNat]?).getD []).length : Int) = s)) (fun x => x) (by rw [rgI_len]; exact sz_le (by omega)) (fun x hx => ?_) ?_
    · have hx2 := rgI_mem.mp hx
      have h3 : x.toNat < (lotsI n).length := by omega
      walk_at "kd"
      rw [atI_pos _ hx2.1, List.getElem?_map, List.getElem?_eq_getElem h3]
      walk_at "kd"
      refine ⟨?_, fun _ => trivial, fun _ => trivial⟩
      rw [Option.getD_some]
    walk_at "kd"
    rw [List.map_id', hlen]
    have hszl : (sizeAt n s).length ≤ (lotsI n).length := by
      have := List.length_filter_le (fun k : Int => decide (((((lotsI n)[k.toNat]?).getD []).length : Int) = s)) (rgI (lotsI n).length)
      rw [rgI_len] at this
      exact this
    refine mixedT_ok (xs := sizeAt n s) hM hD hR3 (.inl rfl) (by omega) (by omega) okd_int fun zs S4 hp hR4 => ?_
    have hp2 := hp.length_eq
    have h2 := size_two hn s1 s2
    obtain ⟨x, y, r, rfl⟩ := first_two (by omega : 2 ≤ zs.length)
    have hx := hp.subset (List.mem_cons_self ..)
    have hy := hp.subset (List.mem_cons_of_mem _ (List.mem_cons_self ..))
    have hx0 : 0 ≤ x := by
      unfold sizeAt at hx
      rw [List.mem_filter, rgI_mem] at hx
      omega
    have hy0 : 0 ≤ y := by
      unfold sizeAt at hy
      rw [List.mem_filter, rgI_mem] at hy
      omega
    have hnd := (hp.nodup_iff).mpr ((rgI_nodup (lotsI n).length).sublist List.filter_sublist)
    have hne : x ≠ y := by
      rw [List.nodup_cons] at hnd
      intro z
      subst z
      exact hnd.1 (List.mem_cons_self ..)
    walk_at "kd"
    simp only [cut2, List.take_succ_cons, List.take_zero, List.map_cons, List.map_nil]
    walk_at "kd"
    refine ⟨x.toNat, y.toNat, S4, by omega, ?_, ?_, hR4, ?_⟩
    · rw [show ((x.toNat : Nat) : Int) = x by omega]; exact hx
    · rw [show ((y.toNat : Nat) : Int) = y by omega]; exact hy
    · rw [show ((x.toNat : Nat) : Int) = x by omega, show ((y.toNat : Nat) : Int) = y by omega]
  rintro m1 ⟨o, p, S4, hop, ho, hp, hR4, rfl⟩
  have mem : ∀ j : Nat, (j : Int) ∈ sizeAt n s → ∃ lot, (lotsI n)[j]? = some lot ∧ (lot.length : Int) = s := fun j hj => by
    unfold sizeAt at hj
    rw [List.mem_filter, rgI_mem, Int.toNat_natCast] at hj
    have h3 : j < (lotsI n).length := by omega
    refine ⟨_, List.getElem?_eq_getElem h3, ?_⟩
    have := hj.2
    rw [List.getElem?_eq_getElem h3, decide_eq_true_eq] at this
    exact this
  obtain ⟨l1, hl1, z1⟩ := mem o ho
  obtain ⟨l2, hl2, z2⟩ := mem p hp
  obtain ⟨e1, he1, E1⟩ := tab_at T hl1
  obtain ⟨e2, he2, E2⟩ := tab_at T hl2
  have c1 := left_of hn (List.mem_of_getElem? hl1)
  have c2 := left_of hn (List.mem_of_getElem? hl2)
  have n1 := pos_len E1
  have n2 := pos_len E2
  have ix1 : L2.atI (ts.map tI) (o : Nat) = some (tI e1) := by rw [atI_nat, List.getElem?_map, he1]; rfl
  have ix2 : L2.atI (ts.map tI) (p : Nat) = some (tI e2) := by rw [atI_nat, List.getElem?_map, he2]; rfl
  have g1 : ∀ {lot e : List Int}, Ent n lot e → ∀ v ∈ e.filter (fun v => decide (0 ≤ v)), 0 ≤ v ∧ v < n := fun E v hv => by
    rw [List.mem_filter] at hv
    have := E.rng v hv.1
    have h0 : 0 ≤ v := by simpa using hv.2
    omega
  refine W_step (fun m => ∃ s11 s15, m = ⟨[.val (.loc 1), .val (.dct (worldK n)), .val (tT ts), .val (.int (a : Nat)), .val (.int s), .ol [.lst ((e1.filter fun v => decide (0 ≤ v)).map D.int), .lst ((e2.filter fun v => decide (0 ≤ v)).map D.int)], .val (.int (n : Nat)), .ol (ts.map tI), .un, .val (.int (o : Nat)), .val (.int (p : Nat)), s11, .un, .un, .un, s15, .un], S4⟩) ?_ ?_
  · walk_at "kd"
    rw [W_compL_cons]
    walk_at "kd"
    rw [ix1]
    walk_at "kd"
    refine W_compF D.int (fun v => decide (0 ≤ v)) (fun x => x) (sz_le (by rw [E1.len]; omega)) (fun x hx => ?_) ?_
    · walk_at "kd"
      simp
    walk_at "kd"
    rw [W_compL_cons]
    walk_at "kd"
    rw [ix2]
    walk_at "kd"
    refine W_compF D.int (fun v => decide (0 ≤ v)) (fun x => x) (sz_le (by rw [E2.len]; omega)) (fun x hx => ?_) ?_
    · walk_at "kd"
      simp
    walk_at "kd"
    rw [W_compL_nil, compQ_eq]
    walk_at "kd"
    simp only [List.map_id', List.nil_append, List.cons_append]
    exact ⟨sz_lt (by simp), _, _, rfl⟩
  rintro m1 ⟨s11, s15, rfl⟩
  have d1 := ent_nodup E1
  have d2 := ent_nodup E2
  have F1 : Ent n l1 (fillI e1 (e2.filter fun v => decide (0 ≤ v))) := ent_fill E1 (by omega) (g1 E2) d2
  have F2 : Ent n l2 (fillI e2 (e1.filter fun v => decide (0 ≤ v))) := ent_fill E2 (by omega) (g1 E1) d1
  refine W_step (fun m => ∃ s11 s12 s13 s15, m = ⟨[.val (.loc 1), .val (.dct (worldK n)), .val (tT ts), .val (.int (a : Nat)), .val (.int s), .ol [.lst ((e1.filter fun v => decide (0 ≤ v)).map D.int), .lst ((e2.filter fun v => decide (0 ≤ v)).map D.int)], .val (.int (n : Nat)),
    .ol (((ts.set o (fillI e1 (e2.filter fun v => decide (0 ≤ v)))).set p (fillI e2 (e1.filter fun v => decide (0 ≤ v)))).map tI), .un, .val (.int (o : Nat)), .val (.int (p : Nat)), s11, s12, s13, .un, s15, .un], S4⟩) ?_ ?_
  · walk_at "kd"
    rw [ix1]
    walk_at "kd"
    refine fill_run (by rw [E1.len]; omega) (by omega) fun t => ?_
    rw [compQ_eq]
    walk_at "kd"
    rw [setL_nat (by rw [List.length_map, hlen]; exact (List.getElem?_eq_some_iff.mp hl1).1)]
    walk_at "kd"
    have ix3 : ∀ d, L2.atI ((ts.map tI).set o d) (p : Nat) = some (tI e2) := fun d => by rw [atI_nat, List.getElem?_set_ne hop, List.getElem?_map, he2]; rfl
    rw [ix3]
    walk_at "kd"
    refine fill_run (by rw [E2.len]; omega) (by omega) fun t => ?_
    rw [compQ_eq]
    walk_at "kd"
    rw [setL_nat (by rw [List.length_set, List.length_map, hlen]; exact (List.getElem?_eq_some_iff.mp hl2).1)]
    walk_at "kd"
    exact ⟨_, _, _, _, by rw [List.map_set, List.map_set]⟩
  rintro m1 ⟨s11, s12, s13, s15, rfl⟩
  walk_at "kd"
  exact q _ S4 (tab_set (tab_set T hl1 F1) hl2 F2) hR4
end Kd

namespace Kd
open PySem
local macro_rules | `(tactic| walk_at "kd") => `(tactic| try simp -dsimp +decide only [W_ok, W_seq, seqQ_nx, seqQ_rt, seqQ_bk, seqQ_ct, W_asg, stQ_some, W_un, W_par2, W_exp, W_ret, rtQ_v, rtQ_nl, rtQ_nd, rtQ_slot, rtS_ol, rtS_od, W_retN, W_skip, W_brk, W_cnt, W_if, ifQ_t, ifQ_f, okQ_some, W_of, W_eC, W_eVar,
  vaQ_val, vaQ_ol, vaQ_od, W_eF, W_fz_v, W_fz_nl, W_fz_nd, W_fz, fzQ_val, fzQ_ol, fzQ_od, W_fzS_v, W_fzS_nl, W_fzS_nd, W_fzS_sl, W_list_nil, W_list_cons, W_tup, W_lst, W_e1, W_e2, W_t1, W_t2, W_t3, tfQ_t, tfQ_f, W_eB, boQ_bl, W_tE, W_tNot, W_and_nil, W_or_nil, W_and, W_or,
  W_eand1, W_eor1, W_eand, W_eor, W_eIf, W_tIf, W_optN, W_optS, inQ_i, W_slice, W_call, W_callK, W_share, shQ_nl, shQ_nd, W_rng1, W_rng2, W_seqI, W_enumI, W_zipI, W_lstI, W_for, turnQ_nx, turnQ_ct, turnQ_bk, turnQ_rt, W_mutL, W_mut, muQ_ol, W_mutO, muO_lst, W_mutD, mdQ_od, W_mutDO, mdO_dct, W_meth, W_set, setQ_eq, setV_l, setV_k,
  W_kvs_nil, W_kvs_cons, W_dct, W_dctZ, W_comp, vw_v, vw_nl, vw_nd, vw_sl, vwS_ol, vwS_od, vwD_int, vwD_str, vwD_bl, vwD_non, vwD_tup, vwD_lst, vwD_dct, vwD_loc, vwO_lst, vwO_dct, setSl_v, setSl_nl, setSl_nd, setSl_sl, slS_ol, slS_od, pat_n, pat_t, pat_tl, pats_nil, pats_cons,
  oAdd_i, oSub_i, oNeg_i, cLt_i, cLe_i, cGt_i, cGe_i, bLen_l, bLen_t, bLen_k, bTuple_l, bTuple_t, bList_l, bList_t, bInt_i, oIx_l, oIx_t, oIx_k, kvO_some, kk_int, kk_str, isTy_int, isTy_tup, isTy_bl, isTy_str, isTy_non, isTy_l, isTy_k, vwDD, frozen_t, frozen_l, bind_some', map_some', map_none', start1, start2, start3, start4,
  retQ_rt, retQ_nx, get0, getS, set0, setS, List.replicate, List.length_cons, List.length_nil, Nat.reduceAdd, Nat.reduceSub, Nat.reduceMul, Nat.reduceLeDiff, isL_l, isK_k, Option.bind_some, if_true, if_false, ite_true, ite_false, Bool.not_true, Bool.not_false, true_and, and_true, Option.map_some, Option.map_none, reduceIte, reduceCtorEq, decide_true, decide_false, vwLD, vwKD, sz0, sz1, sz2, sz3, sz4, sz5, sz6, sz7, sz8, sz9, sz10, joinQ_nx, joinQ_rt, joinQ_bk, joinQ_ct, reel_deep, reel_cells, reel_stamp, reel_count, reel_set, cEq_i, cNe_i, cNe_b, cEq_tI, cNe_tI, cIn_t, cIn_l, cNotIn_t, cNotIn_l, List.length_map, oMul_r, oMul_l, oMod_i, oFdiv_i, oPow_i, lAppend_one, rgQ_i, rgQ2_i, W_forL_nil, W_forL_cons, wipeM_mk, wipeS_nil, wipeS_cons, backS_nil, backS_cons, keptS_un, keptS_val, keptS_ol, keptS_od, oCut_l, oCut_t, Int.toNat_natCast, forall_const, imp_self, atI_pos, Int.reduceToNat, bSorted_ints, bMin_ints, bMax_ints, cut_map, w_n, w_lots, w_spots, kk_tI, rng_0, rng_1, rng_2, rng_3, rng_4, rng_5, rng_6, rng_7, rng_8, rng_9, rng_10, rng_11, rng_12, rng_13, rng_14, rng_15, rng_16, rng_32, rng_64])

/-- an entry made of riders from the end of a list -/
def popI : List Int → List Int → List Int → List Int
  | [], _, _ => []
  | x :: xs, keys, far => if x ∈ keys then -1 :: popI xs keys far else (far.getLast?.getD 0) :: popI xs keys far.dropLast
theorem pop_get : ∀ (xs keys far : List Int), (xs.filter fun x => decide (x ∉ keys)).length ≤ far.length → ∀ (i : Nat) (v : Int), (popI xs keys far)[i]? = some v →
    ∃ x, xs[i]? = some x ∧ ((x ∈ keys ∧ v = -1) ∨ (x ∉ keys ∧ ∃ j : Nat, j + 1 + ((xs.take i).filter fun x => decide (x ∉ keys)).length = far.length ∧ far[j]? = some v))
  | [], _, _, _, i, v, h => by simp [popI] at h
  | x :: xs, keys, far, hl, i, v, h => by
    unfold popI at h
    by_cases hx : x ∈ keys
    · rw [if_pos hx] at h
      rw [List.filter_cons, if_neg (by simpa using hx)] at hl
      cases i with
      | zero => simp at h; exact ⟨x, rfl, .inl ⟨hx, h.symm⟩⟩
      | succ i =>
        obtain ⟨y, h1, h2⟩ := pop_get xs keys far hl i v (by simpa using h)
        refine ⟨y, by simpa using h1, ?_⟩
        rw [List.take_succ_cons, List.filter_cons, if_neg (by simpa using hx)]
        exact h2
    · rw [if_neg hx] at h
      rw [List.filter_cons, if_pos (by simpa using hx), List.length_cons] at hl
      have hf : far.dropLast.length + 1 = far.length := by rw [List.length_dropLast]; omega
      cases i with
      | zero =>
        simp at h
        refine ⟨x, rfl, .inr ⟨hx, far.length - 1, by simp; omega, ?_⟩⟩
        have h3 : far.length - 1 < far.length := by omega
        rw [List.getLast?_eq_getElem?, List.getElem?_eq_getElem h3] at h
        rw [List.getElem?_eq_getElem h3, ← h]
        rfl
      | succ i =>
        obtain ⟨y, h1, h2⟩ := pop_get xs keys far.dropLast (by omega) i v (by simpa using h)
        refine ⟨y, by simpa using h1, ?_⟩
        rw [List.take_succ_cons, List.filter_cons, if_pos (by simpa using hx), List.length_cons]
        rcases h2 with h2 | ⟨h2, j, h3, h4⟩
        · exact .inl h2
        · refine .inr ⟨h2, j, by omega, ?_⟩
          rw [List.getElem?_dropLast] at h4
          split at h4
          · exact h4
          · cases h4
theorem pop_len : ∀ xs keys far : List Int, (popI xs keys far).length = xs.length
  | [], _, _ => rfl
  | x :: xs, keys, far => by
    unfold popI
    split <;> rw [List.length_cons, pop_len xs, List.length_cons]
theorem pop_cons (x : Int) (xs keys far : List Int) : popI (x :: xs) keys far = if x ∈ keys then -1 :: popI xs keys far else (far.getLast?.getD 0) :: popI xs keys far.dropLast := by simp only [popI]
theorem ent_pop {n : Nat} {lot far : List Int} (hl : (subI n fun x => decide (x ∉ lot)).length ≤ far.length) (hf : ∀ v ∈ far, 0 ≤ v ∧ v < n) (hd : far.Nodup) : Ent n lot (popI (rgI n) lot far) := by
  have get := pop_get (rgI n) lot far hl
  have gx : ∀ {i : Nat} {x : Int}, (rgI n)[i]? = some x → x = (i : Int) ∧ i < n := fun {i x} h => by
    rw [rgI_get] at h
    split at h
    · cases h; exact ⟨rfl, by assumption⟩
    · cases h
  refine ⟨by rw [pop_len, rgI_len], fun x v h => ?_, fun v h => ?_, fun i j v h1 h2 h3 => ?_⟩
  · obtain ⟨y, h1, h2⟩ := get x v h
    obtain ⟨rfl, _⟩ := gx h1
    rcases h2 with ⟨h2, h3⟩ | ⟨h2, j, _, h3⟩
    · simp [h2, h3]
    · have := hf v (List.mem_of_getElem? h3)
      constructor
      · intro z; omega
      · intro z; exact absurd z h2
  · obtain ⟨x, hx⟩ := List.mem_iff_getElem?.mp h
    obtain ⟨y, h1, h2⟩ := get x v hx
    have := (gx h1).2
    rcases h2 with ⟨h2, h3⟩ | ⟨h2, j, _, h3⟩
    · omega
    · have := hf v (List.mem_of_getElem? h3)
      omega
  · obtain ⟨y, a1, a2⟩ := get i v h1
    obtain ⟨z, b1, b2⟩ := get j v h2
    rcases a2 with ⟨_, q⟩ | ⟨a2, p, hp, a3⟩
    · omega
    · rcases b2 with ⟨_, q⟩ | ⟨b2, r, hr, b3⟩
      · omega
      · have hpr : p = r := by
          have hpl := (List.getElem?_eq_some_iff.mp a3).1
          exact (List.getElem?_inj hpl hd).mp (a3.trans b3.symm)
        subst hpr
        rcases Nat.lt_trichotomy i j with q | q | q
        · have := take_count (fun x => decide (x ∉ lot)) (rgI n) i j y q a1 (by simpa using a2)
          omega
        · exact q
        · have := take_count (fun x => decide (x ∉ lot)) (rgI n) j i z q b1 (by simpa using b2)
          omega
theorem lPop_end {far : List Int} (h : far ≠ []) : lPop [] (far.map D.int) = some (.v (.int (far.getLast?.getD 0)), far.dropLast.map D.int) := by
  have h3 : far.length - 1 < far.length := by
    have := List.length_pos_iff.mpr h
    omega
  show ((far.map D.int)[(far.map D.int).length - 1]?).map _ = _
  rw [List.length_map, List.getElem?_map, List.getElem?_eq_getElem h3, ← List.map_dropLast, List.getLast?_eq_getElem?, List.getElem?_eq_getElem h3]
  rfl
theorem entry_ok {P : List Cd} {wf k i iM iD n : Nat} {S : List Ob} {lot last : List Int} {Q : Op → List Ob → Prop} (h : P[i]? = some ⟨b_law_entry iM, 4, 6⟩) (hM : P[iM]? = some ⟨b_law_mixed iD, 2, 4⟩) (hD : P[iD]? = some ⟨b_law_draw, 2, 8⟩)
    (hwf : 100 < wf) (hn : Six n) (hR : RW S) (hl : (subI n fun x => decide (x ∉ lot)).length ≤ (subI n fun x => decide (x ∉ last)).length)
    (q : ∀ e S', Ent n lot e → RW S' → Q (.v (tI e)) S') : WC (ctK P wf (k + 3) i [.loc 1, .int (n : Nat), tI lot, tI last] S) Q := by
  have hn6 := six_le hn
  refine WC_ct h rfl ?_
  unfold b_law_entry
  refine W_step (fun m => ∃ (far : List Int) (S' : List Ob), far.Perm (subI n fun x => decide (x ∉ last)) ∧ RW S' ∧ m = ⟨[.val (.loc 1), .val (.int (n : Nat)), .val (tI lot), .val (tI last), .ol (far.map D.int), .un], S'⟩) ?_ ?_
  · walk_at "kd"
    refine W_rgI (by omega) ?_
    refine W_compF D.int (fun x => decide (x ∉ last)) (fun x => x) (by rw [rgI_len]; exact sz_le (by omega)) (fun x hx => ?_) ?_
    · walk_at "kd"
      simp
    walk_at "kd"
    rw [List.map_id']
    have hsub : ((rgI n).filter fun x => decide (x ∉ last)).length ≤ n := by
      have := List.length_filter_le (fun x => decide (x ∉ last)) (rgI n)
      rw [rgI_len] at this
      exact this
    refine mixedT_ok hM hD hR (.inl rfl) (by omega) (by omega) okd_int fun zs S3 hp hR3 => ?_
    walk_at "kd"
    exact ⟨zs, S3, hp, hR3, rfl⟩
  rintro m1 ⟨far, S1, hp, hR1, rfl⟩
  have hfl := hp.length_eq
  have hnd : far.Nodup := (hp.nodup_iff).mpr ((rgI_nodup n).sublist List.filter_sublist)
  have hfr : ∀ v ∈ far, 0 ≤ v ∧ v < n := fun v hv => by
    have := hp.subset hv
    unfold subI at this
    rw [List.mem_filter, rgI_mem] at this
    exact this.1
  walk_at "kd"
  refine W_rgI (by omega) ?_
  refine W_compL (fun i m acc => ∃ (dn far' : List Int) (t : Sl), acc = dn.map D.int ∧ dn ++ popI ((rgI n).drop i) lot far' = popI (rgI n) lot far ∧ (((rgI n).drop i).filter fun x => decide (x ∉ lot)).length ≤ far'.length ∧ dn.length = i ∧
    m = ⟨[.val (.loc 1), .val (.int (n : Nat)), .val (tI lot), .val (tI last), .ol (far'.map D.int), t], S1⟩) ?_ ?_ ?_
  · exact ⟨[], far, _, rfl, rfl, by rw [List.drop_zero, hfl]; exact hl, rfl, rfl⟩
  · rintro i x m acc hx ⟨dn, far', t, rfl, h1, h2, h3, rfl⟩
    rw [List.getElem?_map, Option.map_eq_some_iff] at hx
    obtain ⟨y, hy, rfl⟩ := hx
    have hi := (List.getElem?_eq_some_iff.mp hy).1
    have hi2 := hi
    rw [rgI_len] at hi2
    have hd : (rgI n).drop i = y :: (rgI n).drop (i + 1) := by
      rw [List.drop_eq_getElem_cons hi]
      rw [List.getElem?_eq_getElem hi] at hy
      rw [Option.some.inj hy]
    rw [hd] at h1 h2
    have hz : (dn.map D.int).length < sizeLine := by
      rw [List.length_map]
      exact sz_lt (by omega)
    rw [List.filter_cons] at h2
    rw [pop_cons] at h1
    walk_at "kd"
    refine W_tf (fun hc => ?_) (fun hc => ?_)
    · have hc' : y ∈ lot := by simpa using hc
      rw [if_neg (by simpa using hc')] at h2
      rw [if_pos hc'] at h1
      walk_at "kd"
      exact ⟨by rw [List.length_map] at hz; exact hz, dn ++ [-1], far', _, by rw [List.map_append]; rfl, by rw [List.append_assoc]; exact h1, h2, by rw [List.length_append, List.length_singleton, h3], rfl⟩
    · have hc' : y ∉ lot := by simpa using hc
      rw [if_pos (by simpa using hc'), List.length_cons] at h2
      rw [if_neg hc'] at h1
      have hne : far' ≠ [] := by
        intro z
        subst z
        simp at h2
      walk_at "kd"
      rw [lPop_end hne]
      walk_at "kd"
      exact ⟨by rw [List.length_map] at hz; exact hz, dn ++ [far'.getLast?.getD 0], far'.dropLast, _, by rw [List.map_append]; rfl, by rw [List.append_assoc]; exact h1, by rw [List.length_dropLast]; omega, by rw [List.length_append, List.length_singleton, h3], rfl⟩
  · rintro m acc ⟨dn, far', t, rfl, h1, h2, h3, rfl⟩
    rw [List.length_map] at h1 h2 h3
    rw [List.drop_length] at h1
    have : dn = popI (rgI n) lot far := by simpa [popI] using h1
    rw [compQ_eq]
    walk_at "kd"
    rw [this]
    exact q _ S1 (ent_pop (by rw [hfl]; exact hl) hfr hnd) hR1
/-- a part's item -/
def itD (k : Int) (e : List Int) : D := .tup [.int k, tI e]
theorem sortI_pw : ∀ l : List Int, (sortI l).Pairwise (· ≤ ·)
  | [] => List.Pairwise.nil
  | x :: l => by
    have key : ∀ (x : Int) (l : List Int), l.Pairwise (· ≤ ·) → (insI x l).Pairwise (· ≤ ·) ∧ ∀ y ∈ insI x l, y = x ∨ y ∈ l := by
      intro x l
      induction l with
      | nil => intro _; exact ⟨List.pairwise_singleton _ _, fun y hy => by simp [insI] at hy; exact .inl hy⟩
      | cons z l ih =>
        intro h
        rw [List.pairwise_cons] at h
        obtain ⟨h1, h2⟩ := ih h.2
        unfold insI
        split
        · rename_i hxz
          refine ⟨List.pairwise_cons.mpr ⟨fun y hy => ?_, List.pairwise_cons.mpr h⟩, fun y hy => by simpa using hy⟩
          rcases List.mem_cons.mp hy with e | hy
          · omega
          · have := h.1 y hy
            omega
        · rename_i hxz
          refine ⟨List.pairwise_cons.mpr ⟨fun y hy => ?_, h1⟩, fun y hy => ?_⟩
          · rcases h2 y hy with e | hy2
            · omega
            · exact h.1 y hy2
          · rcases List.mem_cons.mp hy with e | hy
            · exact .inr (e ▸ List.mem_cons_self ..)
            · rcases h2 y hy with e | hy2
              · exact .inl e
              · exact .inr (List.mem_cons_of_mem _ hy2)
    exact (key x (sortI l) (sortI_pw l)).1
theorem insI_pm (x : Int) : ∀ l : List Int, (insI x l).Perm (x :: l)
  | [] => List.Perm.refl _
  | y :: l => by
    unfold insI
    split
    · exact List.Perm.refl _
    · exact ((insI_pm x l).cons y).trans (List.Perm.swap x y l)
theorem sortI_pm : ∀ l : List Int, (sortI l).Perm l
  | [] => List.Perm.refl _
  | x :: l => (insI_pm x (sortI l)).trans ((sortI_pm l).cons x)
theorem sortI_lt {l : List Int} (h : l.Nodup) : (sortI l).Pairwise (· < ·) := by
  have h1 := sortI_pw l
  have h2 : (sortI l).Nodup := ((sortI_pm l).nodup_iff).mpr h
  exact List.Pairwise.imp₂ (fun a b (x : a ≤ b) (y : a ≠ b) => by omega) h1 h2
theorem part_ok {P : List Cd} {wf k i iD iM iP n : Nat} {S : List Ob} {ts : List (List Int)} {Q : Op → List Ob → Prop} (h : P[i]? = some ⟨b_law_part iD iM iP, 3, 11⟩) (hM : P[iM]? = some ⟨b_law_mixed iD, 2, 4⟩) (hD : P[iD]? = some ⟨b_law_draw, 2, 8⟩) (hP : P[iP]? = some ⟨b_law_pick iD, 2, 2⟩)
    (hwf : 100 < wf) (hn : Six n) (hR : RW S) (T : Tab n ts) (q : ∀ (ks : List Int) S', ks.Pairwise (· < ·) → (∀ k ∈ ks, 0 ≤ k ∧ k < (lotsI n).length) → RW S' → Q (.v (.tup (ks.map fun k => itD k ((ts[k.toNat]?).getD [])))) S') :
    WC (ctK P wf (k + 3) i [.loc 1, .dct (worldK n), tT ts] S) Q := by
  have hn6 := six_le hn
  have hn5 := six_ge hn
  have h64 := six_lots hn
  have hL : 0 < (lotsI n).length := by rcases hn with rfl | rfl <;> decide
  have hlen := T.len
  refine WC_ct h rfl ?_
  unfold b_law_part
  refine W_step (fun m => ∃ (way : Int) (S' : List Ob), RW S' ∧ m = ⟨[.val (.loc 1), .val (.dct (worldK n)), .val (tT ts), .un, .un, .un, .val (.lst ((lotsI n).map tI)), .val (.int way), .un, .un, .un], S'⟩) ?_ ?_
  · walk_at "kd"
    refine draw_ok hD hR (by omega) (by omega) fun z S2 z1 z2 hR2 => ?_
    walk_at "kd"
    exact ⟨z, S2, hR2, rfl⟩
  rintro m1 ⟨way, S1, hR1, rfl⟩
  refine W_step (fun m => ∃ (sizes : List Int) (S' : List Ob) (s9 : Sl), RW S' ∧ m = ⟨[.val (.loc 1), .val (.dct (worldK n)), .val (tT ts), .ol (sizes.map D.int), .un, .un, .val (.lst ((lotsI n).map tI)), .val (.int way), .un, s9, .un], S'⟩) ?_ ?_
  · walk_at "kd"
    rw [show ((n : Nat) : Int) + 1 = ((n + 1 : Nat) : Int) by omega]
    refine W_rgI (by omega) ?_
    refine W_compL (fun i m acc => ∃ (dn : List Int) (S' : List Ob) (t : Sl), acc = dn.map D.int ∧ dn.length ≤ i ∧ RW S' ∧
      m = ⟨[.val (.loc 1), .val (.dct (worldK n)), .val (tT ts), .un, .un, .un, .val (.lst ((lotsI n).map tI)), .val (.int way), .un, t, .un], S'⟩) ?_ ?_ ?_
    · exact ⟨[], S1, _, rfl, Nat.le_refl _, hR1, rfl⟩
    · rintro i x m acc hx ⟨dn, S', t, rfl, hl, hR', rfl⟩
      have hi := (List.getElem?_eq_some_iff.mp hx).1
      rw [List.length_map, rgI_len] at hi
      obtain ⟨y, rfl, _⟩ := int_mem (List.mem_of_getElem? hx)
      walk_at "kd"
      refine draw_ok hD hR' (by omega) (by omega) fun z S2 z1 z2 hR2 => ?_
      walk_at "kd"
      refine W_tf (fun hc => ?_) (fun hc => ?_)
      · walk_at "kd"
        exact ⟨sz_lt (by omega), dn ++ [y], S2, _, by rw [List.map_append]; rfl, by rw [List.length_append, List.length_singleton]; omega, hR2, rfl⟩
      · exact ⟨dn, S2, _, rfl, by omega, hR2, rfl⟩
    · rintro m acc ⟨dn, S', t, rfl, hl, hR', rfl⟩
      rw [compQ_eq]
      walk_at "kd"
      exact ⟨dn, S', _, hR', rfl⟩
  rintro m1 ⟨sizes, S2, s9, hR2, rfl⟩
  refine W_step (fun m => ∃ (few : List Int) (S' : List Ob), few.Nodup ∧ (∀ k ∈ few, 0 ≤ k ∧ k < (lotsI n).length) ∧ RW S' ∧ m = ⟨[.val (.loc 1), .val (.dct (worldK n)), .val (tT ts), .ol (sizes.map D.int), .ol (few.map D.int), .un, .val (.lst ((lotsI n).map tI)), .val (.int way), .un, s9, .un], S'⟩) ?_ ?_
  · walk_at "kd"
    refine W_rgI (by omega) ?_
    rw [if_pos (by rw [List.length_map, rgI_len]; exact sz_le (by omega))]
    walk_at "kd"
    refine mixedT_ok hM hD hR2 (.inl rfl) (by rw [rgI_len]; omega) (by rw [rgI_len]; omega) okd_int fun zs S3 hp hR3 => ?_
    walk_at "kd"
    refine draw_ok hD hR3 (by omega) (by omega) fun z S4 z1 z2 hR4 => ?_
    obtain ⟨zn, rfl⟩ : ∃ zn : Nat, z = zn := ⟨z.toNat, by omega⟩
    walk_at "kd"
    rw [cut_take]
    have hnd := (hp.nodup_iff).mpr (rgI_nodup (lotsI n).length)
    refine ⟨zs.take zn, S4, hnd.sublist (List.take_sublist _ _), fun k hk => ?_, hR4, rfl⟩
    exact rgI_mem.mp (hp.subset (List.mem_of_mem_take hk))
  rintro m1 ⟨few, S3, hfn, hfr, hR3, rfl⟩
  refine W_step (fun m => ∃ (lack : Int) (S' : List Ob), RW S' ∧ m = ⟨[.val (.loc 1), .val (.dct (worldK n)), .val (tT ts), .ol (sizes.map D.int), .ol (few.map D.int), .val (.int lack), .val (.lst ((lotsI n).map tI)), .val (.int way), .un, s9, .un], S'⟩) ?_ ?_
  · walk_at "kd"
    refine W_rgI (by omega) ?_
    rw [if_pos (by rw [List.length_map, rgI_len]; exact sz_le (by omega))]
    walk_at "kd"
    refine pick_ok hP hD hR3 (.inl rfl) (by rw [List.length_map, rgI_len]; exact hL) (by rw [List.length_map, rgI_len]; omega) fun x S4 hx hR4 => ?_
    obtain ⟨y, rfl, _⟩ := int_mem hx
    walk_at "kd"
    exact ⟨y, S4, hR4, rfl⟩
  rintro m1 ⟨lack, S4, hR4, rfl⟩
  have fin : ∀ p : Int → Bool, ((rgI (lotsI n).length).filter p).Nodup ∧ ∀ k ∈ (rgI (lotsI n).length).filter p, 0 ≤ k ∧ k < (lotsI n).length := fun p => ⟨(rgI_nodup _).sublist List.filter_sublist, fun k hk => rgI_mem.mp (List.mem_filter.mp hk).1⟩
  refine W_step (fun m => ∃ (told : List Int) (S' : List Ob) (s4 s8 s9 s10 : Sl), told.Nodup ∧ (∀ k ∈ told, 0 ≤ k ∧ k < (lotsI n).length) ∧ RW S' ∧ (s8 = .ol (told.map D.int) ∨ s8 = .val (.lst (told.map D.int))) ∧
      m = ⟨[.val (.loc 1), .val (.dct (worldK n)), .val (tT ts), .ol (sizes.map D.int), s4, .val (.int lack), .val (.lst ((lotsI n).map tI)), .val (.int way), s8, s9, s10], S'⟩) ?_ ?_
  · walk_at "kd"
    refine W_if' (fun _ => ?_) (fun _ => ?_)
    · walk_at "kd"
      exact ⟨few, S4, _, _, _, _, hfn, hfr, hR4, .inr rfl, rfl⟩
    walk_at "kd"
    refine W_if' (fun _ => ?_) (fun _ => ?_)
    · walk_at "kd"
      refine W_rgI (by omega) ?_
      refine W_compL (fun i m acc => ∃ (dn : List Int) (S' : List Ob) (t : Sl), acc = dn.map D.int ∧ dn.Sublist ((rgI (lotsI n).length).take i) ∧ RW S' ∧
        m = ⟨[.val (.loc 1), .val (.dct (worldK n)), .val (tT ts), .ol (sizes.map D.int), .ol (few.map D.int), .val (.int lack), .val (.lst ((lotsI n).map tI)), .val (.int way), .un, s9, t], S'⟩) ?_ ?_ ?_
      · exact ⟨[], S4, _, rfl, by rw [List.take_zero]; exact List.Sublist.refl _, hR4, rfl⟩
      · rintro i x m acc hx ⟨dn, S', t, rfl, hl, hR', rfl⟩
        rw [List.getElem?_map, Option.map_eq_some_iff] at hx
        obtain ⟨y, hy, rfl⟩ := hx
        have hi := (List.getElem?_eq_some_iff.mp hy).1
        have hdl := hl.length_le
        rw [List.length_take] at hdl
        rw [rgI_len] at hi
        have et : (rgI (lotsI n).length).take (i + 1) = (rgI (lotsI n).length).take i ++ [y] := by
          rw [List.take_add_one, hy]; rfl
        walk_at "kd"
        refine draw_ok hD hR' (by omega) (by omega) fun z S2 z1 z2 hR2 => ?_
        walk_at "kd"
        refine W_tf (fun hc => ?_) (fun hc => ?_)
        · walk_at "kd"
          exact ⟨sz_lt (by omega), dn ++ [y], S2, _, by rw [List.map_append]; rfl, by rw [et]; exact hl.append (List.Sublist.refl _), hR2, rfl⟩
        · exact ⟨dn, S2, _, rfl, by rw [et]; exact hl.trans (List.sublist_append_left _ _), hR2, rfl⟩
      · rintro m acc ⟨dn, S', t, rfl, hl, hR', rfl⟩
        have hl2 := hl.trans (List.take_sublist _ _)
        rw [compQ_eq]
        walk_at "kd"
        exact ⟨dn, S', _, _, _, _, (rgI_nodup _).sublist hl2, fun k hk => rgI_mem.mp (hl2.subset hk), hR', .inl rfl, rfl⟩
    walk_at "kd"
    refine W_if' (fun _ => ?_) (fun _ => ?_)
    · walk_at "kd"
      refine W_rgI (by omega) ?_
      refine W_compF D.int (fun k => decide (((((lotsI n)[k.toNat]?).getD []).length : Int) ∈ sizes)) (fun x => x) (by rw [rgI_len]; exact sz_le (by omega)) (fun x hx => ?_) ?_
      · have hx2 := rgI_mem.mp hx
        have h3 : x.toNat < (lotsI n).length := by omega
        walk_at "kd"
        rw [atI_pos _ hx2.1, List.getElem?_map, List.getElem?_eq_getElem h3]
        walk_at "kd"
        refine ⟨?_, fun _ => trivial, fun _ => trivial⟩
        rw [Option.getD_some]
      walk_at "kd"
      rw [List.map_id']
      exact ⟨_, S4, _, _, _, _, (fin _).1, (fin _).2, hR4, .inl rfl, rfl⟩
    walk_at "kd"
    refine W_if' (fun _ => ?_) (fun _ => ?_)
    · walk_at "kd"
      refine W_rgI (by omega) ?_
      refine W_compF D.int (fun k => decide (k ≠ lack) && (decide (((((lotsI n)[k.toNat]?).getD []).length : Int) ∈ sizes) || decide (k ∈ few))) (fun x => x) (by rw [rgI_len]; exact sz_le (by omega)) (fun x hx => ?_) ?_
      · have hx2 := rgI_mem.mp hx
        have h3 : x.toNat < (lotsI n).length := by omega
        walk_at "kd"
        refine W_tf (fun hc => ?_) (fun hc => ?_)
        · walk_at "kd"
          rw [atI_pos _ hx2.1, List.getElem?_map, List.getElem?_eq_getElem h3]
          walk_at "kd"
          refine W_tf (fun hc2 => ?_) (fun hc2 => ?_)
          · walk_at "kd"
            rw [Option.getD_some, hc, hc2]
            rfl
          · walk_at "kd"
            rw [Option.getD_some, hc, hc2]
            refine W_tf (fun hc3 => ?_) (fun hc3 => ?_)
            · walk_at "kd"
              rw [hc3]
              rfl
            · walk_at "kd"
              rw [hc3]
              rfl
        · walk_at "kd"
          rw [hc]
          rfl
      walk_at "kd"
      rw [List.map_id']
      exact ⟨_, S4, _, _, _, _, (fin _).1, (fin _).2, hR4, .inl rfl, rfl⟩
    · walk_at "kd"
      refine W_rgI (by omega) ?_
      refine W_compF D.int (fun k => decide (k ∉ few)) (fun x => x) (by rw [rgI_len]; exact sz_le (by omega)) (fun x hx => ?_) ?_
      · walk_at "kd"
        simp
      walk_at "kd"
      rw [List.map_id']
      exact ⟨_, S4, _, _, _, _, (fin _).1, (fin _).2, hR4, .inl rfl, rfl⟩
  rintro m1 ⟨told, S5, s4, s8, s9', s10, htn, htr, hR5, hs8, rfl⟩
  have hsl : (sortI told).length ≤ (lotsI n).length := by
    have := sub_len (((sortI_pm told).nodup_iff).mpr htn) (m := rgI (lotsI n).length) fun x hx => rgI_mem.mpr (htr x ((sortI_pm told).subset hx))
    rw [rgI_len] at this
    exact this
  have last : W (compL [10] (.n 10) (fun _ m => .ok true m) (eF (eTup [(eVar 10), (e2 oIx (eVar 2) (eVar 10))])) ⟨ctK P wf (k + 2), wf⟩ ((sortI told).map D.int)
      ⟨[.val (.loc 1), .val (.dct (worldK n)), .val (tT ts), .ol (sizes.map D.int), s4, .val (.int lack), .val (.lst ((lotsI n).map tI)), .val (.int way), s8, s9', s10], S5⟩ [])
      (compQ [10] ⟨[.val (.loc 1), .val (.dct (worldK n)), .val (tT ts), .ol (sizes.map D.int), s4, .val (.int lack), .val (.lst ((lotsI n).map tI)), .val (.int way), s8, s9', s10], S5⟩ fun o m1 => okQ ((vw o m1).bind bTuple) m1 fun o m1 => rtQ o m1 (retQ Q)) := by
    refine W_compA (fun k => itD k ((ts[k.toNat]?).getD [])) (fun k => k) (sz_le (by omega)) (fun x hx => ?_) ?_
    · have hx2 := htr x ((sortI_pm told).subset hx)
      have h3 : x.toNat < ts.length := by omega
      walk_at "kd"
      rw [atI_pos _ hx2.1, List.getElem?_map, List.getElem?_eq_getElem h3]
      walk_at "kd"
      rw [Option.getD_some]
      rfl
    · walk_at "kd"
      rw [List.map_id']
      exact q _ S5 (sortI_lt htn) (fun k hk => htr k ((sortI_pm told).subset hk)) hR5
  rcases hs8 with rfl | rfl
  · walk_at "kd"
    exact last
  · walk_at "kd"
    exact last
end Kd

namespace Kd
open PySem
local macro_rules | `(tactic| walk_at "kd") => `(tactic| try simp -dsimp +decide only [W_ok, W_seq, seqQ_nx, seqQ_rt, seqQ_bk, seqQ_ct, W_asg, stQ_some, W_un, W_par2, W_exp, W_ret, rtQ_v, rtQ_nl, rtQ_nd, rtQ_slot, rtS_ol, rtS_od, W_retN, W_skip, W_brk, W_cnt, W_if, ifQ_t, ifQ_f, okQ_some, W_of, W_eC, W_eVar,
  vaQ_val, vaQ_ol, vaQ_od, W_eF, W_fz_v, W_fz_nl, W_fz_nd, W_fz, fzQ_val, fzQ_ol, fzQ_od, W_fzS_v, W_fzS_nl, W_fzS_nd, W_fzS_sl, W_list_nil, W_list_cons, W_tup, W_lst, W_e1, W_e2, W_t1, W_t2, W_t3, tfQ_t, tfQ_f, W_eB, boQ_bl, W_tE, W_tNot, W_and_nil, W_or_nil, W_and, W_or,
  W_eand1, W_eor1, W_eand, W_eor, W_eIf, W_tIf, W_optN, W_optS, inQ_i, W_slice, W_call, W_callK, W_share, shQ_nl, shQ_nd, W_rng1, W_rng2, W_seqI, W_enumI, W_zipI, W_lstI, W_for, turnQ_nx, turnQ_ct, turnQ_bk, turnQ_rt, W_mutL, W_mut, muQ_ol, W_mutO, muO_lst, W_mutD, mdQ_od, W_mutDO, mdO_dct, W_meth, W_set, setQ_eq, setV_l, setV_k,
  W_kvs_nil, W_kvs_cons, W_dct, W_dctZ, W_comp, vw_v, vw_nl, vw_nd, vw_sl, vwS_ol, vwS_od, vwD_int, vwD_str, vwD_bl, vwD_non, vwD_tup, vwD_lst, vwD_dct, vwD_loc, vwO_lst, vwO_dct, setSl_v, setSl_nl, setSl_nd, setSl_sl, slS_ol, slS_od, pat_n, pat_t, pat_tl, pats_nil, pats_cons,
  oAdd_i, oSub_i, oNeg_i, cLt_i, cLe_i, cGt_i, cGe_i, bLen_l, bLen_t, bLen_k, bTuple_l, bTuple_t, bList_l, bList_t, bInt_i, oIx_l, oIx_t, oIx_k, kvO_some, kk_int, kk_str, isTy_int, isTy_tup, isTy_bl, isTy_str, isTy_non, isTy_l, isTy_k, vwDD, frozen_t, frozen_l, bind_some', map_some', map_none', start1, start2, start3, start4,
  retQ_rt, retQ_nx, get0, getS, set0, setS, List.replicate, List.length_cons, List.length_nil, Nat.reduceAdd, Nat.reduceSub, Nat.reduceMul, Nat.reduceLeDiff, isL_l, isK_k, Option.bind_some, if_true, if_false, ite_true, ite_false, Bool.not_true, Bool.not_false, true_and, and_true, Option.map_some, Option.map_none, reduceIte, reduceCtorEq, decide_true, decide_false, vwLD, vwKD, sz0, sz1, sz2, sz3, sz4, sz5, sz6, sz7, sz8, sz9, sz10, joinQ_nx, joinQ_rt, joinQ_bk, joinQ_ct, reel_deep, reel_cells, reel_stamp, reel_count, reel_set, cEq_i, cNe_i, cNe_b, cEq_tI, cNe_tI, cIn_t, cIn_l, cNotIn_t, cNotIn_l, List.length_map, oMul_r, oMul_l, oMod_i, oFdiv_i, oPow_i, lAppend_one, rgQ_i, rgQ2_i, W_forL_nil, W_forL_cons, wipeM_mk, wipeS_nil, wipeS_cons, backS_nil, backS_cons, keptS_un, keptS_val, keptS_ol, keptS_od, oCut_l, oCut_t, Int.toNat_natCast, forall_const, imp_self, atI_pos, Int.reduceToNat, bSorted_ints, bMin_ints, bMax_ints, cut_map, w_n, w_lots, w_spots, kk_tI, rng_0, rng_1, rng_2, rng_3, rng_4, rng_5, rng_6, rng_7, rng_8, rng_9, rng_10, rng_11, rng_12, rng_13, rng_14, rng_15, rng_16, rng_32, rng_64])

def itP (p : Int × List Int) : D := itD p.1 p.2
/-- an item that fits -/
def GoodIt (n : Nat) (p : Int × List Int) : Prop := 0 ≤ p.1 ∧ ∃ lot, (lotsI n)[p.1.toNat]? = some lot ∧ Ent n lot p.2
theorem py_it (p : Int × List Int) : (itP p).py = some (.tuple [.int p.1, .tuple (p.2.map .int)]) := by
  show D.py (.tup [.int p.1, tI p.2]) = _
  have h : D.pys [.int p.1, tI p.2] = some [.int p.1, .tuple (p.2.map .int)] := by
    simp only [D.pys, py_int, py_tup (pys_ints p.2)]
  rw [py_tup h]
theorem okd_it (p : Int × List Int) : okd (itP p) = true := by
  unfold okd
  rw [py_it]
  have h1 : PyData.canLay0 (.tuple [.int p.1, .tuple (p.2.map .int)]) = true := by
    simp only [PyData.canLay0, PyData.canLayAll0, lay_ints]
    rfl
  have h2 : PyData.depth (.tuple [.int p.1, .tuple (p.2.map .int)]) ≤ 50 := by
    simp only [PyData.depth, PyData.depthAll, PySem.W.depth_ints]
    omega
  simp only [h1, decide_eq_true h2]; rfl
theorem asInts_it : ∀ (p : Int × List Int) (r : List D), asInts (itP p :: r) = none := fun p r => rfl
theorem sortOk_it (its : List (Int × List Int)) : sortOk (its.map itP) = true := by
  unfold sortOk
  have enc : (its.map itP).map encD = its.map fun p => PyData.tuple [.int p.1, .tuple (p.2.map .int)] := by
    rw [List.map_map]
    congr 1
    funext p
    show ((itP p).py).getD .none = _
    rw [py_it]
    rfl
  rw [enc]
  have a1 : ((its.map itP).all fun d => d.py.isSome) = true := by
    rw [List.all_map, List.all_eq_true]
    intro p _
    show ((itP p).py).isSome = true
    rw [py_it]; rfl
  have a2 : ((its.map fun p => PyData.tuple [.int p.1, .tuple (p.2.map .int)]).all fun a => (its.map fun p => PyData.tuple [.int p.1, .tuple (p.2.map .int)]).all fun b => PySem.W.alike a b) = true := by
    rw [List.all_map, List.all_eq_true]
    intro p _
    show ((its.map fun p => PyData.tuple [.int p.1, .tuple (p.2.map .int)]).all fun b => PySem.W.alike _ b) = true
    rw [List.all_map, List.all_eq_true]
    intro r _
    show PySem.W.alike (.tuple [.int p.1, .tuple (p.2.map .int)]) (.tuple [.int r.1, .tuple (r.2.map .int)]) = true
    simp only [PySem.W.alike, PySem.W.alikeAll, PySem.W.alike_ints]
    rfl
  have a3 : ((its.map fun p => PyData.tuple [.int p.1, .tuple (p.2.map .int)]).all isTupD) = true := by
    rw [List.all_map, List.all_eq_true]
    intro p _
    rfl
  have a4 : ((its.map fun p => PyData.tuple [.int p.1, .tuple (p.2.map .int)]).all fun a => decide (a.depth ≤ 64)) = true := by
    rw [List.all_map, List.all_eq_true]
    intro p _
    show decide (PyData.depth (.tuple [.int p.1, .tuple (p.2.map .int)]) ≤ 64) = true
    rw [decide_eq_true_eq]
    simp only [PyData.depth, PyData.depthAll, PySem.W.depth_ints]
    omega
  simp only [a1, a2, a3, a4]; rfl
/-- what sorted makes of items -/
def sortP (its : List (Int × List Int)) : List (Int × List Int) := its.mergeSort fun a b => PySem.W.dataLe false encD (itP a) (itP b)
theorem sortP_pm (its : List (Int × List Int)) : (sortP its).Perm its := List.mergeSort_perm _ _
theorem bSorted_it (its : List (Int × List Int)) : ∃ js : List (Int × List Int), js.Perm its ∧ bSorted (.l (its.map itP)) = some (.nl (js.map itP)) := by
  cases its with
  | nil => exact ⟨[], List.Perm.refl _, rfl⟩
  | cons p r =>
    have e : bSorted (.l ((p :: r).map itP)) = some (.nl (sortD ((p :: r).map itP))) := by
      unfold bSorted
      show (match asInts (itP p :: r.map itP) with | some ns => some (Op.nl ((sortI ns).map .int)) | none => if sortOk ((p :: r).map itP) = true then some (Op.nl (sortD ((p :: r).map itP))) else none) = _
      rw [asInts_it]
      simp only
      rw [if_pos (sortOk_it (p :: r))]
    obtain ⟨js, h1, h2⟩ := perm_map_inv (f := itP) (xs := (p :: r).map itP) (ys := sortD ((p :: r).map itP)) (List.mergeSort_perm _ _) rfl
    exact ⟨js, h2, by rw [e, h1]⟩
theorem sizeAt_mem {n : Nat} {s k : Int} (h : k ∈ sizeAt n s) : 0 ≤ k ∧ k < (lotsI n).length ∧ ∃ lot, (lotsI n)[k.toNat]? = some lot ∧ (lot.length : Int) = s := by
  unfold sizeAt at h
  rw [List.mem_filter, rgI_mem] at h
  have h3 : k.toNat < (lotsI n).length := by omega
  refine ⟨h.1.1, h.1.2, _, List.getElem?_eq_getElem h3, ?_⟩
  have := h.2
  rw [List.getElem?_eq_getElem h3, decide_eq_true_eq] at this
  exact this
theorem sizeAt_len (n : Nat) (s : Int) : (sizeAt n s).length ≤ (lotsI n).length := by
  have := List.length_filter_le (fun k : Int => decide (((((lotsI n)[k.toNat]?).getD []).length : Int) = s)) (rgI (lotsI n).length)
  rw [rgI_len] at this
  exact this
theorem loose_ok {P : List Cd} {wf k i iD iM iN n : Nat} {S : List Ob} {Q : Op → List Ob → Prop} (h : P[i]? = some ⟨b_law_loose iM iD iN, 2, 8⟩) (hM : P[iM]? = some ⟨b_law_mixed iD, 2, 4⟩) (hD : P[iD]? = some ⟨b_law_draw, 2, 8⟩) (hN : P[iN]? = some ⟨b_law_entry iM, 4, 6⟩)
    (hwf : 100 < wf) (hn : Six n) (hR : RW S) (q : ∀ (its : List (Int × List Int)) S', (∀ p ∈ its, GoodIt n p) → its.length ≤ 64 → RW S' → Q (.v (.tup (its.map itP))) S') :
    WC (ctK P wf (k + 4) i [.loc 1, .dct (worldK n)] S) Q := by
  have hn6 := six_le hn
  have hn5 := six_ge hn
  have h64 := six_lots hn
  refine WC_ct h rfl ?_
  unfold b_law_loose
  refine W_step (fun m => m = ⟨[.val (.loc 1), .val (.dct (worldK n)), .un, .ol [], .val (.lst ((lotsI n).map tI)), .un, .un, .un], S⟩) ?_ ?_
  · walk_at "kd"
  rintro m1 rfl
  refine W_step (fun m => ∃ (its : List (Int × List Int)) (S' : List Ob) (s2 s5 s6 s7 : Sl), (∀ p ∈ its, GoodIt n p) ∧ its.length ≤ 64 ∧ RW S' ∧ m = ⟨[.val (.loc 1), .val (.dct (worldK n)), s2, .ol (its.map itP), .val (.lst ((lotsI n).map tI)), s5, s6, s7], S'⟩) ?_ ?_
  · walk_at "kd"
    rw [show ((n : Nat) : Int) + 1 = ((n + 1 : Nat) : Int) by omega]
    refine W_rgI (by omega) ?_
    refine W_forL (fun i m => ∃ (its : List (Int × List Int)) (S' : List Ob) (s2 s5 s6 s7 : Sl), (∀ p ∈ its, GoodIt n p) ∧ its.length ≤ 3 * i ∧ RW S' ∧ m = ⟨[.val (.loc 1), .val (.dct (worldK n)), s2, .ol (its.map itP), .val (.lst ((lotsI n).map tI)), s5, s6, s7], S'⟩) ?_ ?_ ?_
    · exact ⟨[], S, _, _, _, _, fun p hp => by simp at hp, by simp, hR, rfl⟩
    · rintro i x m hx ⟨its, S', s2, s5, s6, s7, hg, hl, hR', rfl⟩
      have hi := (List.getElem?_eq_some_iff.mp hx).1
      rw [List.length_map, rgI_len] at hi
      obtain ⟨mm, rfl, _⟩ := int_mem (List.mem_of_getElem? hx)
      have hsz := sizeAt_len n mm
      walk_at "kd"
      refine W_rgI (by omega) ?_
      refine W_compF D.int (fun k => decide (((((lotsI n)[k.toNat]?).getD []).length : Int) = mm)) (fun x => x) (by rw [rgI_len]; exact sz_le (by omega)) (fun x hx => ?_) ?_
      · have hx2 := rgI_mem.mp hx
        have h3 : x.toNat < (lotsI n).length := by omega
        walk_at "kd"
        rw [atI_pos _ hx2.1, List.getElem?_map, List.getElem?_eq_getElem h3]
        walk_at "kd"
        refine ⟨?_, fun _ => trivial, fun _ => trivial⟩
        rw [Option.getD_some]
      walk_at "kd"
      rw [List.map_id']
      refine mixedT_ok (xs := sizeAt n mm) hM hD hR' (.inl rfl) (by omega) (by omega) okd_int fun zs S2 hp hR2 => ?_
      walk_at "kd"
      refine mixedT_ok (xs := sizeAt n mm) hM hD hR2 (.inl rfl) (by omega) (by omega) okd_int fun ws S3 hp2 hR3 => ?_
      walk_at "kd"
      refine draw_ok hD hR3 (by omega) (by omega) fun z S4 z1 z2 hR4 => ?_
      obtain ⟨zn, rfl⟩ : ∃ zn : Nat, z = zn := ⟨z.toNat, by omega⟩
      walk_at "kd"
      rw [cut_take]
      have e1 := hp.length_eq
      have e2 := hp2.length_eq
      refine W_forL (fun j m => ∃ (js : List (Int × List Int)) (S' : List Ob) (es : List Int) (s7 : Sl), (∀ p ∈ js, GoodIt n p) ∧ js.length ≤ 3 * i + j ∧ (∀ x ∈ es, x ∈ sizeAt n mm) ∧ es.length + j = zs.length ∧ RW S' ∧
        m = ⟨[.val (.loc 1), .val (.dct (worldK n)), .val (.int mm), .ol (js.map itP), .val (.lst ((lotsI n).map tI)), .val (.lst ((sizeAt n mm).map D.int)), .ol (es.map D.int), s7], S'⟩) ?_ ?_ ?_
      · exact ⟨its, S4, zs, _, hg, by omega, fun x hx => hp.subset hx, by omega, hR4, rfl⟩
      · rintro j x m hx ⟨js, S5, es, s7, hg2, hl2, hes, hel, hR5, rfl⟩
        rw [List.getElem?_map, Option.map_eq_some_iff] at hx
        obtain ⟨kk, hk, rfl⟩ := hx
        have hj := (List.getElem?_eq_some_iff.mp hk).1
        rw [List.length_take] at hj
        have hkm := hp2.subset (List.mem_of_mem_take (List.mem_of_getElem? hk))
        obtain ⟨k0, k1, lot, hlot, hll⟩ := sizeAt_mem hkm
        have hne : es ≠ [] := by
          intro z
          subst z
          simp at hel
          omega
        have hlast : es.getLast?.getD 0 ∈ es := by
          rw [List.getLast?_eq_getElem?]
          have h3 : es.length - 1 < es.length := by
            have := List.length_pos_iff.mpr hne
            omega
          rw [List.getElem?_eq_getElem h3]
          exact List.getElem_mem h3
        obtain ⟨d0, d1, lot2, hlot2, hll2⟩ := sizeAt_mem (hes _ hlast)
        have c1 := left_of hn (List.mem_of_getElem? hlot)
        have c2 := left_of hn (List.mem_of_getElem? hlot2)
        walk_at "kd"
        rw [atI_pos _ k0, List.getElem?_map, hlot]
        walk_at "kd"
        rw [lPop_end hne]
        walk_at "kd"
        rw [atI_pos _ d0, List.getElem?_map, hlot2]
        walk_at "kd"
        refine entry_ok hN hM hD hwf hn hR5 (by omega) fun e S6 E hR6 => ?_
        walk_at "kd"
        rw [lAppend_one _ _ (by rw [List.length_map]; exact sz_lt (by omega))]
        walk_at "kd"
        refine ⟨js ++ [(kk, e)], S6, es.dropLast, _, fun p hp => ?_, by rw [List.length_append, List.length_singleton]; omega, fun x hx => hes x (List.dropLast_subset es hx), by rw [List.length_dropLast]; have := List.length_pos_iff.mpr hne; omega, hR6, by rw [List.map_append]; rfl⟩
        rcases List.mem_append.mp hp with hp | hp
        · exact hg2 p hp
        · rw [List.mem_singleton] at hp
          subst hp
          exact ⟨k0, lot, hlot, E⟩
      · rintro m ⟨js, S5, es, s7, hg2, hl2, hes, hel, hR5, rfl⟩
        rw [List.length_map, List.length_take] at hl2
        walk_at "kd"
        exact ⟨js, S5, _, _, _, _, hg2, by omega, hR5, rfl⟩
    · rintro m ⟨its, S', s2, s5, s6, s7, hg, hl, hR', rfl⟩
      rw [List.length_map, rgI_len] at hl
      rw [joinQ_nx]
      exact ⟨its, S', _, _, _, _, hg, by omega, hR', rfl⟩
  rintro m1 ⟨its, S', s2, s5, s6, s7, hg, hl, hR', rfl⟩
  obtain ⟨js, hj, he⟩ := bSorted_it its
  walk_at "kd"
  rw [he]
  walk_at "kd"
  exact q js S' (fun p hp => hg p (hj.subset hp)) (by rw [hj.length_eq]; exact hl) hR'
end Kd

namespace Kd
open PySem
/-- shown with at most b signs, dp deep; with lists (ls), with dicts (dc) -/
def Rv (b dp : Nat) (ls dc : Bool) (d : D) : Prop := ∃ y, d.py = some y ∧ y.showable = true ∧ y.depth ≤ dp ∧ y.shown.length ≤ b ∧ (ls = false → noLst d = true) ∧ (dc = false → y.hasDict = false)
theorem Rv.mono {b b' dp dp' : Nat} {ls ls' dc dc' : Bool} {d : D} (h : Rv b dp ls dc d) (hb : b ≤ b') (hd : dp ≤ dp') (hl : ls = true → ls' = true) (hc : dc = true → dc' = true) : Rv b' dp' ls' dc' d := by
  obtain ⟨y, h1, h2, h3, h4, h5, h6⟩ := h
  refine ⟨y, h1, h2, by omega, by omega, fun e => h5 ?_, fun e => h6 ?_⟩
  · cases ls with
    | false => rfl
    | true => rw [hl rfl] at e; cases e
  · cases dc with
    | false => rfl
    | true => rw [hc rfl] at e; cases e
theorem rv_non : Rv 4 0 false false .non := ⟨.none, py_non, by simp only [PyData.showable], by simp only [PyData.depth]; omega, by rw [PyData.shown]; decide +kernel, fun _ => by simp only [noLst], fun _ => by simp only [PyData.hasDict]⟩
theorem rv_bl (b : Bool) : Rv 5 0 false false (.bl b) := ⟨.bool b, py_bl b, by simp only [PyData.showable], by simp only [PyData.depth]; omega, by rw [PyData.shown]; cases b <;> decide +kernel, fun _ => by simp only [noLst], fun _ => by simp only [PyData.hasDict]⟩
theorem small_shown : ∀ k : Nat, k < 66 → (PyData.shown (.int ((k : Int) - 1))).length ≤ 2 := by
  have h : (List.range 66).all (fun k => decide ((PyData.shown (.int ((k : Int) - 1))).length ≤ 2)) = true := by decide +kernel
  intro k hk
  rw [List.all_eq_true] at h
  simpa using h k (List.mem_range.mpr hk)
theorem small_showable : ∀ k : Nat, k < 66 → PyData.showable (.int ((k : Int) - 1)) = true := by
  have h : (List.range 66).all (fun k => PyData.showable (.int ((k : Int) - 1))) = true := by decide +kernel
  intro k hk
  rw [List.all_eq_true] at h
  exact h k (List.mem_range.mpr hk)
theorem rv_int {i : Int} (h : -1 ≤ i) (h2 : i ≤ 64) : Rv 2 0 false false (.int i) := by
  have e : ((i + 1).toNat : Int) - 1 = i := by omega
  have a := small_shown (i + 1).toNat (by omega)
  have b := small_showable (i + 1).toNat (by omega)
  rw [e] at a b
  exact ⟨.int i, py_int i, b, by simp only [PyData.depth]; omega, a, fun _ => by simp only [noLst], fun _ => by simp only [PyData.hasDict]⟩
theorem rv_big : Rv 41 0 false false (.int (10 ^ (40 : Int).toNat)) :=
  ⟨.int _, py_int _, by decide +kernel, by simp only [PyData.depth]; omega, by decide +kernel, fun _ => by simp only [noLst], fun _ => by simp only [PyData.hasDict]⟩
theorem rv_str {x : Str} {b : Nat} (h : (PyData.shown (.str x)).length ≤ b) : Rv b 0 false false (.str x) :=
  ⟨.str x, py_str x, by simp only [PyData.showable], by simp only [PyData.depth]; omega, h, fun _ => by simp only [noLst], fun _ => by simp only [PyData.hasDict]⟩
theorem piled_len : ∀ ts : List Str, ∀ b : Nat, (∀ t ∈ ts, t.length ≤ b) → piled ts ≤ ts.length * (b + 2)
  | [], _, _ => by simp [piled]
  | t :: ts, b, h => by
    have h1 := h t (List.mem_cons_self ..)
    have h2 := piled_len ts b fun z hz => h z (List.mem_cons_of_mem _ hz)
    rw [piled_cons, List.length_cons, Nat.add_mul, Nat.one_mul]
    omega
theorem textFrom_le : ∀ (ts : List Str) (k : Nat) (acc : Str), (textFrom k acc ts).length ≤ acc.length + piled ts
  | [], _, acc => by simp [textFrom]
  | t :: ts, k, acc => by
    have h := textFrom_le ts (k + 1) (acc ++ (if k > 0 then ", " else "" : String) ++ t)
    have e : (((if k > 0 then ", " else "" : String) : Str)).length ≤ 2 := by split <;> decide
    rw [strLen_append, strLen_append] at h
    unfold textFrom
    rw [piled_cons]
    omega
theorem listText_le (ts : List Str) : (listText ts).length ≤ piled ts + 2 := by
  have h := textFrom_le ts 0 ("[" : Str)
  have e1 : (("[" : String) : Str).length = 1 := rfl
  have e2 : (("]" : String) : Str).length = 1 := rfl
  unfold listText
  rw [strLen_append]
  omega
theorem tupleText_le (ts : List Str) : (tupleText ts).length ≤ piled ts + 3 := by
  unfold tupleText
  rw [strLen_append, strLen_append]
  have e1 : ((("(" : String) : Str)).length = 1 := rfl
  have e3 : (((if ts.length == 1 then ",)" else ")" : String) : Str)).length ≤ 2 := by split <;> decide
  by_cases h : ts = []
  · subst h
    have e2 : (Str.join ", " []).length = 0 := rfl
    omega
  · have := join_length_add ts h
    omega
theorem rv_all {b dp : Nat} {ls dc : Bool} : ∀ {xs : List D}, (∀ x ∈ xs, Rv b dp ls dc x) → ∃ ys, D.pys xs = some ys ∧ PyData.showableAll ys = true ∧ PyData.depthAll ys ≤ dp ∧ (PyData.shownAll ys).length = xs.length ∧ (∀ t ∈ PyData.shownAll ys, t.length ≤ b) ∧ (ls = false → noLsts xs = true) ∧ (dc = false → PyData.hasDictAll ys = false)
  | [], _ => ⟨[], by simp only [D.pys], by simp only [PyData.showableAll], by simp only [PyData.depthAll]; omega, by simp only [PyData.shownAll, List.length_nil], fun t h => by simp [PyData.shownAll] at h, fun _ => by simp only [noLsts], fun _ => by simp only [PyData.hasDictAll]⟩
  | x :: xs, h => by
    obtain ⟨y, h1, h2, h3, h4, h5, h6⟩ := h x (List.mem_cons_self ..)
    obtain ⟨ys, k1, k2, k3, k4, k5, k6, k7⟩ := rv_all fun z hz => h z (List.mem_cons_of_mem _ hz)
    refine ⟨y :: ys, by simp only [D.pys, h1, k1], by simp only [PyData.showableAll, h2, k2]; rfl, by simp only [PyData.depthAll]; omega, by simp only [PyData.shownAll, List.length_cons, k4], fun t ht => ?_, fun e => by simp only [noLsts, h5 e, k6 e]; rfl, fun e => by simp only [PyData.hasDictAll, h6 e, k7 e]; rfl⟩
    simp only [PyData.shownAll, List.mem_cons] at ht
    rcases ht with rfl | ht
    · exact h4
    · exact k5 t ht
theorem rv_tup {b dp : Nat} {ls dc : Bool} {xs : List D} (h : ∀ x ∈ xs, Rv b dp ls dc x) : Rv (xs.length * (b + 2) + 3) (dp + 1) ls dc (.tup xs) := by
  obtain ⟨ys, k1, k2, k3, k4, k5, k6, k7⟩ := rv_all h
  refine ⟨.tuple ys, py_tup k1, by simpa only [PyData.showable] using k2, by simp only [PyData.depth]; omega, ?_, fun e => by simpa only [noLst] using k6 e, fun e => by simpa only [PyData.hasDict] using k7 e⟩
  have h1 := tupleText_le (PyData.shownAll ys)
  have h2 := piled_len _ b k5
  rw [k4] at h2
  simp only [PyData.shown]
  omega
theorem rv_lst {b dp : Nat} {ls dc : Bool} {xs : List D} (h : ∀ x ∈ xs, Rv b dp ls dc x) : Rv (xs.length * (b + 2) + 3) (dp + 1) true dc (.lst xs) := by
  obtain ⟨ys, k1, k2, k3, k4, k5, k6, k7⟩ := rv_all h
  refine ⟨.list ys, py_lst k1, by simpa only [PyData.showable] using k2, by simp only [PyData.depth]; omega, ?_, fun e => (by cases e), fun e => by simpa only [PyData.hasDict] using k7 e⟩
  have h1 := listText_le (PyData.shownAll ys)
  have h2 := piled_len _ b k5
  rw [k4] at h2
  simp only [PyData.shown]
  omega
theorem rv_tI {n : Nat} {e : List Int} (hn : n ≤ 6) (hl : e.length = n) (h : ∀ v ∈ e, -1 ≤ v ∧ v < n) : Rv 31 1 false false (tI e) := by
  refine (rv_tup (b := 2) (dp := 0) (ls := false) (dc := false) fun x hx => ?_).mono ?_ (Nat.le_refl _) (fun h => h) (fun h => h)
  · obtain ⟨i, rfl, hi⟩ := int_mem hx
    have := h i hi
    exact rv_int this.1 (by omega)
  · rw [List.length_map, hl]
    omega
theorem rv_it {n : Nat} {p : Int × List Int} (hn : Six n) (h : GoodIt n p) : Rv 69 2 false false (itP p) := by
  obtain ⟨h0, lot, hlot, E⟩ := h
  have hk := (List.getElem?_eq_some_iff.mp hlot).1
  have h64 := six_lots hn
  refine (rv_tup (b := 31) (dp := 1) (ls := false) (dc := false) (xs := [.int p.1, tI p.2]) fun x hx => ?_).mono ?_ (Nat.le_refl _) (fun h => h) (fun h => h)
  · rcases List.mem_cons.mp hx with rfl | hx
    · exact (rv_int (by omega) (by omega)).mono (by omega) (by omega) (fun h => h) (fun h => h)
    · rw [List.mem_singleton] at hx
      subst hx
      exact rv_tI (six_le hn) E.len E.rng
  · simp
/-- repr of such a value -/
theorem bRepr_rv {b dp : Nat} {ls dc : Bool} {d : D} {v : Vw} (h : Rv b dp ls dc d) (hv : v.D = d) (hb : b ≤ 1000000) (hd : dp ≤ 60) (hx : ls = true → dc = true → False) : bRepr v = some (.v (.str ((d.py.getD .none).shown))) := by
  obtain ⟨y, h1, h2, h3, h4, h5, h6⟩ := h
  unfold bRepr
  rw [hv, h1]
  have e1 : (noLst d || !y.hasDict) = true := by
    cases ls with
    | false => rw [h5 rfl]; rfl
    | true =>
      cases dc with
      | false => rw [h6 rfl]; simp
      | true => exact (hx rfl rfl).elim
  simp only
  rw [if_pos (by rw [h2, e1, decide_eq_true (by omega : y.depth ≤ 64), decide_eq_true (Nat.le_trans (by omega : y.shown.length ≤ 1000000) (by decide : 1000000 ≤ sizeLine))]; rfl)]
  rfl
end Kd

namespace Kd
open PySem
local macro_rules | `(tactic| walk_at "kd") => `(tactic| try simp -dsimp +decide only [W_ok, W_seq, seqQ_nx, seqQ_rt, seqQ_bk, seqQ_ct, W_asg, stQ_some, W_un, W_par2, W_exp, W_ret, rtQ_v, rtQ_nl, rtQ_nd, rtQ_slot, rtS_ol, rtS_od, W_retN, W_skip, W_brk, W_cnt, W_if, ifQ_t, ifQ_f, okQ_some, W_of, W_eC, W_eVar,
  vaQ_val, vaQ_ol, vaQ_od, W_eF, W_fz_v, W_fz_nl, W_fz_nd, W_fz, fzQ_val, fzQ_ol, fzQ_od, W_fzS_v, W_fzS_nl, W_fzS_nd, W_fzS_sl, W_list_nil, W_list_cons, W_tup, W_lst, W_e1, W_e2, W_t1, W_t2, W_t3, tfQ_t, tfQ_f, W_eB, boQ_bl, W_tE, W_tNot, W_and_nil, W_or_nil, W_and, W_or,
  W_eand1, W_eor1, W_eand, W_eor, W_eIf, W_tIf, W_optN, W_optS, inQ_i, W_slice, W_call, W_callK, W_share, shQ_nl, shQ_nd, W_rng1, W_rng2, W_seqI, W_enumI, W_zipI, W_lstI, W_for, turnQ_nx, turnQ_ct, turnQ_bk, turnQ_rt, W_mutL, W_mut, muQ_ol, W_mutO, muO_lst, W_mutD, mdQ_od, W_mutDO, mdO_dct, W_meth, W_set, setQ_eq, setV_l, setV_k,
  W_kvs_nil, W_kvs_cons, W_dct, W_dctZ, W_comp, vw_v, vw_nl, vw_nd, vw_sl, vwS_ol, vwS_od, vwD_int, vwD_str, vwD_bl, vwD_non, vwD_tup, vwD_lst, vwD_dct, vwD_loc, vwO_lst, vwO_dct, setSl_v, setSl_nl, setSl_nd, setSl_sl, slS_ol, slS_od, pat_n, pat_t, pat_tl, pats_nil, pats_cons,
  oAdd_i, oSub_i, oNeg_i, cLt_i, cLe_i, cGt_i, cGe_i, bLen_l, bLen_t, bLen_k, bTuple_l, bTuple_t, bList_l, bList_t, bInt_i, oIx_l, oIx_t, oIx_k, kvO_some, kk_int, kk_str, isTy_int, isTy_tup, isTy_bl, isTy_str, isTy_non, isTy_l, isTy_k, vwDD, frozen_t, frozen_l, bind_some', map_some', map_none', start1, start2, start3, start4,
  retQ_rt, retQ_nx, get0, getS, set0, setS, List.replicate, List.length_cons, List.length_nil, Nat.reduceAdd, Nat.reduceSub, Nat.reduceMul, Nat.reduceLeDiff, isL_l, isK_k, Option.bind_some, if_true, if_false, ite_true, ite_false, Bool.not_true, Bool.not_false, true_and, and_true, Option.map_some, Option.map_none, reduceIte, reduceCtorEq, decide_true, decide_false, vwLD, vwKD, sz0, sz1, sz2, sz3, sz4, sz5, sz6, sz7, sz8, sz9, sz10, joinQ_nx, joinQ_rt, joinQ_bk, joinQ_ct, reel_deep, reel_cells, reel_stamp, reel_count, reel_set, cEq_i, cNe_i, cNe_b, cEq_tI, cNe_tI, cIn_t, cIn_l, cNotIn_t, cNotIn_l, List.length_map, oMul_r, oMul_l, oMod_i, oFdiv_i, oPow_i, lAppend_one, rgQ_i, rgQ2_i, W_forL_nil, W_forL_cons, wipeM_mk, wipeS_nil, wipeS_cons, backS_nil, backS_cons, keptS_un, keptS_val, keptS_ol, keptS_od, oCut_l, oCut_t, Int.toNat_natCast, forall_const, imp_self, atI_pos, Int.reduceToNat, bSorted_ints, bMin_ints, bMax_ints, cut_map, w_n, w_lots, w_spots, kk_tI, rng_0, rng_1, rng_2, rng_3, rng_4, rng_5, rng_6, rng_7, rng_8, rng_9, rng_10, rng_11, rng_12, rng_13, rng_14, rng_15, rng_16, rng_32, rng_64])

theorem rv_dct {k : Int} {d : D} {b dp : Nat} (hk : -1 ≤ k) (hk2 : k ≤ 64) (h : Rv b dp false false d) : Rv (b + 6) (dp + 1) false true (.dct [(.i k, d)]) := by
  obtain ⟨y, h1, h2, h3, h4, h5, h6⟩ := h
  obtain ⟨z, g1, g2, g3, g4, g5, g6⟩ := rv_int hk hk2
  rw [py_int] at g1
  cases g1
  refine ⟨.dict [(.int k, y)], by simp only [D.py, D.pyk, h1, KK.p]; rfl, by simp only [PyData.showable, PyData.showableKv, h2, g2] at g2 ⊢; simp [g2], by simp only [PyData.depth, PyData.depthKv] at g3 ⊢; omega, ?_, fun _ => by simp only [noLst, noLstK, h5 rfl]; rfl, fun e => by cases e⟩
  simp only [PyData.shown, PyData.shownKv] at g4 ⊢
  unfold dictText
  rw [strLen_append, strLen_append]
  have e1 : (("{" : String) : Str).length = 1 := rfl
  have e2 : (("}" : String) : Str).length = 1 := rfl
  have e3 : ((": " : String) : Str).length = 2 := rfl
  have e4 : (Str.join ", " [PyData.shown (.int k) ++ ((": " : String) : Str) ++ y.shown]).length = (PyData.shown (.int k)).length + 2 + y.shown.length := by
    show (PyData.shown (.int k) ++ ((": " : String) : Str) ++ y.shown).length = _
    rw [strLen_append, strLen_append, e3]
  simp only [PyData.shown] at e4
  omega
theorem fmN {P : D → Prop} : ∀ x ∈ ([] : List D), P x := fun x h => by cases h
theorem fmC {P : D → Prop} {a : D} {r : List D} (h : P a) (h2 : ∀ x ∈ r, P x) : ∀ x ∈ a :: r, P x := fun x hx => by
  rcases List.mem_cons.mp hx with rfl | hx
  · exact h
  · exact h2 x hx
theorem cut_sub {α : Type} {xs : List α} {lo hi : Option Int} {x : α} (h : x ∈ cutD xs lo hi) : x ∈ xs := by
  unfold cutD at h
  exact List.mem_of_mem_drop (List.mem_of_mem_take h)
theorem atI_any {e : List Int} {i : Int} (h1 : -(e.length : Int) ≤ i) (h2 : i < e.length) : ∃ v ∈ e, L2.atI (e.map D.int) i = some (.int v) := by
  by_cases h : 0 ≤ i
  · have h3 : i.toNat < e.length := by omega
    exact ⟨e[i.toNat], List.getElem_mem h3, by rw [atI_pos _ h, List.getElem?_map, List.getElem?_eq_getElem h3]; rfl⟩
  · have h3 : (i + e.length).toNat < e.length := by omega
    refine ⟨e[(i + e.length).toNat], List.getElem_mem h3, ?_⟩
    rw [atI_neg _ (by omega) (by rw [List.length_map]; exact h1), List.length_map, List.getElem?_map, List.getElem?_eq_getElem h3]
    rfl
theorem oRev_t (xs : List D) : oRev (.d (.tup xs)) = some (.v (.tup xs.reverse)) := rfl
def OddV (d : D) : Prop := Rv 3000 6 true false d ∨ Rv 3000 6 false true d
theorem rvw {b dp : Nat} {d : D} (h : Rv b dp false false d) (hb : b ≤ 100) (hd : dp ≤ 3) : Rv 100 3 true false d := h.mono hb hd (fun _ => rfl) (fun h => h)
theorem rvl {b dp : Nat} {d : D} (h : Rv b dp true false d) (hb : b ≤ 100) (hd : dp ≤ 3) : Rv 100 3 true false d := h.mono hb hd (fun _ => rfl) (fun h => h)
theorem odd_item_ok {P : List Cd} {wf k i iD iP n : Nat} {S : List Ob} {p : Int × List Int} {Q : Op → List Ob → Prop} (h : P[i]? = some ⟨b_law_odd_item iD iP, 3, 9⟩) (hD : P[iD]? = some ⟨b_law_draw, 2, 8⟩) (hP : P[iP]? = some ⟨b_law_pick iD, 2, 2⟩)
    (hn : Six n) (hR : RW S) (hp : GoodIt n p) (q : ∀ d S', OddV d → RW S' → Q (.v d) S') : WC (ctK P wf (k + 3) i [.loc 1, .dct (worldK n), itP p] S) Q := by
  obtain ⟨num, e⟩ := p
  obtain ⟨h0, lot, hlot, E⟩ := hp
  have E : Ent n lot e := E
  have hk := (List.getElem?_eq_some_iff.mp hlot).1
  have hn6 := six_le hn
  have hn5 := six_ge hn
  have h64 := six_lots hn
  have h0' : 0 ≤ num := h0
  have hnum : num ≤ 64 := by
    have hk' : num.toNat < (lotsI n).length := hk
    omega
  have rn : Rv 2 0 false false (.int num) := rv_int (by omega) hnum
  have re : Rv 31 1 false false (tI e) := rv_tI hn6 E.len E.rng
  have hel := E.len
  refine WC_ct h rfl ?_
  unfold b_law_odd_item
  show W _ _
  refine W_step (fun m => m = ⟨[.val (.loc 1), .val (.dct (worldK n)), .val (.tup [.int num, tI e]), .un, .val (.int num), .val (tI e), .un, .un, .un], S⟩) ?_ ?_
  · show W (sUn _ _ _ (startM 9 [.loc 1, .dct (worldK n), .tup [.int num, tI e]] S)) _
    walk_at "kd"
  rintro m1 rfl
  refine W_step (fun m => ∃ (a way : Int) (S' : List Ob), 0 ≤ a ∧ a < n ∧ RW S' ∧ m = ⟨[.val (.loc 1), .val (.dct (worldK n)), .val (.tup [.int num, tI e]), .un, .val (.int num), .val (tI e), .val (.int a), .val (.int way), .un], S'⟩) ?_ ?_
  · walk_at "kd"
    refine draw_ok hD hR (by omega) (by omega) fun a S2 a1 a2 hR2 => ?_
    walk_at "kd"
    refine draw_ok hD hR2 (by omega) (by omega) fun way S3 w1 w2 hR3 => ?_
    walk_at "kd"
    exact ⟨a, way, S3, a1, a2, hR3, rfl⟩
  rintro m1 ⟨a, way, S1, a1, a2, hR1, rfl⟩
  obtain ⟨v1, hv1, ix1⟩ := atI_any (e := e) (i := a - 1) (by omega) (by omega)
  obtain ⟨v2, hv2, ix2⟩ := atI_any (e := e) (i := a) (by omega) (by omega)
  have r1 := E.rng v1 hv1
  have r2 := E.rng v2 hv2
  have rcut : ∀ (lo hi : Option Int) (x : D), x ∈ (cutD e lo hi).map D.int → Rv 100 3 true false x := fun lo hi x hx => by
    obtain ⟨v, rfl, hv⟩ := int_mem hx
    have := E.rng v (cut_sub hv)
    exact rvw (rv_int this.1 (by omega)) (by omega) (by omega)
  have two : ∀ x, Rv 1400 4 true false x → OddV (.tup [.int num, x]) := fun x hx => by
    refine .inl ((rv_tup (b := 1400) (dp := 4) (ls := true) (dc := false) (fmC (rn.mono (by omega) (by omega) (fun _ => rfl) (fun h => h)) (fmC hx fmN))).mono ?_ (by omega) (fun h => h) (fun h => h))
    simp
  have sL : ∀ (lo hi : Option Int), (cutD e lo hi).length ≤ 6 := fun lo hi => Nat.le_trans (cut_len _ _ _) (by omega)
  refine W_step (fun m => ∃ (S' : List Ob), RW S' ∧ m = ⟨[.val (.loc 1), .val (.dct (worldK n)), .val (.tup [.int num, tI e]), .un, .val (.int num), .val (tI e), .val (.int a), .val (.int way), .un], S'⟩) ?_ ?_
  · walk_at "kd"
    refine W_if' (fun _ => ?_) (fun _ => ?_)
    · walk_at "kd"
      rw [ix1]
      walk_at "kd"
      rw [ix2]
      walk_at "kd"
      refine pick_ok hP hD hR1 (.inl rfl) (by simp) (by simp) fun x S2 hx hR2 => ?_
      have rx : Rv 100 3 true false x := by
        refine fmC (rvw rv_non (by omega) (by omega)) (fmC ((rvw (rv_tup (b := 0) (dp := 0) (ls := false) (dc := false) fmN)) (by simp) (by omega)) (fmC (rvw (rv_int (by omega) (by omega)) (by omega) (by omega)) (fmC (rvw (rv_int (by omega) (by omega)) (by omega) (by omega)) (fmC (rvw (rv_bl _) (by omega) (by omega)) (fmC (rvw (rv_str (b := 10) (by decide +kernel)) (by omega) (by omega))
          (fmC (rvw (rv_int (by omega) (by omega)) (by omega) (by omega)) (fmC (rvw (rv_int (by omega) (by omega)) (by omega) (by omega)) (fmC (rvw (rv_int (by omega) (by omega)) (by omega) (by omega)) (fmC (rvl (rv_lst (b := 2) (dp := 0) (ls := false) (dc := false) (fmC (rv_int (by omega) (by omega)) fmN)) (by simp) (by omega)) fmN))))))))) x hx
      walk_at "kd"
      rw [oAdd_t (by rw [List.length_map]; have := sL none (some a); exact sz_le (by simp; omega))]
      walk_at "kd"
      rw [oAdd_t (by rw [List.length_append, List.length_map, List.length_map]; have := sL none (some a); have := sL (some (a + 1)) none; exact sz_le (by simp; omega))]
      walk_at "kd"
      refine q _ S2 (two _ ((rv_tup (b := 100) (dp := 3) (ls := true) (dc := false) fun y hy => ?_).mono ?_ (by omega) (fun h => h) (fun h => h))) hR2
      · rcases List.mem_append.mp hy with hy | hy
        · rcases List.mem_append.mp hy with hy | hy
          · exact rcut _ _ y hy
          · rw [List.mem_singleton] at hy
            subst hy
            exact rx
        · exact rcut _ _ y hy
      · have s1 := sL none (some a)
        have s2 := sL (some (a + 1)) none
        simp only [List.length_append, List.length_map, List.length_singleton]
        omega
    · walk_at "kd"
      exact ⟨S1, hR1, rfl⟩
  rintro m1 ⟨S2, hR2, rfl⟩
  refine W_step (fun m => ∃ (S' : List Ob), RW S' ∧ m = ⟨[.val (.loc 1), .val (.dct (worldK n)), .val (.tup [.int num, tI e]), .un, .val (.int num), .val (tI e), .val (.int a), .val (.int way), .un], S'⟩) ?_ ?_
  · walk_at "kd"
    refine W_if' (fun _ => ?_) (fun _ => ?_)
    · walk_at "kd"
      rw [oAdd_t (by rw [List.length_map]; exact sz_le (by simp; omega))]
      walk_at "kd"
      rw [oRev_t]
      walk_at "kd"
      refine pick_ok hP hD hR2 (.inl rfl) (by simp) (by simp) fun x S3 hx hR3 => ?_
      have tb : ∀ (l : List Int), l.length ≤ 7 → (∀ v ∈ l, -1 ≤ v ∧ v < n) → Rv 100 3 true false (.tup (l.map D.int)) := fun l hl hv => by
        refine (rv_tup (b := 2) (dp := 0) (ls := false) (dc := false) fun x hx => ?_).mono ?_ (by omega) (fun _ => rfl) (fun h => h)
        · obtain ⟨v, rfl, hv2⟩ := int_mem hx
          have := hv v hv2
          exact rv_int this.1 (by omega)
        · rw [List.length_map]
          omega
      have rx : Rv 100 3 true false x := by
        refine fmC (tb _ (by have := cut_len e (some 1) none; omega) fun v hv => E.rng v (cut_sub hv)) (fmC (by
            have := tb (e ++ [-1]) (by rw [List.length_append, List.length_singleton]; omega) fun v hv => by
              rcases List.mem_append.mp hv with hv | hv
              · exact E.rng v hv
              · rw [List.mem_singleton] at hv
                omega
            rw [List.map_append] at this
            exact this) (fmC ((rv_lst (b := 2) (dp := 0) (ls := false) (dc := false) (fun x hx => by
              obtain ⟨v, rfl, hv2⟩ := int_mem hx
              have := E.rng v hv2
              exact rv_int this.1 (by omega))).mono (by rw [List.length_map]; omega) (by omega) (fun h => h) (fun h => h)) (fmC (rvw rv_non (by omega) (by omega)) (fmC ((rvw (rv_tup (b := 0) (dp := 0) (ls := false) (dc := false) fmN)) (by simp) (by omega))
          (fmC (by
            have := tb e.reverse (by rw [List.length_reverse]; omega) fun v hv => E.rng v (List.mem_reverse.mp hv)
            rw [List.map_reverse] at this
            exact this) (fmC (rvw (rv_int (by omega) (by omega)) (by omega) (by omega)) (fmC (rvw (rv_str (b := 10) (by decide +kernel)) (by omega) (by omega)) fmN))))))) x hx
      walk_at "kd"
      exact q _ S3 (two x (rx.mono (by omega) (by omega) (fun h => h) (fun h => h))) hR3
    · walk_at "kd"
      exact ⟨S2, hR2, rfl⟩
  rintro m1 ⟨S3, hR3, rfl⟩
  have pair : ∀ x, Rv 100 3 true false x → OddV (.tup [x, tI e]) := fun x hx => by
    refine .inl ((rv_tup (b := 100) (dp := 3) (ls := true) (dc := false) (fmC hx (fmC (rvw re (by omega) (by omega)) fmN))).mono ?_ (by omega) (fun h => h) (fun h => h))
    simp
  refine W_step (fun m => ∃ (S' : List Ob), RW S' ∧ m = ⟨[.val (.loc 1), .val (.dct (worldK n)), .val (.tup [.int num, tI e]), .un, .val (.int num), .val (tI e), .val (.int a), .val (.int way), .un], S'⟩) ?_ ?_
  · walk_at "kd"
    refine W_if' (fun _ => ?_) (fun _ => ?_)
    · walk_at "kd"
      refine draw_ok hD hR3 (by omega) (by omega) fun z S4 z1 z2 hR4 => ?_
      walk_at "kd"
      exact q _ S4 (pair _ (rvw (rv_int (by omega) (by omega)) (by omega) (by omega))) hR4
    · walk_at "kd"
      exact ⟨S3, hR3, rfl⟩
  rintro m1 ⟨S4, hR4, rfl⟩
  refine W_step (fun m => ∃ (S' : List Ob), RW S' ∧ m = ⟨[.val (.loc 1), .val (.dct (worldK n)), .val (.tup [.int num, tI e]), .un, .val (.int num), .val (tI e), .val (.int a), .val (.int way), .un], S'⟩) ?_ ?_
  · walk_at "kd"
    refine W_if' (fun _ => ?_) (fun _ => ?_)
    · walk_at "kd"
      refine pick_ok hP hD hR4 (.inl rfl) (by simp) (by simp) fun x S5 hx hR5 => ?_
      have rx : Rv 100 3 true false x := by
        refine fmC (rvw (rv_int (by omega) (by omega)) (by omega) (by omega)) (fmC (rvw (rv_int (by omega) (by omega)) (by omega) (by omega)) (fmC (rvw (rv_bl _) (by omega) (by omega)) (fmC (rvw (rv_bl _) (by omega) (by omega)) (fmC (rvw rv_non (by omega) (by omega)) (fmC (rvw (rv_str (b := 10) (by decide +kernel)) (by omega) (by omega))
          (fmC (rvw (rv_tup (b := 2) (dp := 0) (ls := false) (dc := false) (fmC rn fmN)) (by simp) (by omega)) (fmC (rvw rv_big (by omega) (by omega)) (fmC (rvw (rv_str (b := 10) (by decide +kernel)) (by omega) (by omega)) (fmC (rvl (rv_lst (b := 2) (dp := 0) (ls := false) (dc := false) (fmC rn fmN)) (by simp) (by omega)) fmN))))))))) x hx
      walk_at "kd"
      exact q _ S5 (pair x rx) hR5
    · walk_at "kd"
      exact ⟨S4, hR4, rfl⟩
  rintro m1 ⟨S5, hR5, rfl⟩
  walk_at "kd"
  rw [if_pos (by rfl)]
  walk_at "kd"
  refine pick_ok hP hD hR5 (.inl rfl) (by simp) (by simp) fun x S6 hx hR6 => ?_
  have rx : OddV x := by
    have w : ∀ {d : D}, Rv 100 3 true false d → OddV d := fun h => .inl (h.mono (by omega) (by omega) (fun h => h) (fun h => h))
    have n2 : Rv 31 1 false false (.int num) := rn.mono (by omega) (by omega) (fun h => h) (fun h => h)
    have z2 : Rv 31 1 false false (.int 0) := (rv_int (by omega) (by omega)).mono (by omega) (by omega) (fun h => h) (fun h => h)
    refine fmC (w (rvw rv_non (by omega) (by omega))) (fmC (w ((rvw (rv_tup (b := 0) (dp := 0) (ls := false) (dc := false) fmN)) (by simp) (by omega))) (fmC (w (rvw (rv_tup (b := 2) (dp := 0) (ls := false) (dc := false) (fmC rn fmN)) (by simp) (by omega)))
      (fmC (w (rvl (rv_lst (b := 31) (dp := 1) (ls := false) (dc := false) (fmC n2 (fmC re fmN))) (by simp) (by omega))) (fmC (.inl ((rv_tup (b := 31) (dp := 1) (ls := false) (dc := false) (fmC n2 (fmC re (fmC z2 fmN)))).mono (by simp) (by omega) (fun _ => rfl) (fun h => h)))
      (fmC (w (rvw rn (by omega) (by omega))) (fmC (w (rvw re (by omega) (by omega))) (fmC (w (rvw (rv_str (b := 10) (by decide +kernel)) (by omega) (by omega))) (fmC (.inr ((rv_dct (by omega) hnum re).mono (by omega) (by omega) (fun h => h) (fun h => h))) fmN)))))))) x hx
  walk_at "kd"
  exact q x S6 rx hR6
end Kd

namespace Kd
open PySem
local macro_rules | `(tactic| walk_at "kd") => `(tactic| try simp -dsimp +decide only [W_ok, W_seq, seqQ_nx, seqQ_rt, seqQ_bk, seqQ_ct, W_asg, stQ_some, W_un, W_par2, W_exp, W_ret, rtQ_v, rtQ_nl, rtQ_nd, rtQ_slot, rtS_ol, rtS_od, W_retN, W_skip, W_brk, W_cnt, W_if, ifQ_t, ifQ_f, okQ_some, W_of, W_eC, W_eVar,
  vaQ_val, vaQ_ol, vaQ_od, W_eF, W_fz_v, W_fz_nl, W_fz_nd, W_fz, fzQ_val, fzQ_ol, fzQ_od, W_fzS_v, W_fzS_nl, W_fzS_nd, W_fzS_sl, W_list_nil, W_list_cons, W_tup, W_lst, W_e1, W_e2, W_t1, W_t2, W_t3, tfQ_t, tfQ_f, W_eB, boQ_bl, W_tE, W_tNot, W_and_nil, W_or_nil, W_and, W_or,
  W_eand1, W_eor1, W_eand, W_eor, W_eIf, W_tIf, W_optN, W_optS, inQ_i, W_slice, W_call, W_callK, W_share, shQ_nl, shQ_nd, W_rng1, W_rng2, W_seqI, W_enumI, W_zipI, W_lstI, W_for, turnQ_nx, turnQ_ct, turnQ_bk, turnQ_rt, W_mutL, W_mut, muQ_ol, W_mutO, muO_lst, W_mutD, mdQ_od, W_mutDO, mdO_dct, W_meth, W_set, setQ_eq, setV_l, setV_k,
  W_kvs_nil, W_kvs_cons, W_dct, W_dctZ, W_comp, vw_v, vw_nl, vw_nd, vw_sl, vwS_ol, vwS_od, vwD_int, vwD_str, vwD_bl, vwD_non, vwD_tup, vwD_lst, vwD_dct, vwD_loc, vwO_lst, vwO_dct, setSl_v, setSl_nl, setSl_nd, setSl_sl, slS_ol, slS_od, pat_n, pat_t, pat_tl, pats_nil, pats_cons,
  oAdd_i, oSub_i, oNeg_i, cLt_i, cLe_i, cGt_i, cGe_i, bLen_l, bLen_t, bLen_k, bTuple_l, bTuple_t, bList_l, bList_t, bInt_i, oIx_l, oIx_t, oIx_k, kvO_some, kk_int, kk_str, isTy_int, isTy_tup, isTy_bl, isTy_str, isTy_non, isTy_l, isTy_k, vwDD, frozen_t, frozen_l, bind_some', map_some', map_none', start1, start2, start3, start4,
  retQ_rt, retQ_nx, get0, getS, set0, setS, List.replicate, List.length_cons, List.length_nil, Nat.reduceAdd, Nat.reduceSub, Nat.reduceMul, Nat.reduceLeDiff, isL_l, isK_k, Option.bind_some, if_true, if_false, ite_true, ite_false, Bool.not_true, Bool.not_false, true_and, and_true, Option.map_some, Option.map_none, reduceIte, reduceCtorEq, decide_true, decide_false, vwLD, vwKD, sz0, sz1, sz2, sz3, sz4, sz5, sz6, sz7, sz8, sz9, sz10, joinQ_nx, joinQ_rt, joinQ_bk, joinQ_ct, reel_deep, reel_cells, reel_stamp, reel_count, reel_set, cEq_i, cNe_i, cNe_b, cEq_tI, cNe_tI, cIn_t, cIn_l, cNotIn_t, cNotIn_l, List.length_map, oMul_r, oMul_l, oMod_i, oFdiv_i, oPow_i, lAppend_one, rgQ_i, rgQ2_i, W_forL_nil, W_forL_cons, wipeM_mk, wipeS_nil, wipeS_cons, backS_nil, backS_cons, keptS_un, keptS_val, keptS_ol, keptS_od, oCut_l, oCut_t, Int.toNat_natCast, forall_const, imp_self, atI_pos, Int.reduceToNat, bSorted_ints, bMin_ints, bMax_ints, cut_map, w_n, w_lots, w_spots, kk_tI, rng_0, rng_1, rng_2, rng_3, rng_4, rng_5, rng_6, rng_7, rng_8, rng_9, rng_10, rng_11, rng_12, rng_13, rng_14, rng_15, rng_16, rng_32, rng_64])

/-- what part_error is asked about -/
def ValV (d : D) : Prop := Rv 300000 20 true false d ∨ Rv 300000 20 false true d
/-- a tuple of not too many things -/
def L65 (d : D) : Prop := ∀ xs, d = .tup xs → xs.length ≤ 65
theorem valv {b dp : Nat} {d : D} (h : Rv b dp false false d) (hb : b ≤ 300000) (hd : dp ≤ 20) : ValV d := .inl (h.mono hb hd (fun _ => rfl) (fun h => h))
theorem valv_l {b dp : Nat} {d : D} (h : Rv b dp true false d) (hb : b ≤ 300000) (hd : dp ≤ 20) : ValV d := .inl (h.mono hb hd (fun h => h) (fun h => h))
theorem rv_its {n : Nat} {its : List (Int × List Int)} (hn : Six n) (h : ∀ p ∈ its, GoodIt n p) : ∀ x ∈ its.map itP, Rv 69 2 false false x := fun x hx => by
  rw [List.mem_map] at hx
  obtain ⟨p, hp, rfl⟩ := hx
  exact rv_it hn (h p hp)
theorem rv_empty : Rv 2 1 false true (.dct []) := ⟨.dict [], by simp only [D.py, D.pyk]; rfl, by simp only [PyData.showable, PyData.showableKv], by simp only [PyData.depth, PyData.depthKv]; omega, by simp only [PyData.shown, PyData.shownKv]; decide +kernel, fun _ => by simp only [noLst, noLstK], fun e => by cases e⟩
theorem spoilt_ok {P : List Cd} {wf k i iD iP iO iM iE iN n : Nat} {S : List Ob} {its : List (Int × List Int)} {Q : Op → List Ob → Prop} (h : P[i]? = some ⟨b_law_spoilt iD iP iO iM iE iN, 3, 13⟩) (hD : P[iD]? = some ⟨b_law_draw, 2, 8⟩) (hP : P[iP]? = some ⟨b_law_pick iD, 2, 2⟩)
    (hO : P[iO]? = some ⟨b_law_odd_item iD iP, 3, 9⟩) (hM : P[iM]? = some ⟨b_law_mixed iD, 2, 4⟩) (hE : P[iE]? = some ⟨b_law_end, 1, 2⟩) (hN : P[iN]? = some ⟨b_law_entry iM, 4, 6⟩) (hwf : 100 < wf)
    (hn : Six n) (hR : RW S) (hg : ∀ p ∈ its, GoodIt n p) (hl : its.length ≤ 64) (q : ∀ d S', ValV d → L65 d → RW S' → Q (.v d) S') : WC (ctK P wf (k + 4) i [.loc 1, .dct (worldK n), .tup (its.map itP)] S) Q := by
  have hn6 := six_le hn
  have hn5 := six_ge hn
  have h64 := six_lots hn
  have ri := rv_its hn hg
  have hlm : (its.map itP).length ≤ 64 := by rw [List.length_map]; exact hl
  have rp : Rv 4547 3 false false (.tup (its.map itP)) := (rv_tup ri).mono (by omega) (by omega) (fun h => h) (fun h => h)
  have hok : ∀ x ∈ its.map itP, okd x = true := fun x hx => by
    rw [List.mem_map] at hx
    obtain ⟨p, _, rfl⟩ := hx
    exact okd_it p
  refine WC_ct h rfl ?_
  unfold b_law_spoilt
  refine W_step (fun m => ∃ (way : Int) (S' : List Ob), RW S' ∧ m = ⟨[.val (.loc 1), .val (.dct (worldK n)), .val (.tup (its.map itP)), .un, .un, .un, .un, .un, .un, .ol (its.map itP), .val (.int way), .un, .un], S'⟩) ?_ ?_
  · walk_at "kd"
    refine draw_ok hD hR (by omega) (by omega) fun z S2 z1 z2 hR2 => ?_
    walk_at "kd"
    exact ⟨z, S2, hR2, rfl⟩
  rintro m1 ⟨way, S1, hR1, rfl⟩
  refine W_step (fun m => ∃ (S' : List Ob), its ≠ [] ∧ RW S' ∧ m = ⟨[.val (.loc 1), .val (.dct (worldK n)), .val (.tup (its.map itP)), .un, .un, .un, .un, .un, .un, .ol (its.map itP), .val (.int way), .un, .un], S'⟩) ?_ ?_
  · have ret : ∀ m : M, m = ⟨[.val (.loc 1), .val (.dct (worldK n)), .val (.tup (its.map itP)), .un, .un, .un, .un, .un, .un, .ol (its.map itP), .val (.int way), .un, .un], S1⟩ → W (sRet (eCall iP none [(eVar 0), (eLst [(e1 bList (eVar 2)), (eC .non), (eC (.int 0)), (eC (.str "part")), (eDct []), (eTup [(eC .non)]), (eTup [(eTup [(eC (.int 0))])]), (e2 oAdd (eVar 2) (eTup [(eTup [])])), (e2 oAdd (eVar 2) (eTup [(eVar 2)])), (eC (.bl true))])]) ⟨ctK P wf (k + 3), wf⟩ m)
        (joinQ (fun m => ∃ (S' : List Ob), its ≠ [] ∧ RW S' ∧ m = ⟨[.val (.loc 1), .val (.dct (worldK n)), .val (.tup (its.map itP)), .un, .un, .un, .un, .un, .un, .ol (its.map itP), .val (.int way), .un, .un], S'⟩) (retQ Q)) := by
      rintro m rfl
      walk_at "kd"
      rw [oAdd_t (by exact sz_le (by simp; omega))]
      walk_at "kd"
      rw [oAdd_t (by exact sz_le (by simp; omega))]
      walk_at "kd"
      refine pick_ok hP hD hR1 (.inl rfl) (by simp) (by simp) fun x S2 hx hR2 => ?_
      have r0 : Rv 3 1 false false (.tup []) := (rv_tup (b := 0) (dp := 0) (ls := false) (dc := false) fmN).mono (by simp) (by omega) (fun h => h) (fun h => h)
      have rx : ValV x := by
        refine fmC (valv_l (rv_lst ri) (by omega) (by omega)) (fmC (valv rv_non (by omega) (by omega)) (fmC (valv (rv_int (by omega) (by omega)) (by omega) (by omega)) (fmC (valv (rv_str (b := 10) (by decide +kernel)) (by omega) (by omega)) (fmC (.inr (rv_empty.mono (by omega) (by omega) (fun h => h) (fun h => h)))
          (fmC (valv (rv_tup (b := 4) (dp := 0) (ls := false) (dc := false) (fmC rv_non fmN)) (by simp) (by omega))
          (fmC (valv (rv_tup (b := 7) (dp := 1) (ls := false) (dc := false) (fmC ((rv_tup (b := 2) (dp := 0) (ls := false) (dc := false) (fmC (rv_int (by omega) (by omega)) fmN)).mono (by simp) (by omega) (fun h => h) (fun h => h)) fmN)) (by simp) (by omega))
          (fmC (valv (rv_tup (b := 69) (dp := 2) (ls := false) (dc := false) fun y hy => ?_) ?_ (by omega)) (fmC (valv (rv_tup (b := 4547) (dp := 3) (ls := false) (dc := false) fun y hy => ?_) ?_ (by omega)) (fmC (valv (rv_bl _) (by omega) (by omega)) fmN))))))))) x hx
        · rcases List.mem_append.mp hy with hy | hy
          · exact ri y hy
          · rw [List.mem_singleton] at hy
            subst hy
            exact r0.mono (by omega) (by omega) (fun h => h) (fun h => h)
        · rw [List.length_append, List.length_singleton]; omega
        · rcases List.mem_append.mp hy with hy | hy
          · exact (ri y hy).mono (by omega) (by omega) (fun h => h) (fun h => h)
          · rw [List.mem_singleton] at hy
            subst hy
            exact rp
        · rw [List.length_append, List.length_singleton]; omega
      have rl : L65 x := by
        refine fmC (fun xs e => by cases e) (fmC (fun xs e => by cases e) (fmC (fun xs e => by cases e) (fmC (fun xs e => by cases e) (fmC (fun xs e => by cases e) (fmC (fun xs e => by cases e; simp) (fmC (fun xs e => by cases e; simp)
          (fmC (fun xs e => by cases e; rw [List.length_append, List.length_singleton]; omega) (fmC (fun xs e => by cases e; rw [List.length_append, List.length_singleton]; omega) (fmC (fun xs e => by cases e) fmN))))))))) x hx
      walk_at "kd"
      exact q x S2 rx rl hR2
    rw [W_if]
    refine W.mono (Q := fun c m => (c = false → its ≠ []) ∧ m = ⟨[.val (.loc 1), .val (.dct (worldK n)), .val (.tup (its.map itP)), .un, .un, .un, .un, .un, .un, .ol (its.map itP), .val (.int way), .un, .un], S1⟩) ?_ ?_
    · walk_at "kd"
      refine W_tf (fun hc => ?_) (fun hc => ?_)
      · walk_at "kd"
        exact fun z => z.elim
      · walk_at "kd"
        rw [cEq_nil hok]
        walk_at "kd"
        refine W_tf (fun hc2 => ?_) (fun hc2 => ?_)
        · walk_at "kd"
          exact fun z => z.elim
        · walk_at "kd"
          intro z
          subst z
          simp at hc2
    · rintro c m ⟨hc, rfl⟩
      refine W_if' (fun _ => ?_) (fun hc2 => ?_)
      · exact ret _ rfl
      · walk_at "kd"
        exact ⟨S1, hc hc2, hR1, rfl⟩
  rintro m1 ⟨S2, hne, hR2, rfl⟩
  have hpos := List.length_pos_iff.mpr hne
  refine W_step (fun m => ∃ (a : Nat) (S' : List Ob), a < its.length ∧ RW S' ∧ m = ⟨[.val (.loc 1), .val (.dct (worldK n)), .val (.tup (its.map itP)), .val (.int (a : Nat)), .un, .un, .un, .un, .un, .ol (its.map itP), .val (.int way), .un, .un], S'⟩) ?_ ?_
  · walk_at "kd"
    refine draw_ok hD hR2 (by omega) (by omega) fun z S3 z1 z2 hR3 => ?_
    walk_at "kd"
    refine ⟨z.toNat, S3, by omega, hR3, ?_⟩
    rw [show ((z.toNat : Nat) : Int) = z by omega]
  rintro m1 ⟨a, S3, ha, hR3, rfl⟩
  have hpa := List.getElem?_eq_getElem ha
  have ixa : L2.atI (its.map itP) (a : Nat) = some (itP its[a]) := by rw [atI_nat, List.getElem?_map, hpa]; rfl
  have rpart : ∀ (js : List (Int × List Int)), (∀ p ∈ js, GoodIt n p) → js.length ≤ 65 → ValV (.tup (js.map itP)) ∧ L65 (.tup (js.map itP)) := fun js hj hl => ⟨valv (rv_tup (rv_its hn hj)) (by rw [List.length_map]; omega) (by omega), fun xs e => by cases e; rw [List.length_map]; exact hl⟩
  refine W_step (fun m => ∃ (S' : List Ob), RW S' ∧ m = ⟨[.val (.loc 1), .val (.dct (worldK n)), .val (.tup (its.map itP)), .val (.int (a : Nat)), .un, .un, .un, .un, .un, .ol (its.map itP), .val (.int way), .un, .un], S'⟩) ?_ ?_
  · walk_at "kd"
    refine W_if' (fun _ => ?_) (fun _ => ?_)
    · walk_at "kd"
      rw [ixa]
      walk_at "kd"
      refine odd_item_ok hO hD hP hn hR3 (hg _ (List.getElem_mem ha)) fun d S4 hd hR4 => ?_
      walk_at "kd"
      rw [setL_nat (by rw [List.length_map]; exact ha)]
      walk_at "kd"
      refine q _ S4 ?_ (fun xs e => by cases e; rw [List.length_set]; omega) hR4
      have hset : ∀ {ls dc : Bool}, Rv 3000 6 ls dc d → ∀ x ∈ (its.map itP).set a d, Rv 3000 6 ls dc x := fun hd x hx => by
        rcases List.mem_or_eq_of_mem_set hx with hx | rfl
        · exact (ri x hx).mono (by omega) (by omega) (fun h => by cases h) (fun h => by cases h)
        · exact hd
      rcases hd with hd | hd
      · exact .inl ((rv_tup (hset hd)).mono (by rw [List.length_set, List.length_map]; omega) (by omega) (fun h => h) (fun h => h))
      · exact .inr ((rv_tup (hset hd)).mono (by rw [List.length_set, List.length_map]; omega) (by omega) (fun h => h) (fun h => h))
    · walk_at "kd"
      exact ⟨S3, hR3, rfl⟩
  rintro m1 ⟨S4, hR4, rfl⟩
  refine W_step (fun m => ∃ (S' : List Ob), RW S' ∧ m = ⟨[.val (.loc 1), .val (.dct (worldK n)), .val (.tup (its.map itP)), .val (.int (a : Nat)), .un, .un, .un, .un, .un, .ol (its.map itP), .val (.int way), .un, .un], S'⟩) ?_ ?_
  · walk_at "kd"
    refine W_if' (fun _ => ?_) (fun _ => ?_)
    · walk_at "kd"
      refine mixedT_ok hM hD hR4 (.inl rfl) (by omega) (by omega) okd_it fun js S5 hj hR5 => ?_
      walk_at "kd"
      have rr := rpart js (fun p hp => hg p (hj.subset hp)) (by rw [hj.length_eq]; omega)
      exact q _ S5 rr.1 rr.2 hR5
    · walk_at "kd"
      exact ⟨S4, hR4, rfl⟩
  rintro m1 ⟨S5, hR5, rfl⟩
  refine W_step (fun m => ∃ (S' : List Ob), RW S' ∧ m = ⟨[.val (.loc 1), .val (.dct (worldK n)), .val (.tup (its.map itP)), .val (.int (a : Nat)), .un, .un, .un, .un, .un, .ol (its.map itP), .val (.int way), .un, .un], S'⟩) ?_ ?_
  · walk_at "kd"
    refine W_if' (fun _ => ?_) (fun _ => ?_)
    · have c1 := cut_len its none (some (a : Int))
      have c2 := cut_len its (some (a : Int)) none
      walk_at "kd"
      rw [ixa]
      walk_at "kd"
      rw [oAdd_l (by rw [List.length_map]; exact sz_le (by simp; omega))]
      walk_at "kd"
      rw [oAdd_l (by rw [List.length_append, List.length_map, List.length_map]; exact sz_le (by simp; omega))]
      walk_at "kd"
      have e : ((cutD its none (some (a : Int))).map itP ++ [itP its[a]]) ++ (cutD its (some (a : Int)) none).map itP = ((cutD its none (some (a : Int)) ++ [its[a]]) ++ cutD its (some (a : Int)) none).map itP := by
        rw [List.map_append, List.map_append]; rfl
      rw [e]
      have rr := rpart (cutD its none (some (a : Int)) ++ [its[a]] ++ cutD its (some (a : Int)) none) (fun p hp => by
        rcases List.mem_append.mp hp with hp | hp
        · rcases List.mem_append.mp hp with hp | hp
          · exact hg p (cut_sub hp)
          · rw [List.mem_singleton] at hp
            subst hp
            exact hg _ (List.getElem_mem ha)
        · exact hg p (cut_sub hp)) (by
          have c3 : (cutD its none (some (a : Int))).length + (cutD its (some (a : Int)) none).length ≤ 64 + 0 := by
            rw [cut_take, cut_drop, List.length_take, List.length_drop]
            omega
          rw [List.length_append, List.length_append, List.length_singleton]; omega)
      exact q _ S5 rr.1 rr.2 hR5
    · walk_at "kd"
      exact ⟨S5, hR5, rfl⟩
  rintro m1 ⟨S6, hR6, rfl⟩
  refine W_step (fun m => ∃ (p : Int × List Int) (S' : List Ob), p ∈ its ∧ RW S' ∧ m = ⟨[.val (.loc 1), .val (.dct (worldK n)), .val (.tup (its.map itP)), .val (.int (a : Nat)), .val (itP p), .un, .un, .un, .un, .val (.lst (its.map itP)), .val (.int way), .un, .un], S'⟩) ?_ ?_
  · walk_at "kd"
    refine pick_ok hP hD hR6 (.inl rfl) (by rw [List.length_map]; exact hpos) (by omega) fun x S7 hx hR7 => ?_
    rw [List.mem_map] at hx
    obtain ⟨p, hp, rfl⟩ := hx
    walk_at "kd"
    exact ⟨p, S7, hp, hR7, rfl⟩
  rintro m1 ⟨p, S7, hp, hR7, rfl⟩
  obtain ⟨g0, lot, hlot, E⟩ := hg p hp
  have hkl := (List.getElem?_eq_some_iff.mp hlot).1
  simp only [itP, itD]
  refine W_step (fun m => ∃ (s11 : Sl), m = ⟨[.val (.loc 1), .val (.dct (worldK n)), .val (.tup (its.map itP)), .val (.int (a : Nat)), .val (.tup [.int p.1, tI p.2]), .ol ((sizeAt n lot.length).map D.int), .un, .un, .un, .val (.lst (its.map itP)), .val (.int way), s11, .un], S7⟩) ?_ ?_
  · walk_at "kd"
    refine W_rgI (by omega) ?_
    refine W_compF D.int (fun k => decide (((((lotsI n)[k.toNat]?).getD []).length : Int) = (lot.length : Nat))) (fun x => x) (by rw [rgI_len]; exact sz_le (by omega)) (fun x hx => ?_) ?_
    · have hx2 := rgI_mem.mp hx
      have h3 : x.toNat < (lotsI n).length := by omega
      walk_at "kd"
      rw [atI_pos _ hx2.1, List.getElem?_map, List.getElem?_eq_getElem h3]
      walk_at "kd"
      rw [atI_pos _ g0, List.getElem?_map, hlot]
      walk_at "kd"
      refine ⟨?_, fun _ => trivial, fun _ => trivial⟩
      rw [Option.getD_some]
    walk_at "kd"
    rw [List.map_id']
    exact ⟨_, rfl⟩
  rintro m1 ⟨s11, rfl⟩
  have hsz := sizeAt_len n lot.length
  have hin : p.1 ∈ sizeAt n (lot.length : Nat) := by
    unfold sizeAt
    rw [List.mem_filter, rgI_mem, hlot]
    exact ⟨⟨g0, by omega⟩, by simp⟩
  have hsp := List.length_pos_of_mem hin
  refine W_step (fun m => ∃ (num : Int) (S' : List Ob), num ∈ sizeAt n (lot.length : Nat) ∧ RW S' ∧ m = ⟨[.val (.loc 1), .val (.dct (worldK n)), .val (.tup (its.map itP)), .val (.int (a : Nat)), .val (.tup [.int p.1, tI p.2]), .val (.lst ((sizeAt n lot.length).map D.int)), .val (.int num), .un, .un, .val (.lst (its.map itP)), .val (.int way), s11, .un], S'⟩) ?_ ?_
  · walk_at "kd"
    refine pick_ok hP hD hR7 (.inl rfl) (by rw [List.length_map]; exact hsp) (by rw [List.length_map]; omega) fun x S8 hx hR8 => ?_
    obtain ⟨num, rfl, hnum⟩ := int_mem hx
    walk_at "kd"
    exact ⟨num, S8, hnum, hR8, rfl⟩
  rintro m1 ⟨num, S8, hnum, hR8, rfl⟩
  obtain ⟨m0, m1', lot2, hlot2, hll2⟩ := sizeAt_mem hnum
  refine W_step (fun m => m = ⟨[.val (.loc 1), .val (.dct (worldK n)), .val (.tup (its.map itP)), .val (.int (a : Nat)), .val (.tup [.int p.1, tI p.2]), .val (.lst ((sizeAt n lot.length).map D.int)), .val (.int num), .val (tI (endI n p.2)), .un, .val (.lst (its.map itP)), .val (.int way), s11, .un], S8⟩) ?_ ?_
  · walk_at "kd"
    refine end_ok hE E.len (by omega) ?_
    walk_at "kd"
  rintro m1 rfl
  have cnt : (subI n fun x => decide (x ∉ lot2)).length ≤ (subI n fun x => decide (x ∉ endI n p.2)).length := by
    have c1 := left_of hn (List.mem_of_getElem? hlot)
    have c2 := left_of hn (List.mem_of_getElem? hlot2)
    have c3 := end_len E
    have c4 := pos_len E
    obtain ⟨j, _, hj⟩ := spot_of hn fun x => decide (x ∉ p.2)
    have c5 := left_of hn (List.mem_of_getElem? hj)
    have c6 : (subI n fun x => decide (x ∉ endI n p.2)).length + (endI n p.2).length = n := c5
    omega
  refine W_step (fun m => ∃ (e : List Int) (S' : List Ob), Ent n lot2 e ∧ RW S' ∧ m = ⟨[.val (.loc 1), .val (.dct (worldK n)), .val (.tup (its.map itP)), .val (.int (a : Nat)), .val (.tup [.int p.1, tI p.2]), .val (.lst ((sizeAt n lot.length).map D.int)), .val (.int num), .val (tI (endI n p.2)), .val (itP (num, e)), .val (.lst (its.map itP)), .val (.int way), s11, .un], S'⟩) ?_ ?_
  · walk_at "kd"
    rw [atI_pos _ m0, List.getElem?_map, hlot2]
    walk_at "kd"
    refine entry_ok hN hM hD hwf hn hR8 cnt fun e S9 E2 hR9 => ?_
    walk_at "kd"
    exact ⟨e, S9, E2, hR9, rfl⟩
  rintro m1 ⟨e, S9, E2, hR9, rfl⟩
  have gnew : GoodIt n (num, e) := ⟨m0, lot2, hlot2, E2⟩
  refine W_step (fun m => ∃ (js : List (Int × List Int)) (s12 : Sl), (∀ p ∈ js, GoodIt n p) ∧ js.length ≤ 65 ∧ m = ⟨[.val (.loc 1), .val (.dct (worldK n)), .val (.tup (its.map itP)), .val (.int (a : Nat)), .val (.tup [.int p.1, tI p.2]), .val (.lst ((sizeAt n lot.length).map D.int)), .val (.int num), .val (tI (endI n p.2)), .val (itP (num, e)), .ol (js.map itP), .val (.int way), s11, s12], S9⟩) ?_ ?_
  · have hfl := List.length_filter_le (fun b : Int × List Int => decide (b.1 ≠ num) || decide (b.1 = p.1)) its
    walk_at "kd"
    refine W_compF itP (fun b => decide (b.1 ≠ num) || decide (b.1 = p.1)) (fun x => x) (sz_le (by omega)) (fun x hx => ?_) ?_
    · simp -dsimp only [itP, itD]
      walk_at "kd"
      refine W_tf (fun hc => ?_) (fun hc => ?_)
      · walk_at "kd"
        rw [hc]
        simp [itP, itD]
      · walk_at "kd"
        rw [hc]
        refine W_tf (fun hc2 => ?_) (fun hc2 => ?_)
        · walk_at "kd"
          rw [hc2]
          simp [itP, itD]
        · walk_at "kd"
          rw [hc2]
          simp [itP, itD]
    walk_at "kd"
    rw [List.map_id', oAdd_l (by rw [List.length_map]; exact sz_le (by rw [List.length_singleton]; omega))]
    walk_at "kd"
    refine ⟨(its.filter fun b => decide (b.1 ≠ num) || decide (b.1 = p.1)) ++ [(num, e)], _, fun r hr => ?_, by rw [List.length_append, List.length_singleton]; omega, by rw [List.map_append]; rfl⟩
    rcases List.mem_append.mp hr with hr | hr
    · exact hg r (List.mem_filter.mp hr).1
    · rw [List.mem_singleton] at hr
      subst hr
      exact gnew
  rintro m1 ⟨js, s12, hjs, hjl, rfl⟩
  obtain ⟨ks, hk, he⟩ := bSorted_it js
  walk_at "kd"
  refine W_tf (fun hc => ?_) (fun hc => ?_)
  · walk_at "kd"
    rw [he]
    walk_at "kd"
    have rr := rpart ks (fun p hp => hjs p (hk.subset hp)) (by rw [hk.length_eq]; omega)
    exact q _ S9 rr.1 rr.2 hR9
  · walk_at "kd"
    have rr := rpart js hjs (by omega)
    exact q _ S9 rr.1 rr.2 hR9
end Kd

namespace Kd
open PySem
local macro_rules | `(tactic| walk_at "kd") => `(tactic| try simp -dsimp +decide only [W_ok, W_seq, seqQ_nx, seqQ_rt, seqQ_bk, seqQ_ct, W_asg, stQ_some, W_un, W_par2, W_exp, W_ret, rtQ_v, rtQ_nl, rtQ_nd, rtQ_slot, rtS_ol, rtS_od, W_retN, W_skip, W_brk, W_cnt, W_if, ifQ_t, ifQ_f, okQ_some, W_of, W_eC, W_eVar,
  vaQ_val, vaQ_ol, vaQ_od, W_eF, W_fz_v, W_fz_nl, W_fz_nd, W_fz, fzQ_val, fzQ_ol, fzQ_od, W_fzS_v, W_fzS_nl, W_fzS_nd, W_fzS_sl, W_list_nil, W_list_cons, W_tup, W_lst, W_e1, W_e2, W_t1, W_t2, W_t3, tfQ_t, tfQ_f, W_eB, boQ_bl, W_tE, W_tNot, W_and_nil, W_or_nil, W_and, W_or,
  W_eand1, W_eor1, W_eand, W_eor, W_eIf, W_tIf, W_optN, W_optS, inQ_i, W_slice, W_call, W_callK, W_share, shQ_nl, shQ_nd, W_rng1, W_rng2, W_seqI, W_enumI, W_zipI, W_lstI, W_for, turnQ_nx, turnQ_ct, turnQ_bk, turnQ_rt, W_mutL, W_mut, muQ_ol, W_mutO, muO_lst, W_mutD, mdQ_od, W_mutDO, mdO_dct, W_meth, W_set, setQ_eq, setV_l, setV_k,
  W_kvs_nil, W_kvs_cons, W_dct, W_dctZ, W_comp, vw_v, vw_nl, vw_nd, vw_sl, vwS_ol, vwS_od, vwD_int, vwD_str, vwD_bl, vwD_non, vwD_tup, vwD_lst, vwD_dct, vwD_loc, vwO_lst, vwO_dct, setSl_v, setSl_nl, setSl_nd, setSl_sl, slS_ol, slS_od, pat_n, pat_t, pat_tl, pats_nil, pats_cons,
  oAdd_i, oSub_i, oNeg_i, cLt_i, cLe_i, cGt_i, cGe_i, bLen_l, bLen_t, bLen_k, bTuple_l, bTuple_t, bList_l, bList_t, bInt_i, oIx_l, oIx_t, oIx_k, kvO_some, kk_int, kk_str, isTy_int, isTy_tup, isTy_bl, isTy_str, isTy_non, isTy_l, isTy_k, vwDD, frozen_t, frozen_l, bind_some', map_some', map_none', start1, start2, start3, start4,
  retQ_rt, retQ_nx, get0, getS, set0, setS, List.replicate, List.length_cons, List.length_nil, Nat.reduceAdd, Nat.reduceSub, Nat.reduceMul, Nat.reduceLeDiff, isL_l, isK_k, Option.bind_some, if_true, if_false, ite_true, ite_false, Bool.not_true, Bool.not_false, true_and, and_true, Option.map_some, Option.map_none, reduceIte, reduceCtorEq, decide_true, decide_false, vwLD, vwKD, sz0, sz1, sz2, sz3, sz4, sz5, sz6, sz7, sz8, sz9, sz10, joinQ_nx, joinQ_rt, joinQ_bk, joinQ_ct, reel_deep, reel_cells, reel_stamp, reel_count, reel_set, cEq_i, cNe_i, cNe_b, cEq_tI, cNe_tI, cIn_t, cIn_l, cNotIn_t, cNotIn_l, List.length_map, oMul_r, oMul_l, oMod_i, oFdiv_i, oPow_i, lAppend_one, rgQ_i, rgQ2_i, W_forL_nil, W_forL_cons, wipeM_mk, wipeS_nil, wipeS_cons, backS_nil, backS_cons, keptS_un, keptS_val, keptS_ol, keptS_od, oCut_l, oCut_t, Int.toNat_natCast, forall_const, imp_self, atI_pos, Int.reduceToNat, bSorted_ints, bMin_ints, bMax_ints, cut_map, w_n, w_lots, w_spots, kk_tI, rng_0, rng_1, rng_2, rng_3, rng_4, rng_5, rng_6, rng_7, rng_8, rng_9, rng_10, rng_11, rng_12, rng_13, rng_14, rng_15, rng_16, rng_32, rng_64])

def okAt (n : Nat) (lot : List Int) (i : Nat) (d : D) : Bool := match d with
  | .int v => decide (-1 ≤ v) && decide (v < n) && (decide (v < 0) == decide ((i : Int) ∈ lot))
  | _ => false
def allIx (n : Nat) (lot : List Int) : Nat → List D → Bool
  | _, [] => true
  | k, x :: r => okAt n lot k x && allIx n lot (k + 1) r
def asI (xs : List D) : List Int := xs.map fun d => match d with | .int v => v | _ => 0
def entB (n : Nat) (lot : List Int) (d : D) : Bool := match d with
  | .tup xs => decide (xs.length = n) && allIx n lot 0 xs && decide (((asI xs).filter fun v => decide (0 ≤ v)).Nodup)
  | _ => false
theorem allIx_bad {n : Nat} {lot : List Int} : ∀ {xs : List D} {k i : Nat} {x : D}, xs[i]? = some x → okAt n lot (k + i) x = false → allIx n lot k xs = false
  | [], _, _, _, h, _ => by simp at h
  | y :: r, k, 0, x, h, hb => by
    simp at h
    subst h
    unfold allIx
    rw [Nat.add_zero] at hb
    rw [hb]; rfl
  | y :: r, k, i + 1, x, h, hb => by
    unfold allIx
    rw [allIx_bad (xs := r) (k := k + 1) (i := i) (x := x) (by simpa using h) (by rw [show k + 1 + i = k + (i + 1) by omega]; exact hb)]
    simp
theorem allIx_all {n : Nat} {lot : List Int} : ∀ {xs : List D} {k : Nat}, (∀ i x, xs[i]? = some x → okAt n lot (k + i) x = true) → allIx n lot k xs = true
  | [], _, _ => rfl
  | y :: r, k, h => by
    unfold allIx
    have h00 : okAt n lot k y = true := h 0 y rfl
    rw [h00, allIx_all fun i x hx => by
      have := h (i + 1) x (by simpa using hx)
      rw [show k + 1 + i = k + (i + 1) by omega]
      exact this]
    rfl
theorem ints_of {n : Nat} {lot : List Int} : ∀ {xs : List D}, (∀ x ∈ xs, ∃ v, x = .int v) → xs = (asI xs).map D.int
  | [], _ => rfl
  | x :: r, h => by
    obtain ⟨v, rfl⟩ := h x (List.mem_cons_self ..)
    show D.int v :: r = D.int v :: (asI r).map D.int
    rw [← ints_of (n := n) (lot := lot) fun y hy => h y (List.mem_cons_of_mem _ hy)]
theorem asI_map (e : List Int) : asI (e.map D.int) = e := by
  unfold asI
  rw [List.map_map]
  exact List.map_id' e
theorem okAt_iff {n : Nat} {lot : List Int} {i : Nat} {v : Int} : okAt n lot i (.int v) = true ↔ -1 ≤ v ∧ v < n ∧ (v < 0 ↔ (i : Int) ∈ lot) := by
  unfold okAt
  simp only [Bool.and_eq_true, decide_eq_true_eq, beq_iff_eq, decide_eq_decide, and_assoc]
/-- a list covered by as many unlike items has no item twice -/
theorem cover_nodup {α : Type} [DecidableEq α] : ∀ {l m : List α}, m.Nodup → (∀ x ∈ m, x ∈ l) → m.length = l.length → l.Nodup
  | [], _, _, _, _ => List.nodup_nil
  | x :: l, m, hn, h, he => by
    have hx : x ∉ l := fun z => by
      have := sub_len hn (m := l) fun y hy => by
        rcases List.mem_cons.mp (h y hy) with e | hy
        · exact e ▸ z
        · exact hy
      rw [List.length_cons] at he
      omega
    rw [List.nodup_cons]
    refine ⟨hx, ?_⟩
    by_cases hm : x ∈ m
    · refine cover_nodup (m := m.erase x) (hn.erase x) (fun y hy => ?_) ?_
      · have hy2 := List.mem_of_mem_erase hy
        have ne : y ≠ x := fun e => by
          subst e
          exact (List.Nodup.not_mem_erase hn) hy
        rcases List.mem_cons.mp (h y hy2) with e | hy3
        · exact absurd e ne
        · exact hy3
      · rw [List.length_erase_of_mem hm]
        rw [List.length_cons] at he
        omega
    · have := sub_len hn (m := l) fun y hy => by
        rcases List.mem_cons.mp (h y hy) with e | hy3
        · subst e; exact absurd hy hm
        · exact hy3
      rw [List.length_cons] at he
      omega
/-- as many lead nowhere as lot has, exactly if no place is led to twice -/
theorem goal_count {n : Nat} {lot e : List Int} (hn : Six n) (hlot : lot ∈ lotsI n) (hl : e.length = n) (h : ∀ (x : Nat) (v : Int), e[x]? = some v → -1 ≤ v ∧ v < n ∧ (v < 0 ↔ (x : Int) ∈ lot)) :
    decide (((endI n e).length : Int) = (lot.length : Nat)) = decide ((e.filter fun v => decide (0 ≤ v)).Nodup) := by
  have h1 := neg_len e lot 0 fun x v hx => by
    have := h x v hx
    refine ⟨?_, this.1⟩
    rw [Nat.add_zero, ← this.2.2]
    omega
  have h1' : (e.filter fun v => decide (0 ≤ v)).length = (subI n fun x => decide (x ∉ lot)).length := by
    rw [hl] at h1
    unfold subI rgI
    simpa using h1
  have h2 := left_of hn hlot
  have h3 := filter_two (fun x => decide (x ∉ e)) (rgI n)
  rw [rgI_len] at h3
  have h4 : (endI n e).length = ((rgI n).filter fun x => decide (x ∉ e)).length := rfl
  have hnd : ((rgI n).filter fun x => !decide (x ∉ e)).Nodup := (rgI_nodup n).sublist List.filter_sublist
  have hsub : ∀ x ∈ ((rgI n).filter fun x => !decide (x ∉ e)), x ∈ e.filter fun v => decide (0 ≤ v) := fun x hx => by
    rw [List.mem_filter] at hx ⊢
    have := rgI_mem.mp hx.1
    exact ⟨by simpa using hx.2, by simpa using this.1⟩
  have h5 := sub_len hnd hsub
  rw [decide_eq_decide]
  constructor
  · intro z
    exact cover_nodup hnd hsub (by omega)
  · intro z
    have h6 := sub_len z (m := (rgI n).filter fun x => !decide (x ∉ e)) fun x hx => by
      rw [List.mem_filter] at hx ⊢
      obtain ⟨i, hi⟩ := List.mem_iff_getElem?.mp hx.1
      have := h i x hi
      have h0 : 0 ≤ x := by simpa using hx.2
      exact ⟨rgI_mem.mpr ⟨h0, this.2.1⟩, by simpa using hx.1⟩
    omega
/-! ### a dict of the same items -/
theorem putD_new {kvs : Kvs} {k : KK} {v : D} (h : k ∉ kvs.map (·.1)) : putD kvs k v = kvs ++ [(k, v)] := by
  unfold putD
  rw [if_neg]
  intro z
  rw [List.any_eq_true] at z
  obtain ⟨kv, h1, h2⟩ := z
  exact h (List.mem_map.mpr ⟨kv, h1, by simpa using h2⟩)
theorem putD_old {kvs : Kvs} {k : KK} {v : D} (h : k ∈ kvs.map (·.1)) : (putD kvs k v).map (·.1) = kvs.map (·.1) := by
  unfold putD
  rw [if_pos, List.map_map]
  · congr 1
    funext kv
    show (if kv.1 = k then (kv.1, v) else kv).1 = kv.1
    split <;> rfl
  · rw [List.any_eq_true]
    rw [List.mem_map] at h
    obtain ⟨kv, h1, h2⟩ := h
    exact ⟨kv, h1, by simpa using h2⟩
theorem merge_len : ∀ (more kvs : Kvs), (mergeD kvs more).length ≤ kvs.length + more.length ∧ ((mergeD kvs more).length = kvs.length + more.length ↔ (more.map (·.1)).Nodup ∧ ∀ k ∈ more.map (·.1), k ∉ kvs.map (·.1))
  | [], kvs => ⟨Nat.le_refl _, by simp [mergeD]⟩
  | (k, v) :: more, kvs => by
    obtain ⟨h1, h2⟩ := merge_len more (putD kvs k v)
    have e : mergeD kvs ((k, v) :: more) = mergeD (putD kvs k v) more := rfl
    rw [e, List.length_cons, List.map_cons, List.nodup_cons]
    by_cases hk : k ∈ kvs.map (·.1)
    · have hl : (putD kvs k v).length = kvs.length := by
        have := congrArg List.length (putD_old (v := v) hk)
        rwa [List.length_map, List.length_map] at this
      rw [hl] at h1 h2
      refine ⟨by omega, ?_⟩
      constructor
      · intro z; omega
      · rintro ⟨_, z⟩
        exact absurd hk (z k (List.mem_cons_self ..))
    · rw [putD_new hk] at h1 h2 ⊢
      rw [List.length_append, List.length_singleton] at h1 h2
      refine ⟨by omega, ?_⟩
      rw [show kvs.length + (more.length + 1) = kvs.length + 1 + more.length by omega, h2, List.map_append]
      simp only [List.map_cons, List.map_nil, List.mem_append, List.mem_singleton, not_or, List.mem_cons, forall_eq_or_imp]
      constructor
      · rintro ⟨a, b⟩
        exact ⟨⟨fun z => (b k z).2.1 rfl, a⟩, hk, fun j hj => (b j hj).1⟩
      · rintro ⟨⟨a, b⟩, _, c⟩
        exact ⟨b, fun j hj => ⟨c j hj, fun z => a (by rw [← z]; exact hj), by simp⟩⟩
theorem zipK_same : ∀ l : List Int, zipK (l.map D.int) (l.map D.int) = some (l.map fun y => (KK.i y, D.int y))
  | [] => rfl
  | x :: l => by
    show (match D.kk (.int x), zipK (l.map D.int) (l.map D.int) with | some j, some kvs => some ((j, D.int x) :: kvs) | _, _ => none) = _
    rw [kk_int, zipK_same l]
    rfl
theorem dz_same (l : List Int) : ∃ kvs, dzO (.lst (l.map D.int)) (.lst (l.map D.int)) = some (.nd kvs) ∧ decide (((l.length : Nat) : Int) = (kvs.length : Nat)) = decide l.Nodup := by
  refine ⟨mergeD [] (l.map fun y => (KK.i y, D.int y)), ?_, ?_⟩
  · show (match zipK (l.map D.int) (l.map D.int) with
      | some kvs => if (kvs.all (fun kv => kv.1.flat1) || kvs.all (fun kv => kv.1.flatT)) = true then some (Op.nd (mergeD [] kvs)) else none
      | none => none) = _
    rw [zipK_same]
    simp only
    rw [if_pos]
    rw [Bool.or_eq_true]
    left
    rw [List.all_eq_true]
    intro kv hkv
    rw [List.mem_map] at hkv
    obtain ⟨y, _, rfl⟩ := hkv
    rfl
  · obtain ⟨h1, h2⟩ := merge_len (l.map fun y => (KK.i y, D.int y)) []
    rw [List.length_map, List.length_nil, Nat.zero_add] at h1 h2
    rw [decide_eq_decide]
    have e : ((l.map fun y => (KK.i y, D.int y)).map (·.1)).Nodup ↔ l.Nodup := by
      rw [List.map_map]
      constructor
      · intro z
        exact (List.pairwise_map.mp z).imp fun h e => h (by rw [e])
      · intro z
        exact List.Pairwise.map _ (fun a b h => fun e => h (by cases e; rfl)) z
    constructor
    · intro z
      exact e.mp (h2.mp (by omega)).1
    · intro z
      have := h2.mpr ⟨e.mpr z, fun k _ => by simp⟩
      omega
end Kd

namespace Kd
open PySem
local macro_rules | `(tactic| walk_at "kd") => `(tactic| try simp -dsimp +decide only [W_ok, W_seq, seqQ_nx, seqQ_rt, seqQ_bk, seqQ_ct, W_asg, stQ_some, W_un, W_par2, W_exp, W_ret, rtQ_v, rtQ_nl, rtQ_nd, rtQ_slot, rtS_ol, rtS_od, W_retN, W_skip, W_brk, W_cnt, W_if, ifQ_t, ifQ_f, okQ_some, W_of, W_eC, W_eVar,
  vaQ_val, vaQ_ol, vaQ_od, W_eF, W_fz_v, W_fz_nl, W_fz_nd, W_fz, fzQ_val, fzQ_ol, fzQ_od, W_fzS_v, W_fzS_nl, W_fzS_nd, W_fzS_sl, W_list_nil, W_list_cons, W_tup, W_lst, W_e1, W_e2, W_t1, W_t2, W_t3, tfQ_t, tfQ_f, W_eB, boQ_bl, W_tE, W_tNot, W_and_nil, W_or_nil, W_and, W_or,
  W_eand1, W_eor1, W_eand, W_eor, W_eIf, W_tIf, W_optN, W_optS, inQ_i, W_slice, W_call, W_callK, W_share, shQ_nl, shQ_nd, W_rng1, W_rng2, W_seqI, W_enumI, W_zipI, W_lstI, W_for, turnQ_nx, turnQ_ct, turnQ_bk, turnQ_rt, W_mutL, W_mut, muQ_ol, W_mutO, muO_lst, W_mutD, mdQ_od, W_mutDO, mdO_dct, W_meth, W_set, setQ_eq, setV_l, setV_k,
  W_kvs_nil, W_kvs_cons, W_dct, W_dctZ, W_comp, vw_v, vw_nl, vw_nd, vw_sl, vwS_ol, vwS_od, vwD_int, vwD_str, vwD_bl, vwD_non, vwD_tup, vwD_lst, vwD_dct, vwD_loc, vwO_lst, vwO_dct, setSl_v, setSl_nl, setSl_nd, setSl_sl, slS_ol, slS_od, pat_n, pat_t, pat_tl, pats_nil, pats_cons,
  oAdd_i, oSub_i, oNeg_i, cLt_i, cLe_i, cGt_i, cGe_i, bLen_l, bLen_t, bLen_k, bTuple_l, bTuple_t, bList_l, bList_t, bInt_i, oIx_l, oIx_t, oIx_k, kvO_some, kk_int, kk_str, isTy_int, isTy_tup, isTy_bl, isTy_str, isTy_non, isTy_l, isTy_k, vwDD, frozen_t, frozen_l, bind_some', map_some', map_none', start1, start2, start3, start4,
  retQ_rt, retQ_nx, get0, getS, set0, setS, List.replicate, List.length_cons, List.length_nil, Nat.reduceAdd, Nat.reduceSub, Nat.reduceMul, Nat.reduceLeDiff, isL_l, isK_k, Option.bind_some, if_true, if_false, ite_true, ite_false, Bool.not_true, Bool.not_false, true_and, and_true, Option.map_some, Option.map_none, reduceIte, reduceCtorEq, decide_true, decide_false, vwLD, vwKD, sz0, sz1, sz2, sz3, sz4, sz5, sz6, sz7, sz8, sz9, sz10, joinQ_nx, joinQ_rt, joinQ_bk, joinQ_ct, reel_deep, reel_cells, reel_stamp, reel_count, reel_set, cEq_i, cNe_i, cNe_b, cEq_tI, cNe_tI, cIn_t, cIn_l, cNotIn_t, cNotIn_l, List.length_map, oMul_r, oMul_l, oMod_i, oFdiv_i, oPow_i, lAppend_one, rgQ_i, rgQ2_i, W_forL_nil, W_forL_cons, wipeM_mk, wipeS_nil, wipeS_cons, backS_nil, backS_cons, keptS_un, keptS_val, keptS_ol, keptS_od, oCut_l, oCut_t, Int.toNat_natCast, forall_const, imp_self, atI_pos, Int.reduceToNat, bSorted_ints, bMin_ints, bMax_ints, cut_map, w_n, w_lots, w_spots, kk_tI, rng_0, rng_1, rng_2, rng_3, rng_4, rng_5, rng_6, rng_7, rng_8, rng_9, rng_10, rng_11, rng_12, rng_13, rng_14, rng_15, rng_16, rng_32, rng_64])

theorem enumD_at : ∀ {xs : List D} {k i : Nat} {d : D}, (enumD k xs)[i]? = some d → ∃ y, xs[i]? = some y ∧ d = .tup [.int ((k + i : Nat) : Int), y]
  | [], _, _, _, h => by simp [enumD] at h
  | x :: xs, k, 0, d, h => by
    simp [enumD] at h
    exact ⟨x, rfl, by rw [← h, Nat.add_zero]⟩
  | x :: xs, k, i + 1, d, h => by
    have h' : (enumD (k + 1) xs)[i]? = some d := by simpa [enumD] using h
    obtain ⟨y, h1, h2⟩ := enumD_at h'
    exact ⟨y, by simpa using h1, by rw [h2, show k + 1 + i = k + (i + 1) by omega]⟩
theorem enumD_size : ∀ (xs : List D) (k : Nat), (enumD k xs).length = xs.length
  | [], _ => rfl
  | x :: xs, k => by
    show (enumD (k + 1) xs).length + 1 = xs.length + 1
    rw [enumD_size xs]
theorem pys_mem : ∀ {xs : List D} {ys : List PyData}, D.pys xs = some ys → ∀ x ∈ xs, x.py.isSome = true
  | [], _, _, x, hx => by cases hx
  | z :: xs, ys, h, x, hx => by
    simp only [D.pys] at h
    cases h1 : z.py with
    | none => rw [h1] at h; cases h
    | some y =>
      cases h2 : D.pys xs with
      | none => rw [h1, h2] at h; cases h
      | some r =>
        rcases List.mem_cons.mp hx with rfl | hx
        · rw [h1]; rfl
        · exact pys_mem h2 x hx
theorem py_mem {xs : List D} (h : (D.tup xs).py.isSome = true) : ∀ x ∈ xs, x.py.isSome = true := by
  cases e : D.pys xs with
  | none =>
    simp only [D.py, e] at h
    cases h
  | some ys => exact pys_mem e
theorem py_loc (l : Nat) : ¬ (D.loc l).py.isSome = true := by simp only [D.py]; simp
theorem is_entry_cond {nv : Nv} {n : Nat} {lot : List Int} {xs : List D} {i : Nat} {y : D} {S : List Ob} (hy : y.py.isSome = true) :
    W (tOr [(tNot (tE (eB (t1 (isTy .int) (eVar 4))))), (tE (eB (t1 (isTy .bool) (eVar 4)))), (tNot (t3 cLe cLt (e1 oNeg (eC (.int 1))) (eVar 4) (eVar 0))), (t2 cNe (eB (t2 cLt (eVar 4) (eC (.int 0)))) (eB (t2 cIn (eVar 3) (eVar 1))))] nv ⟨[.val (.int (n : Nat)), .val (tI lot), .val (.tup xs), .val (.int (i : Nat)), .val y], S⟩)
      (fun c m => c = !okAt n lot i y ∧ m = ⟨[.val (.int (n : Nat)), .val (tI lot), .val (.tup xs), .val (.int (i : Nat)), .val y], S⟩) := by
  cases y with
  | loc l => exact absurd hy (py_loc l)
  | int v =>
    walk_at "kd"
    refine W_tf (fun h1 => ?_) (fun h1 => ?_)
    · walk_at "kd"
      refine W_tf (fun h2 => ?_) (fun h2 => ?_)
      · have h2' : decide (v < (n : Int)) = false := by simpa using h2
        walk_at "kd"
        simp only [okAt, h2']
        simp
      · have h2' : decide (v < (n : Int)) = true := by simpa using h2
        walk_at "kd"
        by_cases a : v < 0 <;> by_cases b : (i : Int) ∈ lot <;> simp -dsimp [a, b] <;> walk_at "kd" <;> simp [okAt, h1, h2', a, b]
    · walk_at "kd"
      simp only [okAt, h1]
      simp
  | bl b =>
    walk_at "kd"
    simp only [Bool.or_true, Bool.or_false]
    walk_at "kd"
    simp only [Bool.or_true, Bool.or_false]
    walk_at "kd"
    rfl
  | str x => walk_at "kd"; rfl
  | non => walk_at "kd"; rfl
  | tup l => walk_at "kd"; rfl
  | lst l => walk_at "kd"; rfl
  | dct l => walk_at "kd"; rfl
theorem is_entry_ok {P : List Cd} {wf k i iG n : Nat} {S : List Ob} {lot : List Int} {d : D} {Q : Op → List Ob → Prop} (h : P[i]? = some ⟨b_is_entry iG, 3, 5⟩) (hG : P[iG]? = some ⟨b_goal, 2, 3⟩) (hn : Six n) (hlot : lot ∈ lotsI n) (hd : d.py.isSome = true)
    (q : Q (.v (.bl (entB n lot d))) S) : WC (ctK P wf (k + 2) i [.int (n : Nat), tI lot, d] S) Q := by
  have hn6 := six_le hn
  refine WC_ct h rfl ?_
  unfold b_is_entry
  refine W_step (fun m => ∃ xs, d = .tup xs ∧ xs.length = n ∧ m = ⟨[.val (.int (n : Nat)), .val (tI lot), .val (.tup xs), .un, .un], S⟩) ?_ ?_
  · cases d with
    | loc l => exact absurd hd (py_loc l)
    | tup xs =>
      walk_at "kd"
      refine W_tf (fun hc => ?_) (fun hc => ?_)
      · walk_at "kd"
        have hl : ¬ xs.length = n := by
          have hc2 : ¬ ((xs.length : Nat) : Int) = (n : Nat) := by simpa using hc
          omega
        have e : entB n lot (.tup xs) = false := by
          show (decide (xs.length = n) && _ && _) = false
          rw [decide_eq_false hl]; rfl
        rw [e] at q
        exact q
      · walk_at "kd"
        have hl : xs.length = n := by
          have hc2 : ((xs.length : Nat) : Int) = (n : Nat) := by simpa using hc
          omega
        exact ⟨xs, rfl, hl, rfl⟩
    | int v => walk_at "kd"; exact q
    | bl b =>
      walk_at "kd"
      simp only [Bool.or_false]
      walk_at "kd"
      exact q
    | str x => walk_at "kd"; exact q
    | non => walk_at "kd"; exact q
    | lst l => walk_at "kd"; exact q
    | dct l => walk_at "kd"; exact q
  rintro m1 ⟨xs, rfl, hl, rfl⟩
  have hp := py_mem hd
  refine W_step (fun m => ∃ s3 s4, (∀ (j : Nat) (x : D), xs[j]? = some x → okAt n lot j x = true) ∧ m = ⟨[.val (.int (n : Nat)), .val (tI lot), .val (.tup xs), s3, s4], S⟩) ?_ ?_
  · walk_at "kd"
    refine W_forL (fun i m => ∃ s3 s4, (∀ (j : Nat) (x : D), j < i → xs[j]? = some x → okAt n lot j x = true) ∧ m = ⟨[.val (.int (n : Nat)), .val (tI lot), .val (.tup xs), s3, s4], S⟩) ?_ ?_ ?_
    · exact ⟨_, _, fun j x h => by omega, rfl⟩
    · rintro i x m hx ⟨s3, s4, hall, rfl⟩
      obtain ⟨y, hy, rfl⟩ := enumD_at hx
      rw [Nat.zero_add]
      rw [pat_t]
      simp only [pats_cons, pats_nil, pat_n, bind_some', setS, set0, stQ_some]
      rw [W_if]
      refine W.mono (is_entry_cond (hp y (List.mem_of_getElem? hy))) ?_
      rintro c m ⟨rfl, rfl⟩
      cases hok : okAt n lot i y with
      | false =>
        simp only [Bool.not_false, ifQ_t]
        walk_at "kd"
        have e : entB n lot (.tup xs) = false := by
          show (_ && allIx n lot 0 xs && _) = false
          rw [allIx_bad (k := 0) hy (by rw [Nat.zero_add]; exact hok)]
          simp
        rw [e] at q
        exact q
      | true =>
        simp only [Bool.not_true, ifQ_f]
        walk_at "kd"
        refine ⟨_, _, fun j x hj hx2 => ?_, rfl⟩
        by_cases hji : j < i
        · exact hall j x hji hx2
        · have : j = i := by omega
          subst this
          rw [hy] at hx2
          cases hx2
          exact hok
    · rintro m ⟨s3, s4, hall, rfl⟩
      rw [enumD_size] at hall
      rw [joinQ_nx]
      exact ⟨_, _, fun j x hx => hall j x (List.getElem?_eq_some_iff.mp hx).1 hx, rfl⟩
  rintro m1 ⟨s3, s4, hall, rfl⟩
  have hxs : xs = (asI xs).map D.int := ints_of (n := n) (lot := lot) fun x hx => by
    obtain ⟨j, hj⟩ := List.mem_iff_getElem?.mp hx
    have := hall j x hj
    unfold okAt at this
    split at this
    · exact ⟨_, rfl⟩
    · cases this
  generalize he : asI xs = e at hxs
  subst hxs
  rw [List.length_map] at hl
  have hall' : ∀ (x : Nat) (v : Int), e[x]? = some v → -1 ≤ v ∧ v < n ∧ (v < 0 ↔ (x : Int) ∈ lot) := fun x v hv => okAt_iff.mp (hall x (.int v) (by rw [List.getElem?_map, hv]; rfl))
  have eq : entB n lot (.tup (e.map D.int)) = decide ((e.filter fun v => decide (0 ≤ v)).Nodup) := by
    show (decide ((e.map D.int).length = n) && allIx n lot 0 (e.map D.int) && decide (((asI (e.map D.int)).filter fun v => decide (0 ≤ v)).Nodup)) = _
    rw [List.length_map, decide_eq_true hl, allIx_all (k := 0) (fun i x hx => by rw [Nat.zero_add]; exact hall i x hx), asI_map]
    simp
  rw [eq, ← goal_count hn hlot hl hall'] at q
  walk_at "kd"
  refine goal_ok hG (by omega) ?_
  walk_at "kd"
  exact q
end Kd

namespace Kd
open PySem
local macro_rules | `(tactic| walk_at "kd") => `(tactic| try simp -dsimp +decide only [W_ok, W_seq, seqQ_nx, seqQ_rt, seqQ_bk, seqQ_ct, W_asg, stQ_some, W_un, W_par2, W_exp, W_ret, rtQ_v, rtQ_nl, rtQ_nd, rtQ_slot, rtS_ol, rtS_od, W_retN, W_skip, W_brk, W_cnt, W_if, ifQ_t, ifQ_f, okQ_some, W_of, W_eC, W_eVar,
  vaQ_val, vaQ_ol, vaQ_od, W_eF, W_fz_v, W_fz_nl, W_fz_nd, W_fz, fzQ_val, fzQ_ol, fzQ_od, W_fzS_v, W_fzS_nl, W_fzS_nd, W_fzS_sl, W_list_nil, W_list_cons, W_tup, W_lst, W_e1, W_e2, W_t1, W_t2, W_t3, tfQ_t, tfQ_f, W_eB, boQ_bl, W_tE, W_tNot, W_and_nil, W_or_nil, W_and, W_or,
  W_eand1, W_eor1, W_eand, W_eor, W_eIf, W_tIf, W_optN, W_optS, inQ_i, W_slice, W_call, W_callK, W_share, shQ_nl, shQ_nd, W_rng1, W_rng2, W_seqI, W_enumI, W_zipI, W_lstI, W_for, turnQ_nx, turnQ_ct, turnQ_bk, turnQ_rt, W_mutL, W_mut, muQ_ol, W_mutO, muO_lst, W_mutD, mdQ_od, W_mutDO, mdO_dct, W_meth, W_set, setQ_eq, setV_l, setV_k,
  W_kvs_nil, W_kvs_cons, W_dct, W_dctZ, W_comp, vw_v, vw_nl, vw_nd, vw_sl, vwS_ol, vwS_od, vwD_int, vwD_str, vwD_bl, vwD_non, vwD_tup, vwD_lst, vwD_dct, vwD_loc, vwO_lst, vwO_dct, setSl_v, setSl_nl, setSl_nd, setSl_sl, slS_ol, slS_od, pat_n, pat_t, pat_tl, pats_nil, pats_cons,
  oAdd_i, oSub_i, oNeg_i, cLt_i, cLe_i, cGt_i, cGe_i, bLen_l, bLen_t, bLen_k, bTuple_l, bTuple_t, bList_l, bList_t, bInt_i, oIx_l, oIx_t, oIx_k, kvO_some, kk_int, kk_str, isTy_int, isTy_tup, isTy_bl, isTy_str, isTy_non, isTy_l, isTy_k, vwDD, frozen_t, frozen_l, bind_some', map_some', map_none', start1, start2, start3, start4,
  retQ_rt, retQ_nx, get0, getS, set0, setS, List.replicate, List.length_cons, List.length_nil, Nat.reduceAdd, Nat.reduceSub, Nat.reduceMul, Nat.reduceLeDiff, isL_l, isK_k, Option.bind_some, if_true, if_false, ite_true, ite_false, Bool.not_true, Bool.not_false, true_and, and_true, Option.map_some, Option.map_none, reduceIte, reduceCtorEq, decide_true, decide_false, vwLD, vwKD, sz0, sz1, sz2, sz3, sz4, sz5, sz6, sz7, sz8, sz9, sz10, joinQ_nx, joinQ_rt, joinQ_bk, joinQ_ct, reel_deep, reel_cells, reel_stamp, reel_count, reel_set, cEq_i, cNe_i, cNe_b, cEq_tI, cNe_tI, cIn_t, cIn_l, cNotIn_t, cNotIn_l, List.length_map, oMul_r, oMul_l, oMod_i, oFdiv_i, oPow_i, lAppend_one, rgQ_i, rgQ2_i, W_forL_nil, W_forL_cons, wipeM_mk, wipeS_nil, wipeS_cons, backS_nil, backS_cons, keptS_un, keptS_val, keptS_ol, keptS_od, oCut_l, oCut_t, Int.toNat_natCast, forall_const, imp_self, atI_pos, Int.reduceToNat, bSorted_ints, bMin_ints, bMax_ints, cut_map, w_n, w_lots, w_spots, kk_tI, rng_0, rng_1, rng_2, rng_3, rng_4, rng_5, rng_6, rng_7, rng_8, rng_9, rng_10, rng_11, rng_12, rng_13, rng_14, rng_15, rng_16, rng_32, rng_64])

theorem law_entry_cond {nv : Nv} {n : Nat} {lot : List Int} {xs : List D} {i : Nat} {y : D} {s3 : Sl} {S : List Ob} (hy : y.py.isSome = true) :
    W (tOr [(tE (eB (t1 (isTy .bool) (eVar 5)))), (tNot (tE (eB (t1 (isTy .int) (eVar 5))))), (t2 cLt (eVar 5) (e1 oNeg (eC (.int 1)))), (t2 cGe (eVar 5) (eVar 0)), (t2 cNe (eB (t2 cLt (eVar 5) (eC (.int 0)))) (eB (t2 cIn (eVar 4) (eVar 1))))] nv ⟨[.val (.int (n : Nat)), .val (tI lot), .val (.tup xs), s3, .val (.int (i : Nat)), .val y], S⟩)
      (fun c m => c = !okAt n lot i y ∧ m = ⟨[.val (.int (n : Nat)), .val (tI lot), .val (.tup xs), s3, .val (.int (i : Nat)), .val y], S⟩) := by
  cases y with
  | loc l => exact absurd hy (py_loc l)
  | int v =>
    walk_at "kd"
    refine W_tf (fun h1 => ?_) (fun h1 => ?_)
    · walk_at "kd"
      have h1' : decide (-1 ≤ v) = false := by
        have : v < -1 := by simpa using h1
        exact decide_eq_false (by omega)
      simp only [okAt, h1']
      simp
    · have h1' : decide (-1 ≤ v) = true := by
        have : ¬ v < -1 := by simpa using h1
        exact decide_eq_true (by omega)
      walk_at "kd"
      refine W_tf (fun h2 => ?_) (fun h2 => ?_)
      · have h2' : decide (v < (n : Int)) = false := by
          have : (n : Int) ≤ v := by simpa using h2
          exact decide_eq_false (by omega)
        walk_at "kd"
        simp only [okAt, h2']
        simp
      · have h2' : decide (v < (n : Int)) = true := by
          have : ¬ (n : Int) ≤ v := by simpa using h2
          exact decide_eq_true (by omega)
        walk_at "kd"
        by_cases a : v < 0 <;> by_cases b : (i : Int) ∈ lot <;> simp -dsimp [a, b] <;> walk_at "kd" <;> simp [okAt, h1', h2', a, b]
  | bl b =>
    walk_at "kd"
    simp only [Bool.or_true, Bool.or_false]
    walk_at "kd"
    rfl
  | str x => walk_at "kd"; rfl
  | non => walk_at "kd"; rfl
  | tup l => walk_at "kd"; rfl
  | lst l => walk_at "kd"; rfl
  | dct l => walk_at "kd"; rfl
theorem law_is_entry_ok {P : List Cd} {wf k i n : Nat} {S : List Ob} {lot : List Int} {d : D} {Q : Op → List Ob → Prop} (h : P[i]? = some ⟨b_law_is_entry, 3, 6⟩) (hn : Six n) (hlot : lot ∈ lotsI n) (hd : d.py.isSome = true)
    (q : Q (.v (.bl (entB n lot d))) S) : WC (ctK P wf (k + 1) i [.int (n : Nat), tI lot, d] S) Q := by
  have hn6 := six_le hn
  refine WC_ct h rfl ?_
  unfold b_law_is_entry
  refine W_step (fun m => ∃ xs, d = .tup xs ∧ xs.length = n ∧ m = ⟨[.val (.int (n : Nat)), .val (tI lot), .val (.tup xs), .un, .un, .un], S⟩) ?_ ?_
  · cases d with
    | loc l => exact absurd hd (py_loc l)
    | tup xs =>
      walk_at "kd"
      refine W_tf (fun hc => ?_) (fun hc => ?_)
      · walk_at "kd"
        have hl : ¬ xs.length = n := by
          have hc2 : ¬ ((xs.length : Nat) : Int) = (n : Nat) := by simpa using hc
          omega
        have e : entB n lot (.tup xs) = false := by
          show (decide (xs.length = n) && _ && _) = false
          rw [decide_eq_false hl]; rfl
        rw [e] at q
        exact q
      · walk_at "kd"
        have hl : xs.length = n := by
          have hc2 : ((xs.length : Nat) : Int) = (n : Nat) := by simpa using hc
          omega
        exact ⟨xs, rfl, hl, rfl⟩
    | int v => walk_at "kd"; exact q
    | bl b =>
      walk_at "kd"
      simp only [Bool.or_false]
      walk_at "kd"
      exact q
    | str x => walk_at "kd"; exact q
    | non => walk_at "kd"; exact q
    | lst l => walk_at "kd"; exact q
    | dct l => walk_at "kd"; exact q
  rintro m1 ⟨xs, rfl, hl, rfl⟩
  have hp := py_mem hd
  refine W_step (fun m => ∃ s4 s5, (∀ (j : Nat) (x : D), xs[j]? = some x → okAt n lot j x = true) ∧ m = ⟨[.val (.int (n : Nat)), .val (tI lot), .val (.tup xs), .un, s4, s5], S⟩) ?_ ?_
  · walk_at "kd"
    refine W_forL (fun i m => ∃ s4 s5, (∀ (j : Nat) (x : D), j < i → xs[j]? = some x → okAt n lot j x = true) ∧ m = ⟨[.val (.int (n : Nat)), .val (tI lot), .val (.tup xs), .un, s4, s5], S⟩) ?_ ?_ ?_
    · exact ⟨_, _, fun j x h => by omega, rfl⟩
    · rintro i x m hx ⟨s4, s5, hall, rfl⟩
      obtain ⟨y, hy, rfl⟩ := enumD_at hx
      rw [Nat.zero_add]
      rw [pat_t]
      simp only [pats_cons, pats_nil, pat_n, bind_some', setS, set0, stQ_some]
      rw [W_if]
      refine W.mono (law_entry_cond (hp y (List.mem_of_getElem? hy))) ?_
      rintro c m ⟨rfl, rfl⟩
      cases hok : okAt n lot i y with
      | false =>
        simp only [Bool.not_false, ifQ_t]
        walk_at "kd"
        have e : entB n lot (.tup xs) = false := by
          show (_ && allIx n lot 0 xs && _) = false
          rw [allIx_bad (k := 0) hy (by rw [Nat.zero_add]; exact hok)]
          simp
        rw [e] at q
        exact q
      | true =>
        simp only [Bool.not_true, ifQ_f]
        walk_at "kd"
        refine ⟨_, _, fun j x hj hx2 => ?_, rfl⟩
        by_cases hji : j < i
        · exact hall j x hji hx2
        · have : j = i := by omega
          subst this
          rw [hy] at hx2
          cases hx2
          exact hok
    · rintro m ⟨s4, s5, hall, rfl⟩
      rw [enumD_size] at hall
      rw [joinQ_nx]
      exact ⟨_, _, fun j x hx => hall j x (List.getElem?_eq_some_iff.mp hx).1 hx, rfl⟩
  rintro m1 ⟨s4, s5, hall, rfl⟩
  have hxs : xs = (asI xs).map D.int := ints_of (n := n) (lot := lot) fun x hx => by
    obtain ⟨j, hj⟩ := List.mem_iff_getElem?.mp hx
    have := hall j x hj
    unfold okAt at this
    split at this
    · exact ⟨_, rfl⟩
    · cases this
  generalize he : asI xs = e at hxs
  subst hxs
  rw [List.length_map] at hl
  have eq : entB n lot (.tup (e.map D.int)) = decide ((e.filter fun v => decide (0 ≤ v)).Nodup) := by
    show (decide ((e.map D.int).length = n) && allIx n lot 0 (e.map D.int) && decide (((asI (e.map D.int)).filter fun v => decide (0 ≤ v)).Nodup)) = _
    rw [List.length_map, decide_eq_true hl, allIx_all (k := 0) (fun i x hx => by rw [Nat.zero_add]; exact hall i x hx), asI_map]
    simp
  rw [eq] at q
  refine W_step (fun m => ∃ s5, m = ⟨[.val (.int (n : Nat)), .val (tI lot), .val (.tup (e.map D.int)), .ol ((e.filter fun v => decide (0 ≤ v)).map D.int), s4, s5], S⟩) ?_ ?_
  · walk_at "kd"
    refine W_compF D.int (fun v => decide (0 ≤ v)) (fun x => x) (sz_le (by omega)) (fun x hx => ?_) ?_
    · walk_at "kd"
      simp
    walk_at "kd"
    rw [List.map_id']
    exact ⟨_, rfl⟩
  rintro m1 ⟨s5', rfl⟩
  obtain ⟨kvs, hz1, hz2⟩ := dz_same (e.filter fun v => decide (0 ≤ v))
  walk_at "kd"
  rw [hz1]
  walk_at "kd"
  rw [hz2]
  exact q
end Kd

namespace Kd
open PySem
local macro_rules | `(tactic| walk_at "kd") => `(tactic| try simp -dsimp +decide only [W_ok, W_seq, seqQ_nx, seqQ_rt, seqQ_bk, seqQ_ct, W_asg, stQ_some, W_un, W_par2, W_exp, W_ret, rtQ_v, rtQ_nl, rtQ_nd, rtQ_slot, rtS_ol, rtS_od, W_retN, W_skip, W_brk, W_cnt, W_if, ifQ_t, ifQ_f, okQ_some, W_of, W_eC, W_eVar,
  vaQ_val, vaQ_ol, vaQ_od, W_eF, W_fz_v, W_fz_nl, W_fz_nd, W_fz, fzQ_val, fzQ_ol, fzQ_od, W_fzS_v, W_fzS_nl, W_fzS_nd, W_fzS_sl, W_list_nil, W_list_cons, W_tup, W_lst, W_e1, W_e2, W_t1, W_t2, W_t3, tfQ_t, tfQ_f, W_eB, boQ_bl, W_tE, W_tNot, W_and_nil, W_or_nil, W_and, W_or,
  W_eand1, W_eor1, W_eand, W_eor, W_eIf, W_tIf, W_optN, W_optS, inQ_i, W_slice, W_call, W_callK, W_share, shQ_nl, shQ_nd, W_rng1, W_rng2, W_seqI, W_enumI, W_zipI, W_lstI, W_for, turnQ_nx, turnQ_ct, turnQ_bk, turnQ_rt, W_mutL, W_mut, muQ_ol, W_mutO, muO_lst, W_mutD, mdQ_od, W_mutDO, mdO_dct, W_meth, W_set, setQ_eq, setV_l, setV_k,
  W_kvs_nil, W_kvs_cons, W_dct, W_dctZ, W_comp, vw_v, vw_nl, vw_nd, vw_sl, vwS_ol, vwS_od, vwD_int, vwD_str, vwD_bl, vwD_non, vwD_tup, vwD_lst, vwD_dct, vwD_loc, vwO_lst, vwO_dct, setSl_v, setSl_nl, setSl_nd, setSl_sl, slS_ol, slS_od, pat_n, pat_t, pat_tl, pats_nil, pats_cons,
  oAdd_i, oSub_i, oNeg_i, cLt_i, cLe_i, cGt_i, cGe_i, bLen_l, bLen_t, bLen_k, bTuple_l, bTuple_t, bList_l, bList_t, bInt_i, oIx_l, oIx_t, oIx_k, kvO_some, kk_int, kk_str, isTy_int, isTy_tup, isTy_bl, isTy_str, isTy_non, isTy_l, isTy_k, vwDD, frozen_t, frozen_l, bind_some', map_some', map_none', start1, start2, start3, start4,
  retQ_rt, retQ_nx, get0, getS, set0, setS, List.replicate, List.length_cons, List.length_nil, Nat.reduceAdd, Nat.reduceSub, Nat.reduceMul, Nat.reduceLeDiff, isL_l, isK_k, Option.bind_some, if_true, if_false, ite_true, ite_false, Bool.not_true, Bool.not_false, true_and, and_true, Option.map_some, Option.map_none, reduceIte, reduceCtorEq, decide_true, decide_false, vwLD, vwKD, sz0, sz1, sz2, sz3, sz4, sz5, sz6, sz7, sz8, sz9, sz10, joinQ_nx, joinQ_rt, joinQ_bk, joinQ_ct, reel_deep, reel_cells, reel_stamp, reel_count, reel_set, cEq_i, cNe_i, cNe_b, cEq_tI, cNe_tI, cIn_t, cIn_l, cNotIn_t, cNotIn_l, List.length_map, oMul_r, oMul_l, oMod_i, oFdiv_i, oPow_i, lAppend_one, rgQ_i, rgQ2_i, W_forL_nil, W_forL_cons, wipeM_mk, wipeS_nil, wipeS_cons, backS_nil, backS_cons, keptS_un, keptS_val, keptS_ol, keptS_od, oCut_l, oCut_t, Int.toNat_natCast, forall_const, imp_self, atI_pos, Int.reduceToNat, bSorted_ints, bMin_ints, bMax_ints, cut_map, w_n, w_lots, w_spots, kk_tI, rng_0, rng_1, rng_2, rng_3, rng_4, rng_5, rng_6, rng_7, rng_8, rng_9, rng_10, rng_11, rng_12, rng_13, rng_14, rng_15, rng_16, rng_32, rng_64])

def isI (d : D) : Bool := match d with
  | .int _ => true
  | _ => false
def numOk (n : Nat) (d : D) : Bool := match d with
  | .tup [.int v, _] => decide (0 ≤ v) && decide (v < (lotsI n).length)
  | _ => false
theorem is_integer_ok {P : List Cd} {wf k i : Nat} {S : List Ob} {d : D} {Q : Op → List Ob → Prop} (h : P[i]? = some ⟨b_is_integer, 1, 1⟩) (hd : d.py.isSome = true) (q : Q (.v (.bl (isI d))) S) : WC (ctK P wf (k + 1) i [d] S) Q := by
  refine WC_ct h rfl ?_
  unfold b_is_integer
  cases d with
  | loc l => exact absurd hd (py_loc l)
  | int v => walk_at "kd"; exact q
  | bl b =>
    walk_at "kd"
    simp only [Bool.or_true, Bool.or_false]
    walk_at "kd"
    simp only [Bool.or_true, Bool.or_false]
    walk_at "kd"
    exact q
  | str x => walk_at "kd"; exact q
  | non => walk_at "kd"; exact q
  | tup l => walk_at "kd"; exact q
  | lst l => walk_at "kd"; exact q
  | dct l => walk_at "kd"; exact q
theorem is_numbered_ok {P : List Cd} {wf k i iI n : Nat} {S : List Ob} {d : D} {Q : Op → List Ob → Prop} (h : P[i]? = some ⟨b_is_numbered iI, 2, 2⟩) (hI : P[iI]? = some ⟨b_is_integer, 1, 1⟩) (hn : Six n) (hd : d.py.isSome = true) (q : Q (.v (.bl (numOk n d))) S) :
    WC (ctK P wf (k + 2) i [.int (n : Nat), d] S) Q := by
  have hn6 := six_le hn
  have hL := six_len hn
  refine WC_ct h rfl ?_
  unfold b_is_numbered
  cases d with
  | loc l => exact absurd hd (py_loc l)
  | tup xs =>
    walk_at "kd"
    refine W_tf (fun hc => ?_) (fun hc => ?_)
    · have hl : xs.length = 2 := by
        have hc2 : ((xs.length : Nat) : Int) = 2 := by simpa using hc
        omega
      match xs, hl with
      | [a, b], _ =>
        have ha : a.py.isSome = true := py_mem hd a (List.mem_cons_self ..)
        walk_at "kd"
        refine is_integer_ok hI ha ?_
        walk_at "kd"
        cases a with
        | loc l => exact absurd ha (py_loc l)
        | int v =>
          simp only [isI]
          walk_at "kd"
          refine W_tf (fun h1 => ?_) (fun h1 => ?_)
          · walk_at "kd"
            rw [oShl_i (show powOk 1 (n : Int) = true by
              unfold powOk
              rw [Bool.and_eq_true, Bool.and_eq_true, geB_iff, leB_iff, Nat.ble_eq]
              refine ⟨⟨by omega, by omega⟩, by decide⟩)]
            walk_at "kd"
            have e : (1 : Int) * 2 ^ n = ((lotsI n).length : Nat) := by
              rw [hL, Int.one_mul]
              simp
            rw [e]
            simp only [numOk, h1] at q
            simpa using q
          · walk_at "kd"
            simp only [numOk, h1] at q
            simpa using q
        | bl x => simp only [isI]; walk_at "kd"; exact q
        | str x => simp only [isI]; walk_at "kd"; exact q
        | non => simp only [isI]; walk_at "kd"; exact q
        | tup l => simp only [isI]; walk_at "kd"; exact q
        | lst l => simp only [isI]; walk_at "kd"; exact q
        | dct l => simp only [isI]; walk_at "kd"; exact q
    · have hl : ¬ xs.length = 2 := by
        have hc2 : ¬ ((xs.length : Nat) : Int) = 2 := by simpa using hc
        omega
      walk_at "kd"
      have e : numOk n (.tup xs) = false := by
        unfold numOk
        split
        · rename_i z
          cases z
          simp at hl
        · rfl
      rw [e] at q
      exact q
  | int v => walk_at "kd"; exact q
  | bl b =>
    walk_at "kd"
    simp only [Bool.or_true, Bool.or_false]
    walk_at "kd"
    exact q
  | str x => walk_at "kd"; exact q
  | non => walk_at "kd"; exact q
  | lst l => walk_at "kd"; exact q
  | dct l => walk_at "kd"; exact q
/-! ### all lots -/
theorem lo50 (nv : Nv) (S : List Ob) (Q : Op → List Ob → Prop) : W (b_lots_of nv (startM 8 [.int 5, .int 0] S)) (retQ Q) = Q (.v (tT (lotsBy 5 0).1)) S := by kernel_rfl
theorem lo51 (nv : Nv) (S : List Ob) (Q : Op → List Ob → Prop) : W (b_lots_of nv (startM 8 [.int 5, .int 1] S)) (retQ Q) = Q (.v (tT (lotsBy 5 1).1)) S := by kernel_rfl
theorem lo52 (nv : Nv) (S : List Ob) (Q : Op → List Ob → Prop) : W (b_lots_of nv (startM 8 [.int 5, .int 2] S)) (retQ Q) = Q (.v (tT (lotsBy 5 2).1)) S := by kernel_rfl
theorem lo53 (nv : Nv) (S : List Ob) (Q : Op → List Ob → Prop) : W (b_lots_of nv (startM 8 [.int 5, .int 3] S)) (retQ Q) = Q (.v (tT (lotsBy 5 3).1)) S := by kernel_rfl
theorem lo54 (nv : Nv) (S : List Ob) (Q : Op → List Ob → Prop) : W (b_lots_of nv (startM 8 [.int 5, .int 4] S)) (retQ Q) = Q (.v (tT (lotsBy 5 4).1)) S := by kernel_rfl
theorem lo55 (nv : Nv) (S : List Ob) (Q : Op → List Ob → Prop) : W (b_lots_of nv (startM 8 [.int 5, .int 5] S)) (retQ Q) = Q (.v (tT (lotsBy 5 5).1)) S := by kernel_rfl
theorem lo60 (nv : Nv) (S : List Ob) (Q : Op → List Ob → Prop) : W (b_lots_of nv (startM 8 [.int 6, .int 0] S)) (retQ Q) = Q (.v (tT (lotsBy 6 0).1)) S := by kernel_rfl
theorem lo61 (nv : Nv) (S : List Ob) (Q : Op → List Ob → Prop) : W (b_lots_of nv (startM 8 [.int 6, .int 1] S)) (retQ Q) = Q (.v (tT (lotsBy 6 1).1)) S := by kernel_rfl
theorem lo62 (nv : Nv) (S : List Ob) (Q : Op → List Ob → Prop) : W (b_lots_of nv (startM 8 [.int 6, .int 2] S)) (retQ Q) = Q (.v (tT (lotsBy 6 2).1)) S := by kernel_rfl
theorem lo63 (nv : Nv) (S : List Ob) (Q : Op → List Ob → Prop) : W (b_lots_of nv (startM 8 [.int 6, .int 3] S)) (retQ Q) = Q (.v (tT (lotsBy 6 3).1)) S := by kernel_rfl
theorem lo64 (nv : Nv) (S : List Ob) (Q : Op → List Ob → Prop) : W (b_lots_of nv (startM 8 [.int 6, .int 4] S)) (retQ Q) = Q (.v (tT (lotsBy 6 4).1)) S := by kernel_rfl
theorem lo65 (nv : Nv) (S : List Ob) (Q : Op → List Ob → Prop) : W (b_lots_of nv (startM 8 [.int 6, .int 5] S)) (retQ Q) = Q (.v (tT (lotsBy 6 5).1)) S := by kernel_rfl
theorem lo66 (nv : Nv) (S : List Ob) (Q : Op → List Ob → Prop) : W (b_lots_of nv (startM 8 [.int 6, .int 6] S)) (retQ Q) = Q (.v (tT (lotsBy 6 6).1)) S := by kernel_rfl
theorem lots_of_ok {P : List Cd} {wf k i n s : Nat} {S : List Ob} {Q : Op → List Ob → Prop} (h : P[i]? = some ⟨b_lots_of, 2, 8⟩) (hn : Six n) (hs : s ≤ n) (q : Q (.v (tT (lotsBy n s).1)) S) : WC (ctK P wf (k + 1) i [.int (n : Nat), .int (s : Nat)] S) Q := by
  refine WC_ct h rfl ?_
  rcases hn with rfl | rfl
  · match s, hs with
    | 0, _ => exact (lo50 _ S Q).mpr q
    | 1, _ => exact (lo51 _ S Q).mpr q
    | 2, _ => exact (lo52 _ S Q).mpr q
    | 3, _ => exact (lo53 _ S Q).mpr q
    | 4, _ => exact (lo54 _ S Q).mpr q
    | 5, _ => exact (lo55 _ S Q).mpr q
  · match s, hs with
    | 0, _ => exact (lo60 _ S Q).mpr q
    | 1, _ => exact (lo61 _ S Q).mpr q
    | 2, _ => exact (lo62 _ S Q).mpr q
    | 3, _ => exact (lo63 _ S Q).mpr q
    | 4, _ => exact (lo64 _ S Q).mpr q
    | 5, _ => exact (lo65 _ S Q).mpr q
    | 6, _ => exact (lo66 _ S Q).mpr q
def lotsUp (n : Nat) : Nat → List (List Int)
  | 0 => []
  | i + 1 => lotsUp n i ++ (lotsBy n i).1
theorem up5 : lotsUp 5 6 = lotsI 5 := by decide +kernel
theorem up6 : lotsUp 6 7 = lotsI 6 := by decide +kernel
theorem up_len5 : (List.range 7).all (fun i => decide ((lotsUp 5 i).length ≤ 64)) = true := by decide +kernel
theorem up_len6 : (List.range 8).all (fun i => decide ((lotsUp 6 i).length ≤ 64)) = true := by decide +kernel
theorem up_of {n : Nat} (h : Six n) : lotsUp n (n + 1) = lotsI n := by
  rcases h with rfl | rfl
  · exact up5
  · exact up6
theorem up_le {n i : Nat} (h : Six n) (hi : i ≤ n + 1) : (lotsUp n i).length ≤ 64 := by
  rcases h with rfl | rfl
  · have q := up_len5
    rw [List.all_eq_true] at q
    simpa using q i (List.mem_range.mpr (by omega))
  · have q := up_len6
    rw [List.all_eq_true] at q
    simpa using q i (List.mem_range.mpr (by omega))
theorem all_lots_ok {P : List Cd} {wf k i iL n : Nat} {S : List Ob} {Q : Op → List Ob → Prop} (h : P[i]? = some ⟨b_all_lots iL, 1, 3⟩) (hL : P[iL]? = some ⟨b_lots_of, 2, 8⟩) (hn : Six n) (q : Q (.v (tT (lotsI n))) S) : WC (ctK P wf (k + 2) i [.int (n : Nat)] S) Q := by
  have hn6 := six_le hn
  refine WC_ct h rfl ?_
  unfold b_all_lots
  refine W_step (fun m => m = ⟨[.val (.int (n : Nat)), .un, .un], S⟩) ?_ ?_
  · walk_at "kd"
    rw [decide_eq_false (by omega : ¬ (6 : Int) < (n : Nat))]
    walk_at "kd"
  rintro m1 rfl
  refine W_step (fun m => m = ⟨[.val (.int (n : Nat)), .val (tT []), .un], S⟩) ?_ ?_
  · walk_at "kd"
    rfl
  rintro m1 rfl
  refine W_step (fun m => ∃ s2, m = ⟨[.val (.int (n : Nat)), .val (tT (lotsI n)), s2], S⟩) ?_ ?_
  · walk_at "kd"
    rw [show ((n : Nat) : Int) + 1 = ((n + 1 : Nat) : Int) by omega]
    refine W_rgI (by omega) ?_
    refine W_forL (fun i m => ∃ s2, i ≤ n + 1 ∧ m = ⟨[.val (.int (n : Nat)), .val (tT (lotsUp n i)), s2], S⟩) ?_ ?_ ?_
    · exact ⟨_, by omega, rfl⟩
    · rintro i x m hx ⟨s2, hi, rfl⟩
      rw [List.getElem?_map, rgI_get] at hx
      split at hx
      · rename_i hi2
        cases hx
        walk_at "kd"
        refine lots_of_ok hL hn (by omega) ?_
        have a1 := up_le hn (show i ≤ n + 1 by omega)
        have a2 := up_le hn (show i + 1 ≤ n + 1 by omega)
        have a3 : (lotsUp n (i + 1)).length = (lotsUp n i).length + ((lotsBy n i).1).length := by
          show (lotsUp n i ++ (lotsBy n i).1).length = _
          rw [List.length_append]
        walk_at "kd"
        rw [oAdd_t (by rw [List.length_map, List.length_map]; exact sz_le (by omega))]
        walk_at "kd"
        exact ⟨_, by omega, by rw [← List.map_append]; rfl⟩
      · cases hx
    · rintro m ⟨s2, hi, rfl⟩
      rw [List.length_map, rgI_len, up_of hn, joinQ_nx]
      exact ⟨_, rfl⟩
  rintro m1 ⟨s2, rfl⟩
  walk_at "kd"
  exact q
end Kd

namespace Kd
open PySem
local macro_rules | `(tactic| walk_at "kd") => `(tactic| try simp -dsimp +decide only [W_ok, W_seq, seqQ_nx, seqQ_rt, seqQ_bk, seqQ_ct, W_asg, stQ_some, W_un, W_par2, W_exp, W_ret, rtQ_v, rtQ_nl, rtQ_nd, rtQ_slot, rtS_ol, rtS_od, W_retN, W_skip, W_brk, W_cnt, W_if, ifQ_t, ifQ_f, okQ_some, W_of, W_eC, W_eVar,
  vaQ_val, vaQ_ol, vaQ_od, W_eF, W_fz_v, W_fz_nl, W_fz_nd, W_fz, fzQ_val, fzQ_ol, fzQ_od, W_fzS_v, W_fzS_nl, W_fzS_nd, W_fzS_sl, W_list_nil, W_list_cons, W_tup, W_lst, W_e1, W_e2, W_t1, W_t2, W_t3, tfQ_t, tfQ_f, W_eB, boQ_bl, W_tE, W_tNot, W_and_nil, W_or_nil, W_and, W_or,
  W_eand1, W_eor1, W_eand, W_eor, W_eIf, W_tIf, W_optN, W_optS, inQ_i, W_slice, W_call, W_callK, W_share, shQ_nl, shQ_nd, W_rng1, W_rng2, W_seqI, W_enumI, W_zipI, W_lstI, W_for, turnQ_nx, turnQ_ct, turnQ_bk, turnQ_rt, W_mutL, W_mut, muQ_ol, W_mutO, muO_lst, W_mutD, mdQ_od, W_mutDO, mdO_dct, W_meth, W_set, setQ_eq, setV_l, setV_k,
  W_kvs_nil, W_kvs_cons, W_dct, W_dctZ, W_comp, vw_v, vw_nl, vw_nd, vw_sl, vwS_ol, vwS_od, vwD_int, vwD_str, vwD_bl, vwD_non, vwD_tup, vwD_lst, vwD_dct, vwD_loc, vwO_lst, vwO_dct, setSl_v, setSl_nl, setSl_nd, setSl_sl, slS_ol, slS_od, pat_n, pat_t, pat_tl, pats_nil, pats_cons,
  oAdd_i, oSub_i, oNeg_i, cLt_i, cLe_i, cGt_i, cGe_i, bLen_l, bLen_t, bLen_k, bTuple_l, bTuple_t, bList_l, bList_t, bInt_i, oIx_l, oIx_t, oIx_k, kvO_some, kk_int, kk_str, isTy_int, isTy_tup, isTy_bl, isTy_str, isTy_non, isTy_l, isTy_k, vwDD, frozen_t, frozen_l, bind_some', map_some', map_none', start1, start2, start3, start4,
  retQ_rt, retQ_nx, get0, getS, set0, setS, List.replicate, List.length_cons, List.length_nil, Nat.reduceAdd, Nat.reduceSub, Nat.reduceMul, Nat.reduceLeDiff, isL_l, isK_k, Option.bind_some, if_true, if_false, ite_true, ite_false, Bool.not_true, Bool.not_false, true_and, and_true, Option.map_some, Option.map_none, reduceIte, reduceCtorEq, decide_true, decide_false, vwLD, vwKD, sz0, sz1, sz2, sz3, sz4, sz5, sz6, sz7, sz8, sz9, sz10, joinQ_nx, joinQ_rt, joinQ_bk, joinQ_ct, reel_deep, reel_cells, reel_stamp, reel_count, reel_set, cEq_i, cNe_i, cNe_b, cEq_tI, cNe_tI, cIn_t, cIn_l, cNotIn_t, cNotIn_l, List.length_map, oMul_r, oMul_l, oMod_i, oFdiv_i, oPow_i, lAppend_one, rgQ_i, rgQ2_i, W_forL_nil, W_forL_cons, wipeM_mk, wipeS_nil, wipeS_cons, backS_nil, backS_cons, keptS_un, keptS_val, keptS_ol, keptS_od, oCut_l, oCut_t, Int.toNat_natCast, forall_const, imp_self, atI_pos, Int.reduceToNat, bSorted_ints, bMin_ints, bMax_ints, cut_map, w_n, w_lots, w_spots, kk_tI, rng_0, rng_1, rng_2, rng_3, rng_4, rng_5, rng_6, rng_7, rng_8, rng_9, rng_10, rng_11, rng_12, rng_13, rng_14, rng_15, rng_16, rng_32, rng_64])

/-- the first place that is bad -/
def fb (L : Nat) (p : Nat → Bool) : Option Nat := (List.range L).find? p
theorem fb_some {L i : Nat} {p : Nat → Bool} (hi : i < L) (h : ∀ j, j < i → p j = false) (hp : p i = true) : fb L p = some i := by
  unfold fb
  rw [List.find?_range_eq_some]
  exact ⟨hp, List.mem_range.mpr hi, fun j hj => by rw [h j hj]; rfl⟩
theorem fb_none {L : Nat} {p : Nat → Bool} (h : ∀ j, j < L → p j = false) : fb L p = none := by
  unfold fb
  rw [List.find?_eq_none]
  intro j hj
  rw [h j (List.mem_range.mp hj)]
  simp
def entOk (n : Nat) (d : D) : Bool := match d with
  | .tup [.int k, e] => entB n (((lotsI n)[k.toNat]?).getD []) e
  | _ => false
def itOf (d : D) : Int × List Int := match d with
  | .tup [.int k, .tup e] => (k, asI e)
  | _ => (0, [])
def errD (w : Str) (j : Nat) : D := .tup [.str w, .int (j : Nat)]
def ordB (its : List (Int × List Int)) (j : Nat) : Bool := decide (1 ≤ j) && decide (((its[j]?).getD (0, [])).1 ≤ ((its[j - 1]?).getD (0, [])).1)
def goalB (n : Nat) (its : List (Int × List Int)) (j : Nat) : Bool := decide (endI n ((its[j]?).getD (0, [])).2 ∈ (its.take j).map fun p => endI n p.2)
def dueP (n : Nat) (its : List (Int × List Int)) : D := match fb its.length (ordB its) with
  | some j => errD "order" j
  | none => match fb its.length (goalB n its) with
    | some j => errD "goal" j
    | none => .non
def dueD (n : Nat) (v : D) : D := match v with
  | .tup xs => match fb xs.length (fun j => !numOk n ((xs[j]?).getD .non)) with
    | some j => errD "number" j
    | none => match fb xs.length (fun j => !entOk n ((xs[j]?).getD .non)) with
      | some j => errD "entry" j
      | none => dueP n (xs.map itOf)
  | _ => .str "form"
theorem due_num {n : Nat} {xs : List D} {i : Nat} (hi : i < xs.length) (h : ∀ (j : Nat) (x : D), j < i → xs[j]? = some x → numOk n x = true) {y : D} (hy : xs[i]? = some y) (hb : numOk n y = false) : dueD n (.tup xs) = errD "number" i := by
  unfold dueD
  simp only
  rw [fb_some hi (fun j hj => by
    have hj2 : j < xs.length := by omega
    rw [List.getElem?_eq_getElem hj2, Option.getD_some, h j _ hj (List.getElem?_eq_getElem hj2)]; rfl) (by rw [hy, Option.getD_some, hb]; rfl)]
theorem due_num' {n : Nat} {xs : List D} (h : ∀ (j : Nat) (x : D), xs[j]? = some x → numOk n x = true) : dueD n (.tup xs) = match fb xs.length (fun j => !entOk n ((xs[j]?).getD .non)) with
      | some j => errD "entry" j
      | none => dueP n (xs.map itOf) := by
  unfold dueD
  simp only
  rw [fb_none fun j hj => by rw [List.getElem?_eq_getElem hj, Option.getD_some, h j _ (List.getElem?_eq_getElem hj)]; rfl]
theorem due_ent {n : Nat} {xs : List D} {i : Nat} (hn : ∀ (j : Nat) (x : D), xs[j]? = some x → numOk n x = true) (hi : i < xs.length) (h : ∀ (j : Nat) (x : D), j < i → xs[j]? = some x → entOk n x = true) {y : D} (hy : xs[i]? = some y) (hb : entOk n y = false) : dueD n (.tup xs) = errD "entry" i := by
  rw [due_num' hn, fb_some hi (fun j hj => by
    have hj2 : j < xs.length := by omega
    rw [List.getElem?_eq_getElem hj2, Option.getD_some, h j _ hj (List.getElem?_eq_getElem hj2)]; rfl) (by rw [hy, Option.getD_some, hb]; rfl)]
theorem due_ent' {n : Nat} {xs : List D} (hn : ∀ (j : Nat) (x : D), xs[j]? = some x → numOk n x = true) (h : ∀ (j : Nat) (x : D), xs[j]? = some x → entOk n x = true) : dueD n (.tup xs) = dueP n (xs.map itOf) := by
  rw [due_num' hn, fb_none fun j hj => by rw [List.getElem?_eq_getElem hj, Option.getD_some, h j _ (List.getElem?_eq_getElem hj)]; rfl]
theorem numOk_form {n : Nat} {x : D} (h : numOk n x = true) : ∃ v e, x = .tup [.int v, e] ∧ 0 ≤ v ∧ v < (lotsI n).length := by
  unfold numOk at h
  split at h
  · rename_i v e
    simp at h
    exact ⟨v, e, rfl, h.1, h.2⟩
  · cases h
/-- an entry that fits is a row of numbers -/
theorem entB_form {n : Nat} {lot : List Int} {d : D} (h : entB n lot d = true) : ∃ e : List Int, d = tI e ∧ e.length = n := by
  unfold entB at h
  split at h
  · rename_i xs
    simp only [Bool.and_eq_true, decide_eq_true_eq] at h
    have hxs : xs = (asI xs).map D.int := ints_of (n := n) (lot := lot) fun x hx => by
      obtain ⟨j, hj⟩ := List.mem_iff_getElem?.mp hx
      by_cases hk : ∃ v, x = .int v
      · exact hk
      · have : okAt n lot (0 + j) x = false := by
          unfold okAt
          split
          · exact absurd ⟨_, rfl⟩ hk
          · rfl
        rw [allIx_bad hj this] at h
        exact absurd h.1.2 (by simp)
    exact ⟨asI xs, by show D.tup xs = D.tup ((asI xs).map D.int); rw [← hxs], by unfold asI; rw [List.length_map]; exact h.1.1⟩
  · cases h
/-- a part all of whose items have numbers and entries -/
theorem typed_part {n : Nat} {xs : List D} (hn : ∀ (j : Nat) (x : D), xs[j]? = some x → numOk n x = true) (h : ∀ (j : Nat) (x : D), xs[j]? = some x → entOk n x = true) : xs = (xs.map itOf).map itP ∧ ∀ p ∈ xs.map itOf, p.2.length = n := by
  have key : ∀ x ∈ xs, x = itP (itOf x) ∧ (itOf x).2.length = n := fun x hx => by
    obtain ⟨j, hj⟩ := List.mem_iff_getElem?.mp hx
    obtain ⟨v, e, rfl, _, _⟩ := numOk_form (hn j x hj)
    have he : entB n (((lotsI n)[v.toNat]?).getD []) e = true := h j _ hj
    obtain ⟨f, rfl, hf⟩ := entB_form he
    have : itOf (.tup [.int v, tI f]) = (v, f) := by
      show (v, asI (f.map D.int)) = (v, f)
      rw [asI_map]
    rw [this]
    exact ⟨rfl, hf⟩
  refine ⟨?_, fun p hp => ?_⟩
  · rw [List.map_map]
    conv => lhs; rw [← List.map_id xs]
    refine List.map_congr_left fun x hx => (key x hx).1
  · rw [List.mem_map] at hp
    obtain ⟨x, hx, rfl⟩ := hp
    exact (key x hx).2
theorem memD_tI (gs : List (List Int)) (g : List Int) : memD (gs.map tI) (tI g) = some (decide (g ∈ gs)) := by
  unfold memD
  have hall : ∀ x ∈ gs.map tI, okd x = true := fun x hx => by
    rw [List.mem_map] at hx
    obtain ⟨y, _, rfl⟩ := hx
    exact okd_tI y
  have pys : ∀ gs : List (List Int), D.pys (gs.map tI) = some (gs.map fun g => .tuple (g.map .int)) := by
    intro gs
    induction gs with
    | nil => simp only [List.map_nil, D.pys]
    | cons g gs ih => simp only [List.map_cons, D.pys, ih, py_tup (pys_ints g)]
  have h2 := pys gs
  obtain ⟨ys, k1, k2, k3, _⟩ := okd_all hall
  rw [h2] at k1
  cases k1
  rw [py_tup (pys_ints g), h2]
  simp only [shaped_t (lay_ints g) (depth_ok g), shaped_l k2 (by omega), Bool.and_self, if_true]
  congr 1
  have key : ∀ gs : List (List Int), ((gs.map fun g => PyData.tuple (g.map .int)).any fun z => z.eqv (.tuple (g.map .int))) = decide (g ∈ gs) := by
    intro gs
    induction gs with
    | nil => simp
    | cons x gs ih =>
      rw [List.map_cons, List.any_cons, ih]
      simp only [PyData.eqv, eqvAll_ints, List.mem_cons]
      by_cases hx : g = x
      · subst hx; simp
      · have hx' : ¬ x = g := fun e => hx e.symm
        simp [hx, hx']
  exact key gs
theorem cIn_tI (gs : List (List Int)) (g : List Int) : cIn (.d (tI g)) (.l (gs.map tI)) = some (decide (g ∈ gs)) := memD_tI gs g
end Kd

namespace Kd
open PySem
local macro_rules | `(tactic| walk_at "kd") => `(tactic| try simp -dsimp +decide only [W_ok, W_seq, seqQ_nx, seqQ_rt, seqQ_bk, seqQ_ct, W_asg, stQ_some, W_un, W_par2, W_exp, W_ret, rtQ_v, rtQ_nl, rtQ_nd, rtQ_slot, rtS_ol, rtS_od, W_retN, W_skip, W_brk, W_cnt, W_if, ifQ_t, ifQ_f, okQ_some, W_of, W_eC, W_eVar,
  vaQ_val, vaQ_ol, vaQ_od, W_eF, W_fz_v, W_fz_nl, W_fz_nd, W_fz, fzQ_val, fzQ_ol, fzQ_od, W_fzS_v, W_fzS_nl, W_fzS_nd, W_fzS_sl, W_list_nil, W_list_cons, W_tup, W_lst, W_e1, W_e2, W_t1, W_t2, W_t3, tfQ_t, tfQ_f, W_eB, boQ_bl, W_tE, W_tNot, W_and_nil, W_or_nil, W_and, W_or,
  W_eand1, W_eor1, W_eand, W_eor, W_eIf, W_tIf, W_optN, W_optS, inQ_i, W_slice, W_call, W_callK, W_share, shQ_nl, shQ_nd, W_rng1, W_rng2, W_seqI, W_enumI, W_zipI, W_lstI, W_for, turnQ_nx, turnQ_ct, turnQ_bk, turnQ_rt, W_mutL, W_mut, muQ_ol, W_mutO, muO_lst, W_mutD, mdQ_od, W_mutDO, mdO_dct, W_meth, W_set, setQ_eq, setV_l, setV_k,
  W_kvs_nil, W_kvs_cons, W_dct, W_dctZ, W_comp, vw_v, vw_nl, vw_nd, vw_sl, vwS_ol, vwS_od, vwD_int, vwD_str, vwD_bl, vwD_non, vwD_tup, vwD_lst, vwD_dct, vwD_loc, vwO_lst, vwO_dct, setSl_v, setSl_nl, setSl_nd, setSl_sl, slS_ol, slS_od, pat_n, pat_t, pat_tl, pats_nil, pats_cons,
  oAdd_i, oSub_i, oNeg_i, cLt_i, cLe_i, cGt_i, cGe_i, bLen_l, bLen_t, bLen_k, bTuple_l, bTuple_t, bList_l, bList_t, bInt_i, oIx_l, oIx_t, oIx_k, kvO_some, kk_int, kk_str, isTy_int, isTy_tup, isTy_bl, isTy_str, isTy_non, isTy_l, isTy_k, vwDD, frozen_t, frozen_l, bind_some', map_some', map_none', start1, start2, start3, start4,
  retQ_rt, retQ_nx, get0, getS, set0, setS, List.replicate, List.length_cons, List.length_nil, Nat.reduceAdd, Nat.reduceSub, Nat.reduceMul, Nat.reduceLeDiff, isL_l, isK_k, Option.bind_some, if_true, if_false, ite_true, ite_false, Bool.not_true, Bool.not_false, true_and, and_true, Option.map_some, Option.map_none, reduceIte, reduceCtorEq, decide_true, decide_false, vwLD, vwKD, sz0, sz1, sz2, sz3, sz4, sz5, sz6, sz7, sz8, sz9, sz10, joinQ_nx, joinQ_rt, joinQ_bk, joinQ_ct, reel_deep, reel_cells, reel_stamp, reel_count, reel_set, cEq_i, cNe_i, cNe_b, cEq_tI, cNe_tI, cIn_t, cIn_l, cNotIn_t, cNotIn_l, List.length_map, oMul_r, oMul_l, oMod_i, oFdiv_i, oPow_i, lAppend_one, rgQ_i, rgQ2_i, W_forL_nil, W_forL_cons, wipeM_mk, wipeS_nil, wipeS_cons, backS_nil, backS_cons, keptS_un, keptS_val, keptS_ol, keptS_od, oCut_l, oCut_t, Int.toNat_natCast, forall_const, imp_self, cIn_tI, atI_pos, Int.reduceToNat, bSorted_ints, bMin_ints, bMax_ints, cut_map, w_n, w_lots, w_spots, kk_tI, rng_0, rng_1, rng_2, rng_3, rng_4, rng_5, rng_6, rng_7, rng_8, rng_9, rng_10, rng_11, rng_12, rng_13, rng_14, rng_15, rng_16, rng_32, rng_64])

theorem errD_eq (w : Str) (j : Nat) : errD w j = .tup [.str w, .int (j : Nat)] := rfl
theorem lots_get {n : Nat} {v : Int} (h0 : 0 ≤ v) (h1 : v < (lotsI n).length) : ∃ lot, (lotsI n)[v.toNat]? = some lot ∧ lot ∈ lotsI n := by
  have h3 : v.toNat < (lotsI n).length := by omega
  exact ⟨_, List.getElem?_eq_getElem h3, List.getElem_mem h3⟩
theorem more_ok {P : Nat → D → Prop} {xs : List D} {i : Nat} {y : D} (hall : ∀ (j : Nat) (x : D), j < i → xs[j]? = some x → P j x) (hy : xs[i]? = some y) (hp : P i y) : ∀ (j : Nat) (x : D), j < i + 1 → xs[j]? = some x → P j x := fun j x hj hx => by
  by_cases hji : j < i
  · exact hall j x hji hx
  · have : j = i := by omega
    subst this
    rw [hy] at hx
    cases hx
    exact hp
theorem more_false {p : Nat → Bool} {i : Nat} (hall : ∀ j, j < i → p j = false) (hp : p i = false) : ∀ j, j < i + 1 → p j = false := fun j hj => by
  by_cases hji : j < i
  · exact hall j hji
  · have : j = i := by omega
    subst this
    exact hp
theorem part_error_ok {P : List Cd} {wf k i iN iL iE iG iI iA n : Nat} {S : List Ob} {d : D} {Q : Op → List Ob → Prop} (h : P[i]? = some ⟨b_part_error iN iA iE iG, 2, 8⟩) (hN : P[iN]? = some ⟨b_is_numbered iI, 2, 2⟩) (hI : P[iI]? = some ⟨b_is_integer, 1, 1⟩)
    (hA : P[iA]? = some ⟨b_all_lots iL, 1, 3⟩) (hL : P[iL]? = some ⟨b_lots_of, 2, 8⟩) (hE : P[iE]? = some ⟨b_is_entry iG, 3, 5⟩) (hG : P[iG]? = some ⟨b_goal, 2, 3⟩) (hn : Six n) (hd : d.py.isSome = true) (hz : ∀ xs, d = .tup xs → xs.length ≤ 1000000)
    (q : Q (.v (dueD n d)) S) : WC (ctK P wf (k + 3) i [.int (n : Nat), d] S) Q := by
  have hn6 := six_le hn
  refine WC_ct h rfl ?_
  unfold b_part_error
  refine W_step (fun m => ∃ xs, d = .tup xs ∧ m = ⟨[.val (.int (n : Nat)), .val (.tup xs), .un, .un, .un, .un, .un, .un], S⟩) ?_ ?_
  · cases d with
    | loc l => exact absurd hd (py_loc l)
    | tup xs => walk_at "kd"; exact ⟨xs, rfl, rfl⟩
    | int v => walk_at "kd"; exact q
    | bl b =>
      walk_at "kd"
      simp only [Bool.or_false]
      walk_at "kd"
      exact q
    | str x => walk_at "kd"; exact q
    | non => walk_at "kd"; exact q
    | lst l => walk_at "kd"; exact q
    | dct l => walk_at "kd"; exact q
  rintro m1 ⟨xs, rfl, rfl⟩
  have hp := py_mem hd
  have hxl := hz xs rfl
  refine W_step (fun m => ∃ s3 s5, (∀ (j : Nat) (x : D), xs[j]? = some x → numOk n x = true) ∧ m = ⟨[.val (.int (n : Nat)), .val (.tup xs), .un, s3, .un, s5, .un, .un], S⟩) ?_ ?_
  · walk_at "kd"
    refine W_forL (fun i m => ∃ s3 s5, (∀ (j : Nat) (x : D), j < i → xs[j]? = some x → numOk n x = true) ∧ m = ⟨[.val (.int (n : Nat)), .val (.tup xs), .un, s3, .un, s5, .un, .un], S⟩) ?_ ?_ ?_
    · exact ⟨_, _, fun j x h => by omega, rfl⟩
    · rintro i x m hx ⟨s3, s5, hall, rfl⟩
      obtain ⟨y, hy, rfl⟩ := enumD_at hx
      rw [Nat.zero_add]
      walk_at "kd"
      refine is_numbered_ok hN hI hn (hp y (List.mem_of_getElem? hy)) ?_
      cases hok : numOk n y with
      | false =>
        walk_at "kd"
        rw [due_num (List.getElem?_eq_some_iff.mp hy).1 hall hy hok, errD_eq] at q
        exact q
      | true =>
        walk_at "kd"
        exact ⟨_, _, more_ok (P := fun _ x => numOk n x = true) hall hy hok, rfl⟩
    · rintro m ⟨s3, s5, hall, rfl⟩
      rw [enumD_size] at hall
      rw [joinQ_nx]
      exact ⟨_, _, fun j x hx => hall j x (List.getElem?_eq_some_iff.mp hx).1 hx, rfl⟩
  rintro m1 ⟨s3, s5, hnum, rfl⟩
  refine W_step (fun m => m = ⟨[.val (.int (n : Nat)), .val (.tup xs), .val (tT (lotsI n)), s3, .un, s5, .un, .un], S⟩) ?_ ?_
  · walk_at "kd"
    refine all_lots_ok hA hL hn ?_
    walk_at "kd"
  rintro m1 rfl
  refine W_step (fun m => ∃ s3 s6 s7, (∀ (j : Nat) (x : D), xs[j]? = some x → entOk n x = true) ∧ m = ⟨[.val (.int (n : Nat)), .val (.tup xs), .val (tT (lotsI n)), s3, .un, s5, s6, s7], S⟩) ?_ ?_
  · walk_at "kd"
    refine W_forL (fun i m => ∃ s3 s6 s7, (∀ (j : Nat) (x : D), j < i → xs[j]? = some x → entOk n x = true) ∧ m = ⟨[.val (.int (n : Nat)), .val (.tup xs), .val (tT (lotsI n)), s3, .un, s5, s6, s7], S⟩) ?_ ?_ ?_
    · exact ⟨_, _, _, fun j x h => by omega, rfl⟩
    · rintro i x m hx ⟨s3, s6, s7, hall, rfl⟩
      obtain ⟨y, hy, rfl⟩ := enumD_at hx
      rw [Nat.zero_add]
      obtain ⟨v, e, rfl, v0, v1⟩ := numOk_form (hnum i y hy)
      obtain ⟨lot, hlot, hlm⟩ := lots_get v0 v1
      have hpe := py_mem (hp _ (List.mem_of_getElem? hy)) e (by simp)
      walk_at "kd"
      rw [atI_pos _ v0, List.getElem?_map, hlot]
      walk_at "kd"
      refine is_entry_ok hE hG hn hlm hpe ?_
      have heq : entOk n (.tup [.int v, e]) = entB n lot e := by
        show entB n (((lotsI n)[v.toNat]?).getD []) e = _
        rw [hlot]; rfl
      cases hok : entB n lot e with
      | false =>
        walk_at "kd"
        rw [due_ent hnum (List.getElem?_eq_some_iff.mp hy).1 hall hy (heq.trans hok), errD_eq] at q
        exact q
      | true =>
        walk_at "kd"
        exact ⟨_, _, _, more_ok (P := fun _ x => entOk n x = true) hall hy (heq.trans hok), rfl⟩
    · rintro m ⟨s3, s6, s7, hall, rfl⟩
      rw [enumD_size] at hall
      rw [joinQ_nx]
      exact ⟨_, _, _, fun j x hx => hall j x (List.getElem?_eq_some_iff.mp hx).1 hx, rfl⟩
  rintro m1 ⟨s3, s6, s7, hent, rfl⟩
  rw [due_ent' hnum hent] at q
  obtain ⟨hxs, hlen⟩ := typed_part hnum hent
  generalize hits : xs.map itOf = its at hxs hlen q
  have hil : its.length = xs.length := by rw [← hits, List.length_map]
  subst hxs
  clear hits hnum hent hp hz hd
  have geti : ∀ {j : Nat}, j < its.length → ∃ p, its[j]? = some p ∧ p.2.length = n := fun {j} hj => ⟨_, List.getElem?_eq_getElem hj, hlen _ (List.getElem_mem hj)⟩
  refine W_step (fun m => ∃ s3, (∀ j, j < its.length → ordB its j = false) ∧ m = ⟨[.val (.int (n : Nat)), .val (.tup (its.map itP)), .val (tT (lotsI n)), s3, .un, s5, s6, s7], S⟩) ?_ ?_
  · walk_at "kd"
    rw [rgQ2_i _ _ rng_1 (rngOk_of (by omega) (by omega))]
    refine W_forL (fun i m => ∃ s3, (∀ j, j < i + 1 → ordB its j = false) ∧ m = ⟨[.val (.int (n : Nat)), .val (.tup (its.map itP)), .val (tT (lotsI n)), s3, .un, s5, s6, s7], S⟩) ?_ ?_ ?_
    · exact ⟨_, fun j hj => by
        have : j = 0 := by omega
        subst this
        rfl, rfl⟩
    · rintro i x m hx ⟨s3, hall, rfl⟩
      obtain ⟨rfl, hi⟩ := rngD_get hx
      have hi2 : i + 1 < its.length := by omega
      obtain ⟨p, hp1, _⟩ := geti hi2
      obtain ⟨r, hr1, _⟩ := geti (show i < its.length by omega)
      rw [show (1 : Int) + (i : Nat) = ((i + 1 : Nat) : Int) by omega]
      have ixp : L2.atI (its.map itP) ((i + 1 : Nat) : Int) = some (.tup [.int p.1, tI p.2]) := by rw [atI_nat, List.getElem?_map, hp1]; rfl
      have ixr : L2.atI (its.map itP) (((i + 1 : Nat) : Int) - 1) = some (.tup [.int r.1, tI r.2]) := by rw [show ((i + 1 : Nat) : Int) - 1 = ((i : Nat) : Int) by omega, atI_nat, List.getElem?_map, hr1]; rfl
      walk_at "kd"
      rw [ixp]
      walk_at "kd"
      rw [ixr]
      walk_at "kd"
      have ho : ordB its (i + 1) = decide (p.1 ≤ r.1) := by
        unfold ordB
        rw [hp1, show i + 1 - 1 = i by omega, hr1, decide_eq_true (by omega : 1 ≤ i + 1)]
        rfl
      refine W_if' (fun hc => ?_) (fun hc => ?_)
      · walk_at "kd"
        have : dueP n its = errD "order" (i + 1) := by
          unfold dueP
          rw [fb_some hi2 (fun j hj => hall j hj) (ho.trans hc)]
        rw [this, errD_eq] at q
        exact q
      · walk_at "kd"
        exact ⟨_, more_false hall (ho.trans hc), rfl⟩
    · rintro m ⟨s3, hall, rfl⟩
      rw [rngD_len] at hall
      rw [joinQ_nx]
      exact ⟨_, fun j hj => hall j (by omega), rfl⟩
  rintro m1 ⟨s3, hord, rfl⟩
  have hdp : dueP n its = match fb its.length (goalB n its) with
    | some j => errD "goal" j
    | none => .non := by
    unfold dueP
    rw [fb_none hord]
    all_goals (cases fb its.length (goalB n its) <;> rfl)
  rw [hdp] at q
  refine W_step (fun m => m = ⟨[.val (.int (n : Nat)), .val (.tup (its.map itP)), .val (tT (lotsI n)), s3, .ol ([].map tI), s5, s6, s7], S⟩) ?_ ?_
  · walk_at "kd"
    rfl
  rintro m1 rfl
  refine W_step (fun m => ∃ s3 s4 s6 s7, (∀ j, j < its.length → goalB n its j = false) ∧ m = ⟨[.val (.int (n : Nat)), .val (.tup (its.map itP)), .val (tT (lotsI n)), s3, s4, s5, s6, s7], S⟩) ?_ ?_
  · walk_at "kd"
    refine W_forL (fun i m => ∃ s3 s6 s7, i ≤ its.length ∧ (∀ j, j < i → goalB n its j = false) ∧ m = ⟨[.val (.int (n : Nat)), .val (.tup (its.map itP)), .val (tT (lotsI n)), s3, .ol (((its.take i).map fun p => endI n p.2).map tI), s5, s6, s7], S⟩) ?_ ?_ ?_
    · exact ⟨_, _, _, Nat.zero_le _, fun j h => by omega, rfl⟩
    · rintro i x m hx ⟨s3, s6, s7, hi0, hall, rfl⟩
      obtain ⟨y, hy, rfl⟩ := enumD_at hx
      rw [Nat.zero_add]
      rw [List.getElem?_map, Option.map_eq_some_iff] at hy
      obtain ⟨p, hp1, rfl⟩ := hy
      have hi := (List.getElem?_eq_some_iff.mp hp1).1
      simp only [itP, itD]
      walk_at "kd"
      refine goal_ok hG (by omega) ?_
      walk_at "kd"
      have hg : goalB n its i = decide (endI n p.2 ∈ (its.take i).map fun p => endI n p.2) := by
        unfold goalB
        rw [hp1]
        rfl
      refine W_if' (fun hc => ?_) (fun hc => ?_)
      · walk_at "kd"
        rw [fb_some hi hall (hg.trans hc)] at q
        simp only [errD_eq] at q
        exact q
      · walk_at "kd"
        refine goal_ok hG (by omega) ?_
        walk_at "kd"
        rw [lAppend_one _ _ (by rw [List.length_map, List.length_map, List.length_take]; exact sz_lt (by rw [hil, List.length_map] at *; omega))]
        walk_at "kd"
        refine ⟨.val (.int (i : Nat)), .val (.int p.1), .val (tI p.2), by omega, more_false hall (hg.trans hc), ?_⟩
        rw [List.take_add_one, hp1]
        simp only [Option.toList, List.map_append, List.map_cons, List.map_nil]
    · rintro m ⟨s3, s6, s7, hi0, hall, rfl⟩
      rw [enumD_size, List.length_map] at hall
      rw [joinQ_nx]
      exact ⟨_, _, _, _, hall, rfl⟩
  rintro m1 ⟨s3, s4, s6, s7, hgoal, rfl⟩
  rw [fb_none hgoal] at q
  walk_at "kd"
  exact q
end Kd

namespace Kd
open PySem
local macro_rules | `(tactic| walk_at "kd") => `(tactic| try simp -dsimp +decide only [W_ok, W_seq, seqQ_nx, seqQ_rt, seqQ_bk, seqQ_ct, W_asg, stQ_some, W_un, W_par2, W_exp, W_ret, rtQ_v, rtQ_nl, rtQ_nd, rtQ_slot, rtS_ol, rtS_od, W_retN, W_skip, W_brk, W_cnt, W_if, ifQ_t, ifQ_f, okQ_some, W_of, W_eC, W_eVar,
  vaQ_val, vaQ_ol, vaQ_od, W_eF, W_fz_v, W_fz_nl, W_fz_nd, W_fz, fzQ_val, fzQ_ol, fzQ_od, W_fzS_v, W_fzS_nl, W_fzS_nd, W_fzS_sl, W_list_nil, W_list_cons, W_tup, W_lst, W_e1, W_e2, W_t1, W_t2, W_t3, tfQ_t, tfQ_f, W_eB, boQ_bl, W_tE, W_tNot, W_and_nil, W_or_nil, W_and, W_or,
  W_eand1, W_eor1, W_eand, W_eor, W_eIf, W_tIf, W_optN, W_optS, inQ_i, W_slice, W_call, W_callK, W_share, shQ_nl, shQ_nd, W_rng1, W_rng2, W_seqI, W_enumI, W_zipI, W_lstI, W_for, turnQ_nx, turnQ_ct, turnQ_bk, turnQ_rt, W_mutL, W_mut, muQ_ol, W_mutO, muO_lst, W_mutD, mdQ_od, W_mutDO, mdO_dct, W_meth, W_set, setQ_eq, setV_l, setV_k,
  W_kvs_nil, W_kvs_cons, W_dct, W_dctZ, W_comp, vw_v, vw_nl, vw_nd, vw_sl, vwS_ol, vwS_od, vwD_int, vwD_str, vwD_bl, vwD_non, vwD_tup, vwD_lst, vwD_dct, vwD_loc, vwO_lst, vwO_dct, setSl_v, setSl_nl, setSl_nd, setSl_sl, slS_ol, slS_od, pat_n, pat_t, pat_tl, pats_nil, pats_cons,
  oAdd_i, oSub_i, oNeg_i, cLt_i, cLe_i, cGt_i, cGe_i, bLen_l, bLen_t, bLen_k, bTuple_l, bTuple_t, bList_l, bList_t, bInt_i, oIx_l, oIx_t, oIx_k, kvO_some, kk_int, kk_str, isTy_int, isTy_tup, isTy_bl, isTy_str, isTy_non, isTy_l, isTy_k, vwDD, frozen_t, frozen_l, bind_some', map_some', map_none', start1, start2, start3, start4,
  retQ_rt, retQ_nx, get0, getS, set0, setS, List.replicate, List.length_cons, List.length_nil, Nat.reduceAdd, Nat.reduceSub, Nat.reduceMul, Nat.reduceLeDiff, isL_l, isK_k, Option.bind_some, if_true, if_false, ite_true, ite_false, Bool.not_true, Bool.not_false, true_and, and_true, Option.map_some, Option.map_none, reduceIte, reduceCtorEq, decide_true, decide_false, vwLD, vwKD, sz0, sz1, sz2, sz3, sz4, sz5, sz6, sz7, sz8, sz9, sz10, joinQ_nx, joinQ_rt, joinQ_bk, joinQ_ct, reel_deep, reel_cells, reel_stamp, reel_count, reel_set, cEq_i, cNe_i, cNe_b, cEq_tI, cNe_tI, cIn_t, cIn_l, cNotIn_t, cNotIn_l, List.length_map, oMul_r, oMul_l, oMod_i, oFdiv_i, oPow_i, lAppend_one, rgQ_i, rgQ2_i, W_forL_nil, W_forL_cons, wipeM_mk, wipeS_nil, wipeS_cons, backS_nil, backS_cons, keptS_un, keptS_val, keptS_ol, keptS_od, oCut_l, oCut_t, Int.toNat_natCast, forall_const, imp_self, cIn_tI, atI_pos, Int.reduceToNat, bSorted_ints, bMin_ints, bMax_ints, cut_map, w_n, w_lots, w_spots, kk_tI, rng_0, rng_1, rng_2, rng_3, rng_4, rng_5, rng_6, rng_7, rng_8, rng_9, rng_10, rng_11, rng_12, rng_13, rng_14, rng_15, rng_16, rng_32, rng_64])

def fineB (d : D) : Bool := match d with
  | .tup [.int _, _] => true
  | _ => false
theorem fine_run {nv : Nv} {d : D} {s0 s1 s2 s3 s4 s5 s7 : Sl} {S : List Ob} {Q : Op → M → Prop} (hd : d.py.isSome = true) (q : Q (.v (.bl (fineB d))) ⟨[s0, s1, s2, s3, s4, s5, .val d, s7], S⟩) :
    W (eAnd [(eB (t1 (isTy .tuple) (eVar 6))), (eB (t2 cEq (e1 bLen (eVar 6)) (eC (.int 2)))), (eB (t1 (isTy .int) (e2 oIx (eVar 6) (eC (.int 0))))), (eB (tNot (tE (eB (t1 (isTy .bool) (e2 oIx (eVar 6) (eC (.int 0))))))))] nv ⟨[s0, s1, s2, s3, s4, s5, .val d, s7], S⟩) Q := by
  cases d with
  | loc l => exact absurd hd (py_loc l)
  | tup xs =>
    walk_at "kd"
    refine W_tf (fun hc => ?_) (fun hc => ?_)
    · have hl : xs.length = 2 := by
        have hc2 : ((xs.length : Nat) : Int) = 2 := by simpa using hc
        omega
      match xs, hl with
      | [a, b], _ =>
        have ha : a.py.isSome = true := py_mem hd a (List.mem_cons_self ..)
        walk_at "kd"
        cases a with
        | loc l => exact absurd ha (py_loc l)
        | int v => walk_at "kd"; exact q
        | bl x =>
          walk_at "kd"
          simp only [Bool.or_true, Bool.or_false]
          walk_at "kd"
          simp only [Bool.or_true, Bool.or_false]
          walk_at "kd"
          exact q
        | str x => walk_at "kd"; exact q
        | non => walk_at "kd"; exact q
        | tup l => walk_at "kd"; exact q
        | lst l => walk_at "kd"; exact q
        | dct l => walk_at "kd"; exact q
    · have hl : ¬ xs.length = 2 := by
        have hc2 : ¬ ((xs.length : Nat) : Int) = 2 := by simpa using hc
        omega
      walk_at "kd"
      have e : fineB (.tup xs) = false := by
        unfold fineB
        split
        · rename_i z
          cases z
          simp at hl
        · rfl
      rw [e] at q
      exact q
  | int v => walk_at "kd"; exact q
  | bl b =>
    walk_at "kd"
    simp only [Bool.or_true, Bool.or_false]
    walk_at "kd"
    exact q
  | str x => walk_at "kd"; exact q
  | non => walk_at "kd"; exact q
  | lst l => walk_at "kd"; exact q
  | dct l => walk_at "kd"; exact q
theorem fine_num {n : Nat} {d : D} (h : fineB d = false) : numOk n d = false := by
  unfold fineB at h
  unfold numOk
  split at h
  · cases h
  · rename_i hx
    first
    | rfl
    | (split <;> first | rfl | exact absurd rfl (hx _ _))
theorem fine_form {d : D} (h : fineB d = true) : ∃ v e, d = .tup [.int v, e] := by
  unfold fineB at h
  split at h
  · exact ⟨_, _, rfl⟩
  · cases h
theorem due_ok {P : List Cd} {wf k i iE iD n : Nat} {S : List Ob} {d : D} {Q : Op → List Ob → Prop} (h : P[i]? = some ⟨b_law_due iE iD, 2, 8⟩) (hE : P[iE]? = some ⟨b_law_is_entry, 3, 6⟩) (hD : P[iD]? = some ⟨b_law_end, 1, 2⟩) (hn : Six n) (hd : d.py.isSome = true) (hz : ∀ xs, d = .tup xs → xs.length ≤ 1000000)
    (q : Q (.v (dueD n d)) S) : WC (ctK P wf (k + 2) i [.dct (worldK n), d] S) Q := by
  have hn6 := six_le hn
  refine WC_ct h rfl ?_
  unfold b_law_due
  refine W_step (fun m => m = ⟨[.val (.dct (worldK n)), .val d, .un, .un, .val (.int (n : Nat)), .val (.lst ((lotsI n).map tI)), .un, .un], S⟩) ?_ ?_
  · walk_at "kd"
  rintro m1 rfl
  refine W_step (fun m => ∃ xs, d = .tup xs ∧ m = ⟨[.val (.dct (worldK n)), .val (.tup xs), .un, .un, .val (.int (n : Nat)), .val (.lst ((lotsI n).map tI)), .un, .un], S⟩) ?_ ?_
  · cases d with
    | loc l => exact absurd hd (py_loc l)
    | tup xs => walk_at "kd"; exact ⟨xs, rfl, rfl⟩
    | int v => walk_at "kd"; exact q
    | bl b =>
      walk_at "kd"
      simp only [Bool.or_false]
      walk_at "kd"
      exact q
    | str x => walk_at "kd"; exact q
    | non => walk_at "kd"; exact q
    | lst l => walk_at "kd"; exact q
    | dct l => walk_at "kd"; exact q
  rintro m1 ⟨xs, rfl, rfl⟩
  have hp := py_mem hd
  have hxl := hz xs rfl
  refine W_step (fun m => ∃ s2 s6 s7, (∀ (j : Nat) (x : D), xs[j]? = some x → numOk n x = true) ∧ m = ⟨[.val (.dct (worldK n)), .val (.tup xs), s2, .un, .val (.int (n : Nat)), .val (.lst ((lotsI n).map tI)), s6, s7], S⟩) ?_ ?_
  · walk_at "kd"
    refine W_forL (fun i m => ∃ s2 s6 s7, (∀ (j : Nat) (x : D), j < i → xs[j]? = some x → numOk n x = true) ∧ m = ⟨[.val (.dct (worldK n)), .val (.tup xs), s2, .un, .val (.int (n : Nat)), .val (.lst ((lotsI n).map tI)), s6, s7], S⟩) ?_ ?_ ?_
    · exact ⟨_, _, _, fun j x h => by omega, rfl⟩
    · rintro i x m hx ⟨s2, s6, s7, hall, rfl⟩
      obtain ⟨y, hy, rfl⟩ := enumD_at hx
      rw [Nat.zero_add]
      rw [pat_t]
      simp only [pats_cons, pats_nil, pat_n, bind_some', setS, set0, stQ_some]
      rw [W_seq, W_asg]
      refine fine_run (hp y (List.mem_of_getElem? hy)) ?_
      cases hf : fineB y with
      | false =>
        walk_at "kd"
        rw [due_num (List.getElem?_eq_some_iff.mp hy).1 hall hy (fine_num hf), errD_eq] at q
        exact q
      | true =>
        obtain ⟨v, e, rfl⟩ := fine_form hf
        walk_at "kd"
        refine W_tf (fun h1 => ?_) (fun h1 => ?_)
        · walk_at "kd"
          have hb : numOk n (.tup [.int v, e]) = false := by
            show (decide (0 ≤ v) && _) = false
            have : v < 0 := by simpa using h1
            rw [decide_eq_false (by omega)]; rfl
          rw [due_num (List.getElem?_eq_some_iff.mp hy).1 hall hy hb, errD_eq] at q
          exact q
        · walk_at "kd"
          have h1' : ¬ v < 0 := by simpa using h1
          refine W_tf (fun h2 => ?_) (fun h2 => ?_)
          · walk_at "kd"
            have hb : numOk n (.tup [.int v, e]) = false := by
              show (_ && decide (v < ((lotsI n).length : Nat))) = false
              have : ((lotsI n).length : Int) ≤ v := by simpa using h2
              rw [decide_eq_false (by omega : ¬ v < (((lotsI n).length : Nat) : Int))]; simp
            rw [due_num (List.getElem?_eq_some_iff.mp hy).1 hall hy hb, errD_eq] at q
            exact q
          · walk_at "kd"
            have hb : numOk n (.tup [.int v, e]) = true := by
              show (decide (0 ≤ v) && decide (v < ((lotsI n).length : Nat))) = true
              have : ¬ ((lotsI n).length : Int) ≤ v := by simpa using h2
              rw [decide_eq_true (by omega : 0 ≤ v), decide_eq_true (by omega : v < (((lotsI n).length : Nat) : Int))]; rfl
            exact ⟨_, _, _, more_ok (P := fun _ x => numOk n x = true) hall hy hb, rfl⟩
    · rintro m ⟨s2, s6, s7, hall, rfl⟩
      rw [enumD_size] at hall
      rw [joinQ_nx]
      exact ⟨_, _, _, fun j x hx => hall j x (List.getElem?_eq_some_iff.mp hx).1 hx, rfl⟩
  rintro m1 ⟨s2, s6, s7, hnum, rfl⟩
  refine W_step (fun m => ∃ s2 s6, (∀ (j : Nat) (x : D), xs[j]? = some x → entOk n x = true) ∧ m = ⟨[.val (.dct (worldK n)), .val (.tup xs), s2, .un, .val (.int (n : Nat)), .val (.lst ((lotsI n).map tI)), s6, s7], S⟩) ?_ ?_
  · walk_at "kd"
    refine W_forL (fun i m => ∃ s2 s6, (∀ (j : Nat) (x : D), j < i → xs[j]? = some x → entOk n x = true) ∧ m = ⟨[.val (.dct (worldK n)), .val (.tup xs), s2, .un, .val (.int (n : Nat)), .val (.lst ((lotsI n).map tI)), s6, s7], S⟩) ?_ ?_ ?_
    · exact ⟨_, _, fun j x h => by omega, rfl⟩
    · rintro i x m hx ⟨s2, s6, hall, rfl⟩
      obtain ⟨y, hy, rfl⟩ := enumD_at hx
      rw [Nat.zero_add]
      obtain ⟨v, e, rfl, v0, v1⟩ := numOk_form (hnum i y hy)
      obtain ⟨lot, hlot, hlm⟩ := lots_get v0 v1
      have hpe := py_mem (hp _ (List.mem_of_getElem? hy)) e (by simp)
      walk_at "kd"
      rw [atI_pos _ v0, List.getElem?_map, hlot]
      walk_at "kd"
      refine law_is_entry_ok hE hn hlm hpe ?_
      have heq : entOk n (.tup [.int v, e]) = entB n lot e := by
        show entB n (((lotsI n)[v.toNat]?).getD []) e = _
        rw [hlot]; rfl
      cases hok : entB n lot e with
      | false =>
        walk_at "kd"
        rw [due_ent hnum (List.getElem?_eq_some_iff.mp hy).1 hall hy (heq.trans hok), errD_eq] at q
        exact q
      | true =>
        walk_at "kd"
        exact ⟨_, _, more_ok (P := fun _ x => entOk n x = true) hall hy (heq.trans hok), rfl⟩
    · rintro m ⟨s2, s6, hall, rfl⟩
      rw [enumD_size] at hall
      rw [joinQ_nx]
      exact ⟨_, _, fun j x hx => hall j x (List.getElem?_eq_some_iff.mp hx).1 hx, rfl⟩
  rintro m1 ⟨s2, s6, hent, rfl⟩
  rw [due_ent' hnum hent] at q
  obtain ⟨hxs, hlen⟩ := typed_part hnum hent
  generalize hits : xs.map itOf = its at hxs hlen q
  have hil : its.length = xs.length := by rw [← hits, List.length_map]
  subst hxs
  clear hits hnum hent hp hz hd
  have geti : ∀ {j : Nat}, j < its.length → ∃ p, its[j]? = some p ∧ p.2.length = n := fun {j} hj => ⟨_, List.getElem?_eq_getElem hj, hlen _ (List.getElem_mem hj)⟩
  refine W_step (fun m => ∃ s2, (∀ j, j < its.length → ordB its j = false) ∧ m = ⟨[.val (.dct (worldK n)), .val (.tup (its.map itP)), s2, .un, .val (.int (n : Nat)), .val (.lst ((lotsI n).map tI)), s6, s7], S⟩) ?_ ?_
  · walk_at "kd"
    rw [rgQ2_i _ _ rng_1 (rngOk_of (by omega) (by omega))]
    refine W_forL (fun i m => ∃ s2, (∀ j, j < i + 1 → ordB its j = false) ∧ m = ⟨[.val (.dct (worldK n)), .val (.tup (its.map itP)), s2, .un, .val (.int (n : Nat)), .val (.lst ((lotsI n).map tI)), s6, s7], S⟩) ?_ ?_ ?_
    · exact ⟨_, fun j hj => by
        have : j = 0 := by omega
        subst this
        rfl, rfl⟩
    · rintro i x m hx ⟨s2, hall, rfl⟩
      obtain ⟨rfl, hi⟩ := rngD_get hx
      have hi2 : i + 1 < its.length := by omega
      obtain ⟨p, hp1, _⟩ := geti hi2
      obtain ⟨r, hr1, _⟩ := geti (show i < its.length by omega)
      rw [show (1 : Int) + (i : Nat) = ((i + 1 : Nat) : Int) by omega]
      have ixp : L2.atI (its.map itP) ((i + 1 : Nat) : Int) = some (.tup [.int p.1, tI p.2]) := by rw [atI_nat, List.getElem?_map, hp1]; rfl
      have ixr : L2.atI (its.map itP) (((i + 1 : Nat) : Int) - 1) = some (.tup [.int r.1, tI r.2]) := by rw [show ((i + 1 : Nat) : Int) - 1 = ((i : Nat) : Int) by omega, atI_nat, List.getElem?_map, hr1]; rfl
      walk_at "kd"
      rw [ixp]
      walk_at "kd"
      rw [ixr]
      walk_at "kd"
      have ho : ordB its (i + 1) = decide (p.1 ≤ r.1) := by
        unfold ordB
        rw [hp1, show i + 1 - 1 = i by omega, hr1, decide_eq_true (by omega : 1 ≤ i + 1)]
        rfl
      refine W_if' (fun hc => ?_) (fun hc => ?_)
      · walk_at "kd"
        have : dueP n its = errD "order" (i + 1) := by
          unfold dueP
          rw [fb_some hi2 (fun j hj => hall j hj) (ho.trans hc)]
        rw [this, errD_eq] at q
        exact q
      · walk_at "kd"
        exact ⟨_, more_false hall (ho.trans hc), rfl⟩
    · rintro m ⟨s2, hall, rfl⟩
      rw [rngD_len] at hall
      rw [joinQ_nx]
      exact ⟨_, fun j hj => hall j (by omega), rfl⟩
  rintro m1 ⟨s2, hord, rfl⟩
  have hdp : dueP n its = match fb its.length (goalB n its) with
    | some j => errD "goal" j
    | none => .non := by
    unfold dueP
    rw [fb_none hord]
    all_goals (cases fb its.length (goalB n its) <;> rfl)
  rw [hdp] at q
  refine W_step (fun m => m = ⟨[.val (.dct (worldK n)), .val (.tup (its.map itP)), s2, .ol ([].map tI), .val (.int (n : Nat)), .val (.lst ((lotsI n).map tI)), s6, s7], S⟩) ?_ ?_
  · walk_at "kd"
    rfl
  rintro m1 rfl
  refine W_step (fun m => ∃ s2 s3 s6, (∀ j, j < its.length → goalB n its j = false) ∧ m = ⟨[.val (.dct (worldK n)), .val (.tup (its.map itP)), s2, s3, .val (.int (n : Nat)), .val (.lst ((lotsI n).map tI)), s6, s7], S⟩) ?_ ?_
  · walk_at "kd"
    refine W_forL (fun i m => ∃ s2 s6, i ≤ its.length ∧ (∀ j, j < i → goalB n its j = false) ∧ m = ⟨[.val (.dct (worldK n)), .val (.tup (its.map itP)), s2, .ol (((its.take i).map fun p => endI n p.2).map tI), .val (.int (n : Nat)), .val (.lst ((lotsI n).map tI)), s6, s7], S⟩) ?_ ?_ ?_
    · exact ⟨_, _, Nat.zero_le _, fun j h => by omega, rfl⟩
    · rintro i x m hx ⟨s2, s6, hi0, hall, rfl⟩
      obtain ⟨y, hy, rfl⟩ := enumD_at hx
      rw [Nat.zero_add]
      rw [List.getElem?_map, Option.map_eq_some_iff] at hy
      obtain ⟨p, hp1, rfl⟩ := hy
      have hi := (List.getElem?_eq_some_iff.mp hp1).1
      have hpl := hlen p (List.mem_of_getElem? hp1)
      simp only [itP, itD]
      walk_at "kd"
      refine end_ok hD hpl (by omega) ?_
      walk_at "kd"
      have hg : goalB n its i = decide (endI n p.2 ∈ (its.take i).map fun p => endI n p.2) := by
        unfold goalB
        rw [hp1]
        rfl
      refine W_if' (fun hc => ?_) (fun hc => ?_)
      · walk_at "kd"
        rw [fb_some hi hall (hg.trans hc)] at q
        simp only [errD_eq] at q
        exact q
      · walk_at "kd"
        refine end_ok hD hpl (by omega) ?_
        walk_at "kd"
        rw [lAppend_one _ _ (by rw [List.length_map, List.length_map, List.length_take]; exact sz_lt (by rw [hil, List.length_map] at *; omega))]
        walk_at "kd"
        refine ⟨.val (.int (i : Nat)), .val (.tup [.int p.1, tI p.2]), by omega, more_false hall (hg.trans hc), ?_⟩
        rw [List.take_add_one, hp1]
        simp only [Option.toList, List.map_append, List.map_cons, List.map_nil]
    · rintro m ⟨s2, s6, hi0, hall, rfl⟩
      rw [enumD_size, List.length_map] at hall
      rw [joinQ_nx]
      exact ⟨_, _, _, hall, rfl⟩
  rintro m1 ⟨s2, s3, s6, hgoal, rfl⟩
  rw [fb_none hgoal] at q
  walk_at "kd"
  exact q
end Kd

namespace Kd
open PySem
theorem pys_app : ∀ {a b : List D} {x y : List PyData}, D.pys a = some x → D.pys b = some y → D.pys (a ++ b) = some (x ++ y)
  | [], b, x, y, h1, h2 => by
    simp only [D.pys] at h1
    cases h1
    exact h2
  | d :: a, b, x, y, h1, h2 => by
    simp only [D.pys] at h1
    cases e1 : d.py with
    | none => rw [e1] at h1; cases h1
    | some z =>
      cases e2 : D.pys a with
      | none => rw [e1, e2] at h1; cases h1
      | some w =>
        rw [e1, e2] at h1
        cases h1
        simp only [List.cons_append, D.pys, e1, pys_app e2 h2]
theorem pys_rev : ∀ {a : List D} {x : List PyData}, D.pys a = some x → D.pys a.reverse = some x.reverse
  | [], x, h => by
    simp only [D.pys] at h
    cases h
    simp only [List.reverse_nil, D.pys]
  | d :: a, x, h => by
    simp only [D.pys] at h
    cases e1 : d.py with
    | none => rw [e1] at h; cases h
    | some z =>
      cases e2 : D.pys a with
      | none => rw [e1, e2] at h; cases h
      | some w =>
        rw [e1, e2] at h
        cases h
        rw [List.reverse_cons, List.reverse_cons]
        exact pys_app (pys_rev e2) (by simp only [D.pys, e1])
theorem showableAll_eq : ∀ ys : List PyData, PyData.showableAll ys = ys.all PyData.showable
  | [] => by simp [PyData.showableAll]
  | y :: ys => by simp only [PyData.showableAll, List.all_cons, showableAll_eq ys]
theorem hasDictAll_eq : ∀ ys : List PyData, PyData.hasDictAll ys = ys.any PyData.hasDict
  | [] => by simp [PyData.hasDictAll]
  | y :: ys => by simp only [PyData.hasDictAll, List.any_cons, hasDictAll_eq ys]
theorem noLsts_eq : ∀ ys : List D, noLsts ys = ys.all noLst
  | [] => by simp [noLsts]
  | y :: ys => by simp only [noLsts, List.all_cons, noLsts_eq ys]
theorem shownAll_eq : ∀ ys : List PyData, PyData.shownAll ys = ys.map PyData.shown
  | [] => by simp [PyData.shownAll]
  | y :: ys => by simp only [PyData.shownAll, List.map_cons, shownAll_eq ys]
theorem depthAll_le : ∀ {ys : List PyData} {k : Nat}, PyData.depthAll ys ≤ k ↔ ∀ y ∈ ys, y.depth ≤ k
  | [], k => by simp [PyData.depthAll]
  | y :: ys, k => by
    simp only [PyData.depthAll, List.mem_cons, forall_eq_or_imp, ← depthAll_le (ys := ys)]
    omega
theorem piled_rev : ∀ ts : List Str, piled ts.reverse = piled ts
  | [] => rfl
  | t :: ts => by
    rw [List.reverse_cons, piled_append, piled_rev ts, piled_cons, piled_cons, piled_nil]
    omega
theorem rv_rev {b dp : Nat} {ls dc : Bool} {xs : List D} (h : Rv b dp ls dc (.tup xs)) : Rv (b + 3) dp ls dc (.tup xs.reverse) := by
  obtain ⟨y, h1, h2, h3, h4, h5, h6⟩ := h
  cases e : D.pys xs with
  | none =>
    simp only [D.py, e] at h1
    cases h1
  | some ys =>
    rw [py_tup e] at h1
    cases h1
    refine ⟨.tuple ys.reverse, py_tup (pys_rev e), ?_, ?_, ?_, fun z => ?_, fun z => ?_⟩
    · simp only [PyData.showable, showableAll_eq, List.all_reverse] at h2 ⊢
      exact h2
    · simp only [PyData.depth] at h3 ⊢
      have : PyData.depthAll ys.reverse ≤ PyData.depthAll ys := depthAll_le.mpr fun y hy => depthAll_le.mp (Nat.le_refl _) y (List.mem_reverse.mp hy)
      omega
    · simp only [PyData.shown] at h4 ⊢
      have a1 := tupleText_le (PyData.shownAll ys.reverse)
      have a2 := piled_le_tupleText (PyData.shownAll ys)
      have a3 : piled (PyData.shownAll ys.reverse) = piled (PyData.shownAll ys) := by
        rw [shownAll_eq, shownAll_eq, List.map_reverse, piled_rev]
      omega
    · have := h5 z
      simp only [noLst, noLsts_eq, List.all_reverse] at this ⊢
      exact this
    · have := h6 z
      simp only [PyData.hasDict, hasDictAll_eq, List.any_reverse] at this ⊢
      exact this
/-- how a value that holds nothing shared looks -/
theorem vw_any {d : D} (S : List Ob) (h : d.py.isSome = true) : ∃ w, vwD S d = some w ∧ w.D = d ∧ ∃ b, isTy .tuple w = some b ∧ (b = true → ∃ xs, d = .tup xs) := by
  cases d with
  | loc l => exact absurd h (by simp only [D.py]; simp)
  | tup xs => exact ⟨_, rfl, rfl, _, rfl, fun _ => ⟨xs, rfl⟩⟩
  | int v => exact ⟨_, rfl, rfl, _, rfl, fun e => by cases e⟩
  | bl b => exact ⟨_, rfl, rfl, _, rfl, fun e => by cases e⟩
  | str x => exact ⟨_, rfl, rfl, _, rfl, fun e => by cases e⟩
  | non => exact ⟨_, rfl, rfl, _, rfl, fun e => by cases e⟩
  | lst l => exact ⟨_, rfl, rfl, _, rfl, fun e => by cases e⟩
  | dct l => exact ⟨_, rfl, rfl, _, rfl, fun e => by cases e⟩
/-- what repr tells of a value -/
def shD (d : D) : Str := (d.py.getD .none).shown
/-- values that repr can tell, up to a length -/
def Vb (b : Nat) (d : D) : Prop := Rv b 20 true false d ∨ Rv b 20 false true d
theorem vb_py {b : Nat} {d : D} (h : Vb b d) : d.py.isSome = true := by
  rcases h with ⟨y, h1, _⟩ | ⟨y, h1, _⟩ <;> (rw [h1]; rfl)
theorem vb_repr {b : Nat} {d : D} {w : Vw} (h : Vb b d) (hb : b ≤ 1000000) (hw : w.D = d) : bRepr w = some (.v (.str (shD d))) := by
  rcases h with h | h
  · exact bRepr_rv h hw hb (by omega) (fun _ e => by cases e)
  · exact bRepr_rv h hw hb (by omega) (fun e _ => by cases e)
theorem vb_rev {b : Nat} {xs : List D} (h : Vb b (.tup xs)) : Vb (b + 3) (.tup xs.reverse) := by
  rcases h with h | h
  · exact .inl (rv_rev h)
  · exact .inr (rv_rev h)
theorem vb_mono {b b' : Nat} {d : D} (h : Vb b d) (hb : b ≤ b') : Vb b' d := by
  rcases h with h | h
  · exact .inl (h.mono hb (Nat.le_refl _) (fun h => h) (fun h => h))
  · exact .inr (h.mono hb (Nat.le_refl _) (fun h => h) (fun h => h))
end Kd

namespace Kd
open PySem
theorem cNe_ss (a : Str) : cNe (.d (.str a)) (.d (.str a)) = some false := by
  rw [cNe_s]
  simp
local macro_rules | `(tactic| walk_at "kd") => `(tactic| try simp -dsimp +decide only [W_ok, W_seq, seqQ_nx, seqQ_rt, seqQ_bk, seqQ_ct, W_asg, stQ_some, W_un, W_par2, W_exp, W_ret, rtQ_v, rtQ_nl, rtQ_nd, rtQ_slot, rtS_ol, rtS_od, W_retN, W_skip, W_brk, W_cnt, W_if, ifQ_t, ifQ_f, okQ_some, W_of, W_eC, W_eVar,
  vaQ_val, vaQ_ol, vaQ_od, W_eF, W_fz_v, W_fz_nl, W_fz_nd, W_fz, fzQ_val, fzQ_ol, fzQ_od, W_fzS_v, W_fzS_nl, W_fzS_nd, W_fzS_sl, W_list_nil, W_list_cons, W_tup, W_lst, W_e1, W_e2, W_t1, W_t2, W_t3, tfQ_t, tfQ_f, W_eB, boQ_bl, W_tE, W_tNot, W_and_nil, W_or_nil, W_and, W_or,
  W_eand1, W_eor1, W_eand, W_eor, W_eIf, W_tIf, W_optN, W_optS, inQ_i, W_slice, W_call, W_callK, W_share, shQ_nl, shQ_nd, W_rng1, W_rng2, W_seqI, W_enumI, W_zipI, W_lstI, W_for, turnQ_nx, turnQ_ct, turnQ_bk, turnQ_rt, W_mutL, W_mut, muQ_ol, W_mutO, muO_lst, W_mutD, mdQ_od, W_mutDO, mdO_dct, W_meth, W_set, setQ_eq, setV_l, setV_k,
  W_kvs_nil, W_kvs_cons, W_dct, W_dctZ, W_comp, vw_v, vw_nl, vw_nd, vw_sl, vwS_ol, vwS_od, vwD_int, vwD_str, vwD_bl, vwD_non, vwD_tup, vwD_lst, vwD_dct, vwD_loc, vwO_lst, vwO_dct, setSl_v, setSl_nl, setSl_nd, setSl_sl, slS_ol, slS_od, pat_n, pat_t, pat_tl, pats_nil, pats_cons,
  oAdd_i, oSub_i, oNeg_i, cLt_i, cLe_i, cGt_i, cGe_i, bLen_l, bLen_t, bLen_k, bTuple_l, bTuple_t, bList_l, bList_t, bInt_i, oIx_l, oIx_t, oIx_k, kvO_some, kk_int, kk_str, isTy_int, isTy_tup, isTy_bl, isTy_str, isTy_non, isTy_l, isTy_k, vwDD, frozen_t, frozen_l, bind_some', map_some', map_none', start1, start2, start3, start4,
  retQ_rt, retQ_nx, get0, getS, set0, setS, List.replicate, List.length_cons, List.length_nil, Nat.reduceAdd, Nat.reduceSub, Nat.reduceMul, Nat.reduceLeDiff, isL_l, isK_k, Option.bind_some, if_true, if_false, ite_true, ite_false, Bool.not_true, Bool.not_false, true_and, and_true, Option.map_some, Option.map_none, reduceIte, reduceCtorEq, decide_true, decide_false, vwLD, vwKD, sz0, sz1, sz2, sz3, sz4, sz5, sz6, sz7, sz8, sz9, sz10, joinQ_nx, joinQ_rt, joinQ_bk, joinQ_ct, reel_deep, reel_cells, reel_stamp, reel_count, reel_set, cEq_i, cNe_i, cNe_b, cEq_tI, cNe_tI, cIn_t, cIn_l, cNotIn_t, cNotIn_l, List.length_map, oMul_r, oMul_l, oMod_i, oFdiv_i, oPow_i, lAppend_one, rgQ_i, rgQ2_i, W_forL_nil, W_forL_cons, wipeM_mk, wipeS_nil, wipeS_cons, backS_nil, backS_cons, keptS_un, keptS_val, keptS_ol, keptS_od, oCut_l, oCut_t, Int.toNat_natCast, forall_const, imp_self, cNe_ss, atI_pos, Int.reduceToNat, bSorted_ints, bMin_ints, bMax_ints, cut_map, w_n, w_lots, w_spots, kk_tI, rng_0, rng_1, rng_2, rng_3, rng_4, rng_5, rng_6, rng_7, rng_8, rng_9, rng_10, rng_11, rng_12, rng_13, rng_14, rng_15, rng_16, rng_32, rng_64])
def b_law38 (c_law_reel : Nat) (c_law_world : Nat) (c_law_draw : Nat) (c_law_product : Nat) (c_law_turned : Nat) (c_law_loose : Nat) (c_law_part : Nat) (c_law_spoilt : Nat) (c_part_error : Nat) (c_law_due : Nat) : DS :=
  (sSeq [(sAsg 1 (eCall c_law_reel none [(eVar 0)])),
  (sSeq [(sAsg 2 (eCall c_law_world none [(eIf (t2 cEq (eCall c_law_draw none [(eVar 1), (eC (.int 8))]) (eC (.int 0))) (eC (.int 6)) (eC (.int 5)))])),
  (sSeq [(sAsg 3 (e2 oIx (eVar 2) (eC (.str "n")))),
  (sSeq [(sFor (.n 4) (iRng1 (eC (.int 10))) (sSeq [(sAsg 5 (eCall c_law_product none [(eVar 1), (eVar 2), (eLstI (iRng1 (e2 oSub (eVar 3) (eC (.int 1))))), (eCall c_law_draw none [(eVar 1), (eC (.int 3))])])), (sSeq [(sAsg 5 (eIf (t2 cEq (eCall c_law_draw none [(eVar 1), (eC (.int 3))]) (eC (.int 0))) (eCall c_law_turned none [(eVar 1), (eVar 2), (eVar 5)]) (eVar 5))), (sSeq [(sAsg 6 (eIf (t2 cEq (eCall c_law_draw none [(eVar 1), (eC (.int 3))]) (eC (.int 0))) (eCall c_law_loose none [(eVar 1), (eVar 2)]) (eCall c_law_part none [(eVar 1), (eVar 2), (eVar 5)]))), (sSeq [(sAsg 7 (eIf (t2 cLt (eVar 4) (eC (.int 2))) (eVar 6) (eCall c_law_spoilt none [(eVar 1), (eVar 2), (eVar 6)]))), (sSeq [(sIf (tAnd [(t2 cGt (eVar 4) (eC (.int 6))), (tE (eB (t1 (isTy .tuple) (eVar 7))))]) (sAsg 7 (eIf (t2 cEq (eCall c_law_draw none [(eVar 1), (eC (.int 2))]) (eC (.int 0))) (eCall c_law_spoilt none [(eVar 1), (eVar 2), (eSlice oCut (eVar 6) none (some (eC (.int 4))))]) (e1 oRev (eVar 7)))) sSkip), (sSeq [(sAsg 8 (e1 bRepr (eVar 7))), (sSeq [(sAsg 9 (eIf (t2 cEq (e2 oMod (eVar 4) (eC (.int 3))) (eC (.int 1))) (eCall c_part_error (some [1, 0]) [(eVar 7), (eVar 3)]) (eCall c_part_error none [(eVar 3), (eVar 7)]))), (sSeq [(sIf (tOr [(t2 cNe (e1 bRepr (eVar 9)) (e1 bRepr (eCall c_law_due none [(eVar 2), (eVar 7)]))), (t2 cNe (e1 bRepr (eVar 7)) (eVar 8))]) (sRet (eC (.bl false))) sSkip), (sIf (t2 cNe (e1 bRepr (eCall c_part_error none [(eVar 3), (eVar 7)])) (e1 bRepr (eVar 9))) (sRet (eC (.bl false))) sSkip)])])])])])])])])),
  (sRet (eC (.bl true)))])])])])

theorem fb_lt {L j : Nat} {p : Nat → Bool} (h : fb L p = some j) : j < L := by
  unfold fb at h
  exact List.mem_range.mp (List.mem_of_find?_eq_some h)
theorem vb_err {w : Str} {j : Nat} (hw : (PyData.shown (.str w)).length ≤ 20) (hj : j ≤ 64) : Vb 1000 (errD w j) := by
  refine .inl ((rv_tup (b := 20) (dp := 0) (ls := false) (dc := false) (fmC (rv_str hw) (fmC ((rv_int (by omega) (by omega)).mono (by omega) (by omega) (fun h => h) (fun h => h)) fmN))).mono ?_ (by omega) (fun _ => rfl) (fun h => h))
  simp
theorem vb_due {n : Nat} {d : D} (h : L65 d) : Vb 1000 (dueD n d) := by
  unfold dueD
  split
  · rename_i xs
    have hl := h xs rfl
    split
    · rename_i j hj
      exact vb_err (by decide +kernel) (by have := fb_lt hj; omega)
    · split
      · rename_i j hj
        exact vb_err (by decide +kernel) (by have := fb_lt hj; omega)
      · unfold dueP
        split
        · rename_i j hj
          have := fb_lt hj
          rw [List.length_map] at this
          exact vb_err (by decide +kernel) (by omega)
        · split
          · rename_i j hj
            have := fb_lt hj
            rw [List.length_map] at this
            exact vb_err (by decide +kernel) (by omega)
          · exact .inl (rv_non.mono (by omega) (by omega) (fun _ => rfl) (fun h => h))
  · exact .inl ((rv_str (b := 20) (by decide +kernel)).mono (by omega) (by omega) (fun _ => rfl) (fun h => h))
theorem world_ok {P : List Cd} {wf k i n : Nat} {S : List Ob} {Q : Op → List Ob → Prop} (h : P[i]? = some ⟨b_law_world, 1, 7⟩) (hn : Six n) (q : Q (.nd (worldK n)) S) : WC (ctK P wf (k + 1) i [.int (n : Nat)] S) Q := by
  refine WC_ct h rfl ?_
  rcases hn with rfl | rfl
  · exact (world_run5 _ S Q).mpr q
  · exact (world_run6 _ S Q).mpr q
structure At38 (P : List Cd) (i iRe iW iD iPr iT iLo iPa iSp iPe iDu iM iP iE iS iDd iDt iTh iN iLe iOd iNu iIn iAl iL iIe iG : Nat) : Prop where
  law : P[i]? = some ⟨b_law38 iRe iW iD iPr iT iLo iPa iSp iPe iDu, 1, 10⟩
  re : P[iRe]? = some ⟨b_law_reel, 1, 5⟩
  wo : P[iW]? = some ⟨b_law_world, 1, 7⟩
  dr : P[iD]? = some ⟨b_law_draw, 2, 8⟩
  pi : P[iP]? = some ⟨b_law_pick iD, 2, 2⟩
  mi : P[iM]? = some ⟨b_law_mixed iD, 2, 4⟩
  en : P[iE]? = some ⟨b_law_end, 1, 2⟩
  st : P[iS]? = some ⟨b_law_stay, 2, 3⟩
  dd : P[iDd]? = some ⟨b_law_deed iM, 3, 4⟩
  dt : P[iDt]? = some ⟨b_law_deed_table iS, 2, 11⟩
  th : P[iTh]? = some ⟨b_law_then iE, 3, 7⟩
  pr : P[iPr]? = some ⟨b_law_product iS iTh iDt iDd iP, 4, 7⟩
  tu : P[iT]? = some ⟨b_law_turned iD iM, 3, 17⟩
  ne : P[iN]? = some ⟨b_law_entry iM, 4, 6⟩
  pa : P[iPa]? = some ⟨b_law_part iD iM iP, 3, 11⟩
  lo : P[iLo]? = some ⟨b_law_loose iM iD iN, 2, 8⟩
  le : P[iLe]? = some ⟨b_law_is_entry, 3, 6⟩
  du : P[iDu]? = some ⟨b_law_due iLe iE, 2, 8⟩
  od : P[iOd]? = some ⟨b_law_odd_item iD iP, 3, 9⟩
  sp : P[iSp]? = some ⟨b_law_spoilt iD iP iOd iM iE iN, 3, 13⟩
  inn : P[iIn]? = some ⟨b_is_integer, 1, 1⟩
  nu : P[iNu]? = some ⟨b_is_numbered iIn, 2, 2⟩
  al : P[iAl]? = some ⟨b_all_lots iL, 1, 3⟩
  lf : P[iL]? = some ⟨b_lots_of, 2, 8⟩
  ie : P[iIe]? = some ⟨b_is_entry iG, 3, 5⟩
  go : P[iG]? = some ⟨b_goal, 2, 3⟩
  pe : P[iPe]? = some ⟨b_part_error iNu iAl iIe iG, 2, 8⟩
theorem law38_ok {P : List Cd} {wf k i iRe iW iD iPr iT iLo iPa iSp iPe iDu iM iP iE iS iDd iDt iTh iN iLe iOd iNu iIn iAl iL iIe iG : Nat} {ns : List Int} (A : At38 P i iRe iW iD iPr iT iLo iPa iSp iPe iDu iM iP iE iS iDd iDt iTh iN iLe iOd iNu iIn iAl iL iIe iG)
    (hwf : 100 < wf) (hl : ns.length ≤ 63) : WC (ctK P wf (k + 5) i [.lst (ns.map .int)] []) (fun o _ => o = .v (.bl true)) := by
  refine WC_ct A.law rfl ?_
  unfold b_law38
  refine W_step (fun m => ∃ S', RW S' ∧ m = ⟨[.val (.lst (ns.map .int)), .val (.loc 1), .un, .un, .un, .un, .un, .un, .un, .un], S'⟩) ?_ ?_
  · walk_at "kd"
    refine reel_ok A.re hl fun S' hR => ?_
    walk_at "kd"
    exact ⟨S', hR, rfl⟩
  rintro m1 ⟨S1, hR1, rfl⟩
  refine W_step (fun m => ∃ n S', Six n ∧ RW S' ∧ m = ⟨[.val (.lst (ns.map .int)), .val (.loc 1), .od (worldK n), .un, .un, .un, .un, .un, .un, .un], S'⟩) ?_ ?_
  · walk_at "kd"
    refine draw_ok A.dr hR1 (by omega) (by omega) fun z S2 z1 z2 hR2 => ?_
    walk_at "kd"
    refine W_tf (fun _ => ?_) (fun _ => ?_)
    · walk_at "kd"
      refine world_ok (n := 6) A.wo (.inr rfl) ?_
      walk_at "kd"
      exact ⟨6, S2, .inr rfl, hR2, rfl⟩
    · walk_at "kd"
      refine world_ok (n := 5) A.wo (.inl rfl) ?_
      walk_at "kd"
      exact ⟨5, S2, .inl rfl, hR2, rfl⟩
  rintro m1 ⟨n, S2, hn, hR2, rfl⟩
  have hn6 := six_le hn
  have hn5 := six_ge hn
  refine W_step (fun m => m = ⟨[.val (.lst (ns.map .int)), .val (.loc 1), .od (worldK n), .val (.int (n : Nat)), .un, .un, .un, .un, .un, .un], S2⟩) ?_ ?_
  · walk_at "kd"
  rintro m1 rfl
  refine W_step (fun _ => True) ?_ ?_
  · walk_at "kd"
    refine W_forL (fun _ m => ∃ S' s2 s4 s5 s6 s7 s8 s9, (s2 = .od (worldK n) ∨ s2 = .val (.dct (worldK n))) ∧ RW S' ∧ m = ⟨[.val (.lst (ns.map .int)), .val (.loc 1), s2, .val (.int (n : Nat)), s4, s5, s6, s7, s8, s9], S'⟩) ?_ ?_ ?_
    · exact ⟨S2, _, _, _, _, _, _, _, .inl rfl, hR2, rfl⟩
    · rintro i x m hx ⟨S', s2, s4, s5, s6, s7, s8, s9, hs2, hR', rfl⟩
      obtain ⟨rfl, hi⟩ := rngD_get hx
      rw [pat_n, stQ_some]
      simp only [setS, set0]
      generalize (0 : Int) + (i : Nat) = t
      refine W_step (fun m => ∃ (ts : List (List Int)) (S' : List Ob), Tab n ts ∧ RW S' ∧ m = ⟨[.val (.lst (ns.map .int)), .val (.loc 1), .val (.dct (worldK n)), .val (.int (n : Nat)), .val (.int t), .val (tT ts), s6, s7, s8, s9], S'⟩) ?_ ?_
      · rcases hs2 with rfl | rfl
        · walk_at "kd"
          rw [show ((n : Nat) : Int) - 1 = ((n - 1 : Nat) : Int) by omega]
          refine W_rgI (by omega) ?_
          rw [if_pos (by rw [List.length_map, rgI_len]; exact sz_le (by omega))]
          walk_at "kd"
          refine draw_ok A.dr hR' (by omega) (by omega) fun z S3 z1 z2 hR3 => ?_
          obtain ⟨zn, rfl⟩ : ∃ zn : Nat, z = zn := ⟨z.toNat, by omega⟩
          walk_at "kd"
          refine product_ok A.pr A.st A.th A.en A.dt A.dd A.mi A.dr A.pi hwf hn hR3 (by rw [rgI_len]; omega) (by rw [rgI_len]; omega) (by omega) fun ts S4 T hR4 => ?_
          walk_at "kd"
          exact ⟨ts, S4, T, hR4, rfl⟩
        · walk_at "kd"
          rw [show ((n : Nat) : Int) - 1 = ((n - 1 : Nat) : Int) by omega]
          refine W_rgI (by omega) ?_
          rw [if_pos (by rw [List.length_map, rgI_len]; exact sz_le (by omega))]
          walk_at "kd"
          refine draw_ok A.dr hR' (by omega) (by omega) fun z S3 z1 z2 hR3 => ?_
          obtain ⟨zn, rfl⟩ : ∃ zn : Nat, z = zn := ⟨z.toNat, by omega⟩
          walk_at "kd"
          refine product_ok A.pr A.st A.th A.en A.dt A.dd A.mi A.dr A.pi hwf hn hR3 (by rw [rgI_len]; omega) (by rw [rgI_len]; omega) (by omega) fun ts S4 T hR4 => ?_
          walk_at "kd"
          exact ⟨ts, S4, T, hR4, rfl⟩
      rintro m1 ⟨ts, S3, T, hR3, rfl⟩
      refine W_step (fun m => ∃ (ts : List (List Int)) (S' : List Ob), Tab n ts ∧ RW S' ∧ m = ⟨[.val (.lst (ns.map .int)), .val (.loc 1), .val (.dct (worldK n)), .val (.int (n : Nat)), .val (.int t), .val (tT ts), s6, s7, s8, s9], S'⟩) ?_ ?_
      · walk_at "kd"
        refine draw_ok A.dr hR3 (by omega) (by omega) fun z S4 z1 z2 hR4 => ?_
        walk_at "kd"
        refine W_tf (fun _ => ?_) (fun _ => ?_)
        · walk_at "kd"
          refine turned_ok A.tu A.mi A.dr hwf hn hR4 T fun us S5 U hR5 => ?_
          walk_at "kd"
          exact ⟨us, S5, U, hR5, rfl⟩
        · walk_at "kd"
          exact ⟨ts, S4, T, hR4, rfl⟩
      rintro m1 ⟨us, S4, U, hR4, rfl⟩
      refine W_step (fun m => ∃ (its : List (Int × List Int)) (S' : List Ob), (∀ p ∈ its, GoodIt n p) ∧ its.length ≤ 64 ∧ RW S' ∧ m = ⟨[.val (.lst (ns.map .int)), .val (.loc 1), .val (.dct (worldK n)), .val (.int (n : Nat)), .val (.int t), .val (tT us), .val (.tup (its.map itP)), s7, s8, s9], S'⟩) ?_ ?_
      · walk_at "kd"
        refine draw_ok A.dr hR4 (by omega) (by omega) fun z S5 z1 z2 hR5 => ?_
        walk_at "kd"
        refine W_tf (fun _ => ?_) (fun _ => ?_)
        · walk_at "kd"
          refine loose_ok A.lo A.mi A.dr A.ne hwf hn hR5 fun its S6 hg hil hR6 => ?_
          walk_at "kd"
          exact ⟨its, S6, hg, hil, hR6, rfl⟩
        · walk_at "kd"
          refine part_ok A.pa A.mi A.dr A.pi hwf hn hR5 U fun ks S6 hk1 hk2 hR6 => ?_
          walk_at "kd"
          refine ⟨ks.map fun k => (k, (us[k.toNat]?).getD []), S6, fun p hp => ?_, ?_, hR6, by rw [List.map_map]; rfl⟩
          · rw [List.mem_map] at hp
            obtain ⟨kk, hkk, rfl⟩ := hp
            have := hk2 kk hkk
            have h3 : kk.toNat < us.length := by rw [U.len]; omega
            obtain ⟨lot, hlot, E⟩ := tab_get U (List.getElem?_eq_getElem h3)
            refine ⟨this.1, lot, hlot, ?_⟩
            show Ent n lot ((us[kk.toNat]?).getD [])
            rw [List.getElem?_eq_getElem h3]
            exact E
          · rw [List.length_map]
            have hnd : ks.Nodup := hk1.imp fun h e => by omega
            have := sub_len hnd (m := rgI (lotsI n).length) fun x hx => rgI_mem.mpr (hk2 x hx)
            rw [rgI_len] at this
            have := six_lots hn
            omega
      rintro m1 ⟨its, S5, hg, hil, hR5, rfl⟩
      refine W_step (fun m => ∃ v S', Vb 300000 v ∧ L65 v ∧ RW S' ∧ m = ⟨[.val (.lst (ns.map .int)), .val (.loc 1), .val (.dct (worldK n)), .val (.int (n : Nat)), .val (.int t), .val (tT us), .val (.tup (its.map itP)), .val v, s8, s9], S'⟩) ?_ ?_
      · walk_at "kd"
        refine W_tf (fun _ => ?_) (fun _ => ?_)
        · walk_at "kd"
          exact ⟨_, S5, valv (rv_tup (rv_its hn hg)) (by rw [List.length_map]; omega) (by omega), fun xs e => by cases e; rw [List.length_map]; omega, hR5, rfl⟩
        · walk_at "kd"
          refine spoilt_ok A.sp A.dr A.pi A.od A.mi A.en A.ne hwf hn hR5 hg hil fun d S6 h1 h2 hR6 => ?_
          walk_at "kd"
          exact ⟨d, S6, h1, h2, hR6, rfl⟩
      rintro m1 ⟨v, S6, hv, hv65, hR6, rfl⟩
      refine W_step (fun m => ∃ v S', Vb 300003 v ∧ L65 v ∧ RW S' ∧ m = ⟨[.val (.lst (ns.map .int)), .val (.loc 1), .val (.dct (worldK n)), .val (.int (n : Nat)), .val (.int t), .val (tT us), .val (.tup (its.map itP)), .val v, s8, s9], S'⟩) ?_ ?_
      · obtain ⟨w, hw, hwD, b, hb, hbt⟩ := vw_any S6 (vb_py hv)
        walk_at "kd"
        refine W_tf (fun _ => ?_) (fun _ => ?_)
        · walk_at "kd"
          rw [hw]
          walk_at "kd"
          rw [hb]
          walk_at "kd"
          cases b with
          | false =>
            walk_at "kd"
            exact ⟨v, S6, vb_mono hv (by omega), hv65, hR6, rfl⟩
          | true =>
            obtain ⟨xs, rfl⟩ := hbt rfl
            walk_at "kd"
            refine draw_ok A.dr hR6 (by omega) (by omega) fun z S7 z1 z2 hR7 => ?_
            walk_at "kd"
            refine W_tf (fun _ => ?_) (fun _ => ?_)
            · walk_at "kd"
              have hcl := cut_len its none (some 4)
              refine spoilt_ok A.sp A.dr A.pi A.od A.mi A.en A.ne hwf hn hR7 (its := cutD its none (some 4)) (fun p hp => hg p (cut_sub hp)) (by omega) fun d S8 h1 h2 hR8 => ?_
              walk_at "kd"
              exact ⟨d, S8, vb_mono h1 (by omega), h2, hR8, rfl⟩
            · walk_at "kd"
              rw [oRev_t]
              walk_at "kd"
              exact ⟨_, S7, vb_rev hv, fun ys e => by cases e; rw [List.length_reverse]; exact hv65 xs rfl, hR7, rfl⟩
        · walk_at "kd"
          exact ⟨v, S6, vb_mono hv (by omega), hv65, hR6, rfl⟩
      rintro m1 ⟨v, S7, hv, hv65, hR7, rfl⟩
      have ht := vb_due (n := n) hv65
      have hvp := vb_py hv
      have hvz : ∀ xs, v = .tup xs → xs.length ≤ 1000000 := fun xs e => by have := hv65 xs e; omega
      obtain ⟨w, hw, hwD, _⟩ := vw_any S7 hvp
      have rv := vb_repr hv (by omega) hwD
      obtain ⟨u, hu, huD, _⟩ := vw_any S7 (vb_py ht)
      have rt := vb_repr ht (by omega) huD
      refine W_step (fun m => m = ⟨[.val (.lst (ns.map .int)), .val (.loc 1), .val (.dct (worldK n)), .val (.int (n : Nat)), .val (.int t), .val (tT us), .val (.tup (its.map itP)), .val v, .val (.str (shD v)), s9], S7⟩) ?_ ?_
      · walk_at "kd"
        rw [hw]
        walk_at "kd"
        rw [rv]
        walk_at "kd"
      rintro m1 rfl
      refine W_step (fun m => m = ⟨[.val (.lst (ns.map .int)), .val (.loc 1), .val (.dct (worldK n)), .val (.int (n : Nat)), .val (.int t), .val (tT us), .val (.tup (its.map itP)), .val v, .val (.str (shD v)), .val (dueD n v)], S7⟩) ?_ ?_
      · walk_at "kd"
        refine W_tf (fun _ => ?_) (fun _ => ?_)
        · walk_at "kd"
          refine part_error_ok A.pe A.nu A.inn A.al A.lf A.ie A.go hn hvp hvz ?_
          walk_at "kd"
          rfl
        · walk_at "kd"
          refine part_error_ok A.pe A.nu A.inn A.al A.lf A.ie A.go hn hvp hvz ?_
          walk_at "kd"
      rintro m1 rfl
      refine W_step (fun m => m = ⟨[.val (.lst (ns.map .int)), .val (.loc 1), .val (.dct (worldK n)), .val (.int (n : Nat)), .val (.int t), .val (tT us), .val (.tup (its.map itP)), .val v, .val (.str (shD v)), .val (dueD n v)], S7⟩) ?_ ?_
      · walk_at "kd"
        rw [hu]
        walk_at "kd"
        rw [rt]
        walk_at "kd"
        refine due_ok A.du A.le A.en hn hvp hvz ?_
        walk_at "kd"
        rw [hu]
        walk_at "kd"
        rw [rt]
        walk_at "kd"
        rw [hw]
        walk_at "kd"
        rw [rv]
        walk_at "kd"
      rintro m1 rfl
      walk_at "kd"
      refine part_error_ok A.pe A.nu A.inn A.al A.lf A.ie A.go hn hvp hvz ?_
      walk_at "kd"
      rw [hu]
      walk_at "kd"
      rw [rt]
      walk_at "kd"
      rw [hu]
      walk_at "kd"
      rw [rt]
      walk_at "kd"
      exact ⟨S7, _, _, _, _, _, _, _, .inr rfl, hR7, rfl⟩
    · rintro m _
      rw [joinQ_nx]
      trivial
  rintro m1 _
  walk_at "kd"
end Kd

namespace Kd
open PySem PySem.Spec PyProof.Rows L2

inductive Lab where
  | fz | lc (l : Nat) | sl (i : Nat) | out
  deriving DecidableEq
abbrev Lb := Addr → Option Lab

def kk1 : KK → Option Key
  | .i z => some (.inl z)
  | .s x => some (.inr x)
  | _ => none
def kks1 : List KK → Option (List Key)
  | [] => some []
  | k :: r => match kk1 k, kks1 r with
    | some a, some b => some (a :: b)
    | _, _ => none
def kkT : KK → Option (List Key)
  | .t xs => kks1 xs
  | _ => none

mutual
/-- d stands as the value v -/
inductive Rp (K : PySem.W.Frag) (c : Lb) (H : Hp) : D → V → Prop
  | non : Rp K c H .non .non
  | bl (b : Bool) : Rp K c H (.bl b) (.bl b)
  | int (i : Int) : Rp K c H (.int i) (.int i)
  | str (x : Str) : Rp K c H (.str x) (.str x)
  | tup {a : Addr} {xs : List V} {ds : List D} : H a = some (.tup xs) → Rps K c H ds xs → Rp K c H (.tup ds) (.ref a)
  | lst {a : Addr} {xs : List V} {ds : List D} : c a = some .fz → SqL K H a xs → Rps K c H ds xs → Rp K c H (.lst ds) (.ref a)
  | dctK {a : Addr} {kvs : Kvs} {kv : List (Key × V)} : c a = some .fz → H a = some (.dK kv) → RKs K c H kvs kv → Rp K c H (.dct kvs) (.ref a)
  | dctT {a : Addr} {kvs : Kvs} {kv : List (List Key × V)} : c a = some .fz → H a = some (.dT kv) → RTs K c H kvs kv → Rp K c H (.dct kvs) (.ref a)
  | loc {a : Addr} {l : Nat} : c a = some (.lc l) → Rp K c H (.loc l) (.ref a)
inductive Rps (K : PySem.W.Frag) (c : Lb) (H : Hp) : List D → List V → Prop
  | nil : Rps K c H [] []
  | cons {d : D} {ds : List D} {x : V} {xs : List V} : Rp K c H d x → Rps K c H ds xs → Rps K c H (d :: ds) (x :: xs)
inductive RKs (K : PySem.W.Frag) (c : Lb) (H : Hp) : Kvs → List (Key × V) → Prop
  | nil : RKs K c H [] []
  | cons {k : KK} {j : Key} {d : D} {x : V} {r : Kvs} {s : List (Key × V)} : kk1 k = some j → Rp K c H d x → RKs K c H r s → RKs K c H ((k, d) :: r) ((j, x) :: s)
inductive RTs (K : PySem.W.Frag) (c : Lb) (H : Hp) : Kvs → List (List Key × V) → Prop
  | nil : RTs K c H [] []
  | cons {k : KK} {j : List Key} {d : D} {x : V} {r : Kvs} {s : List (List Key × V)} : kkT k = some j → Rp K c H d x → RTs K c H r s → RTs K c H ((k, d) :: r) ((j, x) :: s)
end

/-- what stands for good stays -/
structure Fw (c : Lb) (H : Hp) (c' : Lb) (H' : Hp) : Prop where
  fz : ∀ a, c a = some .fz → c' a = some .fz ∧ H' a = H a
  lc : ∀ a l, c a = some (.lc l) → c' a = some (.lc l)
  tup : ∀ a xs, H a = some (.tup xs) → H' a = some (.tup xs)
  frz : ∀ a o u, H a = some (.frz o u) → H' a = some (.frz o u)
/-- .. and so does what others hold -/
structure Fr (c : Lb) (H : Hp) (c' : Lb) (H' : Hp) : Prop extends Fw c H c' H' where
  out : ∀ a, c a = some .out → c' a = some .out ∧ H' a = H a
theorem Fw.refl (c : Lb) (H : Hp) : Fw c H c H := ⟨fun _ h => ⟨h, rfl⟩, fun _ _ h => h, fun _ _ h => h, fun _ _ _ h => h⟩
theorem Fw.trans {c c1 c2 : Lb} {H H1 H2 : Hp} (p : Fw c H c1 H1) (q : Fw c1 H1 c2 H2) : Fw c H c2 H2 where
  fz := fun a h => ⟨(q.fz a (p.fz a h).1).1, (q.fz a (p.fz a h).1).2.trans (p.fz a h).2⟩
  lc := fun a l h => q.lc a l (p.lc a l h)
  tup := fun a xs h => q.tup a xs (p.tup a xs h)
  frz := fun a o u h => q.frz a o u (p.frz a o u h)
theorem Fr.refl (c : Lb) (H : Hp) : Fr c H c H := ⟨Fw.refl c H, fun _ h => ⟨h, rfl⟩⟩
theorem Fr.trans {c c1 c2 : Lb} {H H1 H2 : Hp} (p : Fr c H c1 H1) (q : Fr c1 H1 c2 H2) : Fr c H c2 H2 where
  toFw := p.toFw.trans q.toFw
  out := fun a h => ⟨(q.out a (p.out a h).1).1, (q.out a (p.out a h).1).2.trans (p.out a h).2⟩

section
variable {K : PySem.W.Frag} {c c' : Lb} {H H' : Hp}
theorem Fw.sqT (f : Fw c H c' H') {a : Addr} {xs : List V} (h : SqT K H a xs) : SqT K H' a xs := by
  rcases h with (h | ⟨o, h⟩) | h
  · exact .inl (.inl (f.tup _ _ h))
  · exact .inl (.inr ⟨o, f.frz _ _ _ h⟩)
  · exact .inr h
theorem Fw.rdL (f : Fw c H c' H') {a : Addr} {xs : List V} (hc : c a = some .fz) (h : SqL K H a xs) : SqL K H' a xs := by
  rcases h with (h | ⟨o, h⟩) | h
  · exact .inl (.inl ((f.fz a hc).2.trans h))
  · exact .inl (.inr ⟨o, f.frz _ _ _ h⟩)
  · exact .inr h
mutual
theorem Rp.mono (f : Fw c H c' H') : ∀ {d : D} {x : V}, Rp K c H d x → Rp K c' H' d x
  | _, _, .non => .non
  | _, _, .bl b => .bl b
  | _, _, .int i => .int i
  | _, _, .str x => .str x
  | _, _, .tup h r => .tup (f.tup _ _ h) (Rps.mono f r)
  | _, _, .lst hc h r => .lst (f.fz _ hc).1 (f.rdL hc h) (Rps.mono f r)
  | _, _, .dctK hc h r => .dctK (f.fz _ hc).1 ((f.fz _ hc).2.trans h) (RKs.mono f r)
  | _, _, .dctT hc h r => .dctT (f.fz _ hc).1 ((f.fz _ hc).2.trans h) (RTs.mono f r)
  | _, _, .loc h => .loc (f.lc _ _ h)
theorem Rps.mono (f : Fw c H c' H') : ∀ {ds : List D} {xs : List V}, Rps K c H ds xs → Rps K c' H' ds xs
  | _, _, .nil => .nil
  | _, _, .cons h r => .cons (Rp.mono f h) (Rps.mono f r)
theorem RKs.mono (f : Fw c H c' H') : ∀ {ds : Kvs} {xs : List (Key × V)}, RKs K c H ds xs → RKs K c' H' ds xs
  | _, _, .nil => .nil
  | _, _, .cons k h r => .cons k (Rp.mono f h) (RKs.mono f r)
theorem RTs.mono (f : Fw c H c' H') : ∀ {ds : Kvs} {xs : List (List Key × V)}, RTs K c H ds xs → RTs K c' H' ds xs
  | _, _, .nil => .nil
  | _, _, .cons k h r => .cons k (Rp.mono f h) (RTs.mono f r)
end
theorem Rps.length : ∀ {ds : List D} {xs : List V}, Rps K c H ds xs → ds.length = xs.length
  | _, _, .nil => rfl
  | _, _, .cons _ r => by rw [List.length_cons, List.length_cons, Rps.length r]
theorem Rps.get : ∀ {ds : List D} {xs : List V} {i : Nat} {d : D}, Rps K c H ds xs → ds[i]? = some d → ∃ x, xs[i]? = some x ∧ Rp K c H d x
  | _, _, _, _, .nil, h => by simp at h
  | _, _, 0, _, .cons p _, h => by
    have e := Option.some.inj h
    subst e
    exact ⟨_, rfl, p⟩
  | _, _, i + 1, _, .cons _ r, h => by
    obtain ⟨x, h1, h2⟩ := Rps.get (i := i) r (by simpa using h)
    exact ⟨x, by simpa using h1, h2⟩
theorem Rps.append : ∀ {ds es : List D} {xs ys : List V}, Rps K c H ds xs → Rps K c H es ys → Rps K c H (ds ++ es) (xs ++ ys)
  | _, _, _, _, .nil, q => q
  | _, _, _, _, .cons p r, q => .cons p (Rps.append r q)
theorem Rps.take : ∀ {ds : List D} {xs : List V} (n : Nat), Rps K c H ds xs → Rps K c H (ds.take n) (xs.take n)
  | _, _, 0, _ => .nil
  | _, _, _ + 1, .nil => .nil
  | _, _, n + 1, .cons p r => .cons p (Rps.take n r)
theorem Rps.drop : ∀ {ds : List D} {xs : List V} (n : Nat), Rps K c H ds xs → Rps K c H (ds.drop n) (xs.drop n)
  | _, _, 0, r => r
  | _, _, _ + 1, .nil => .nil
  | _, _, n + 1, .cons _ r => Rps.drop n r
theorem Rps.rev {ds : List D} {xs : List V} (h : Rps K c H ds xs) : Rps K c H ds.reverse xs.reverse := by
  induction ds generalizing xs with
  | nil => cases h; exact .nil
  | cons d r ih =>
    cases h with
    | cons p q =>
      rw [List.reverse_cons, List.reverse_cons]
      exact (ih q).append (.cons p .nil)
theorem Rps.set {d : D} {x : V} (p : Rp K c H d x) : ∀ {ds : List D} {xs : List V} (i : Nat), Rps K c H ds xs → Rps K c H (ds.set i d) (xs.set i x)
  | _, _, _, .nil => .nil
  | _, _, 0, .cons _ r => .cons p r
  | _, _, i + 1, .cons q r => .cons q (Rps.set p i r)
theorem Rps.erase : ∀ {ds : List D} {xs : List V} (i : Nat), Rps K c H ds xs → Rps K c H (ds.eraseIdx i) (xs.eraseIdx i)
  | _, _, _, .nil => .nil
  | _, _, 0, .cons _ r => r
  | _, _, i + 1, .cons q r => .cons q (Rps.erase i r)
theorem Rps.dropLast {ds : List D} {xs : List V} (h : Rps K c H ds xs) : Rps K c H ds.dropLast xs.dropLast := by
  rw [List.dropLast_eq_take, List.dropLast_eq_take, ← h.length]
  exact h.take _
theorem Rps.cut {ds : List D} {xs : List V} (h : Rps K c H ds xs) (lo hi : Option Int) : Rps K c H (cutD ds lo hi) (cutV xs lo hi) := by
  unfold cutD cutV
  rw [h.length]
  exact (h.drop _).take _
theorem Rps.ints : ∀ (ns : List Int), Rps K c H (ns.map .int) (ns.map V.int)
  | [] => .nil
  | n :: r => .cons (.int n) (Rps.ints r)
theorem rps_asInts : ∀ {ds : List D} {xs : List V} {ns : List Int}, Rps K c H ds xs → asInts ds = some ns → xs = ns.map V.int
  | _, _, _, .nil, h => by
    have e := Option.some.inj h
    subst e
    rfl
  | d :: ds, _, ns, .cons p r, h => by
    unfold asInts at h
    cases e1 : asInt d with
    | none => rw [e1] at h; cases h
    | some i =>
      cases e2 : asInts ds with
      | none => rw [e1, e2] at h; cases h
      | some is =>
        rw [e1, e2] at h
        have e := Option.some.inj h
        subst e
        have q := rps_asInts r e2
        subst q
        cases p <;> simp only [asInt] at e1 <;> first | cases e1 | skip
        all_goals first | rfl | (injection e1 with e1; subst e1; rfl)

mutual
theorem Rp.dp : ∀ (d : D) (x : V) (y : PyData), Rp K c H d x → d.py = some y → (y.canLay0 = true) → Dp K H x y
  | .non, _, y, .non, h, _ => by simp only [D.py] at h; cases h; exact .non
  | .bl b, _, y, .bl _, h, _ => by simp only [D.py] at h; cases h; exact .bl b
  | .int i, _, y, .int _, h, _ => by simp only [D.py] at h; cases h; exact .int i
  | .str x, _, y, .str _, h, _ => by simp only [D.py] at h; cases h; exact .str x
  | .tup ds, _, y, .tup q r, h, cl => by
    simp only [D.py, Option.map_eq_some_iff] at h
    obtain ⟨zs, h1, h2⟩ := h
    subst h2
    exact .tup (SqT.of q) (Rps.dp ds _ zs r h1 (by simpa only [PyData.canLay0] using cl))
  | .lst ds, _, y, .lst _ q r, h, cl => by
    simp only [D.py, Option.map_eq_some_iff] at h
    obtain ⟨zs, h1, h2⟩ := h
    subst h2
    exact .lst q (Rps.dp ds _ zs r h1 (by simpa only [PyData.canLay0] using cl))
  | .dct ds, _, y, .dctK _ _ _, h, cl => by
    simp only [D.py, Option.map_eq_some_iff] at h
    obtain ⟨zs, h1, h2⟩ := h
    subst h2
    simp [PyData.canLay0] at cl
  | .dct ds, _, y, .dctT _ _ _, h, cl => by
    simp only [D.py, Option.map_eq_some_iff] at h
    obtain ⟨zs, h1, h2⟩ := h
    subst h2
    simp [PyData.canLay0] at cl
  | .loc l, _, y, .loc _, h, _ => by simp [D.py] at h
theorem Rps.dp : ∀ (ds : List D) (xs : List V) (ys : List PyData), Rps K c H ds xs → D.pys ds = some ys → (PyData.canLayAll0 ys = true) → DpAll K H xs ys
  | [], _, ys, .nil, h, _ => by simp only [D.pys] at h; cases h; exact .nil
  | d :: ds, _, ys, .cons p r, h, cl => by
    simp only [D.pys] at h
    cases e1 : d.py with
    | none => rw [e1] at h; cases h
    | some a =>
      cases e2 : D.pys ds with
      | none => rw [e1, e2] at h; cases h
      | some b =>
        rw [e1, e2] at h
        cases h
        have cl' : a.canLay0 = true ∧ PyData.canLayAll0 b = true := by simpa [PyData.canLayAll0] using cl
        exact .cons (Rp.dp d _ a p e1 cl'.1) (Rps.dp ds _ b r e2 cl'.2)
end
end
end Kd

namespace Kd
open PySem PySem.Spec PyProof.Rows L2

/-- a dict stands at a -/
def DR (K : PySem.W.Frag) (c : Lb) (H : Hp) (kvs : Kvs) (a : Addr) : Prop :=
  (∃ kv, H a = some (.dK kv) ∧ RKs K c H kvs kv) ∨ ∃ kv, H a = some (.dT kv) ∧ RTs K c H kvs kv
def LR (K : PySem.W.Frag) (c : Lb) (H : Hp) (ds : List D) (a : Addr) : Prop := ∃ xs, H a = some (.lst xs) ∧ Rps K c H ds xs
def SlOk (K : PySem.W.Frag) (c : Lb) (H : Hp) (i : Nat) (s : Sl) (o : Option (Option V)) : Prop :=
  match s with
  | .un => True
  | .val d => ∃ x, o = some (some x) ∧ Rp K c H d x
  | .ol ds => ∃ a, o = some (some (.ref a)) ∧ c a = some (.sl i) ∧ LR K c H ds a
  | .od kvs => ∃ a, o = some (some (.ref a)) ∧ c a = some (.sl i) ∧ DR K c H kvs a
def ObR (K : PySem.W.Frag) (c : Lb) (H : Hp) (o : Ob) (a : Addr) : Prop :=
  match o with
  | .lst ds => LR K c H ds a
  | .dct kvs => DR K c H kvs a
  | .ins _ _ => False
structure Rel (K : PySem.W.Frag) (c : Lb) (m : M) (σ : L2.St) (H : Hp) : Prop where
  sl : ∀ i s, m.r[i]? = some s → SlOk K c H i s σ[i]?
  ob : ∀ l o, m.S[l]? = some o → ∃ a, c a = some (.lc l) ∧ ObR K c H o a
  uq : ∀ a b l, c a = some (.lc l) → c b = some (.lc l) → a = b
  lt : ∀ a l, c a = some (.lc l) → l < m.S.length
  lv : ∀ a, c a ≠ none → H a ≠ none
  len : m.r.length = σ.length
def RpO (K : PySem.W.Frag) (c : Lb) (H : Hp) (σ : L2.St) : Op → V → Prop
  | .v d, x => Rp K c H d x
  | .nl ds, x => ∃ a, x = .ref a ∧ c a = some .out ∧ LR K c H ds a
  | .nd kvs, x => ∃ a, x = .ref a ∧ c a = some .out ∧ DR K c H kvs a
  | .sl i, x => σ[i]? = some (some x)
def OwnA : Op → V → Addr → Prop
  | .nl _, x, a => x = .ref a
  | .nd _, x, a => x = .ref a
  | _, _, _ => False
section
variable {K : PySem.W.Frag} {c c' c'' : Lb} {H H' H'' : Hp}
theorem DR.mono (f : Fw c H c' H') {kvs : Kvs} {a : Addr} (e : H' a = H a) (h : DR K c H kvs a) : DR K c' H' kvs a := by
  rcases h with ⟨kv, h1, h2⟩ | ⟨kv, h1, h2⟩
  · exact .inl ⟨kv, e.trans h1, h2.mono f⟩
  · exact .inr ⟨kv, e.trans h1, h2.mono f⟩
theorem LR.mono (f : Fw c H c' H') {ds : List D} {a : Addr} (e : H' a = H a) (h : LR K c H ds a) : LR K c' H' ds a := by
  obtain ⟨xs, h1, h2⟩ := h
  exact ⟨xs, e.trans h1, h2.mono f⟩
theorem RpO.mono (f : Fr c H c' H') {σ : L2.St} : ∀ {o : Op} {x : V}, RpO K c H σ o x → RpO K c' H' σ o x
  | .v _, _, h => Rp.mono f.toFw h
  | .nl _, _, ⟨a, e, h1, h2⟩ => ⟨a, e, (f.out a h1).1, h2.mono f.toFw (f.out a h1).2⟩
  | .nd _, _, ⟨a, e, h1, h2⟩ => ⟨a, e, (f.out a h1).1, h2.mono f.toFw (f.out a h1).2⟩
  | .sl _, _, h => h

/-- what is wanted of a result, from a state on -/
def Good {α : Type} (K : PySem.W.Frag) (c : Lb) (H : Hp) (σ : L2.St) (N : α → Lb → Hp → Prop) : R α → Prop
  | .ok a m' => ∀ c' H', Fr c H c' H' → Rel K c' m' σ H' → N a c' H'
  | .ex _ _ _ => False
  | .no => False
theorem Good.mono {α : Type} {σ : L2.St} {N : α → Lb → Hp → Prop} (f : Fr c H c' H') : ∀ {r : R α}, Good K c H σ N r → Good K c' H' σ N r
  | .ok _ _, h => fun c2 H2 f2 rel => h c2 H2 (f.trans f2) rel
  | .ex _ _ _, h => h
  | .no, h => h
theorem Good.imp {α : Type} {σ : L2.St} {N N' : α → Lb → Hp → Prop} (k : ∀ a c' H', Fr c H c' H' → N a c' H' → N' a c' H') : ∀ {r : R α}, Good K c H σ N r → Good K c H σ N' r
  | .ok _ _, h => fun c2 H2 f2 rel => k _ _ _ f2 (h c2 H2 f2 rel)
  | .ex _ _ _, h => h
  | .no, h => h
theorem Good.bind {α β : Type} {σ : L2.St} {N : β → Lb → Hp → Prop} {N' : α → Lb → Hp → Prop} {f : α → M → R β} : ∀ {r : R α}, Good K c H σ N (r.bind f) →
    (∀ a m' c' H', r = .ok a m' → Fr c H c' H' → Rel K c' m' σ H' → Good K c H σ N (f a m') → N' a c' H') → Good K c H σ N' r
  | .ok a m', h, k => fun c2 H2 f2 rel => k a m' c2 H2 rfl f2 rel h
  | .ex _ _ _, h, _ => h
  | .no, h, _ => h
/-- a value has come -/
def NE (K : PySem.W.Frag) (c : Lb) (σ : L2.St) (Q : VK) : Op → Lb → Hp → Prop := fun o c' H' => ∀ x, RpO K c' H' σ o x → (∀ a, OwnA o x a → c a ≠ some .out) → Q x H'
def ND (K : PySem.W.Frag) (Q : VK) : D → Lb → Hp → Prop := fun d c' H' => ∀ x, Rp K c' H' d x → Q x H'
def NL (K : PySem.W.Frag) (Q : List V → Hp → Prop) : List D → Lb → Hp → Prop := fun ds c' H' => ∀ xs, Rps K c' H' ds xs → Q xs H'
def NB (Q : Bool → Hp → Prop) : Bool → Lb → Hp → Prop := fun b _ H' => Q b H'
/-- an expression's reading, a test's, an argument list's -/
def TD (K : PySem.W.Frag) (nv : Nv) (d : DE) : TE := fun σ H Q => ∃ c m, Rel K c m σ H ∧ Good K c H σ (NE K c σ Q) (d nv m)
def TF (K : PySem.W.Frag) (nv : Nv) (d : Nv → M → R D) : TE := fun σ H Q => ∃ c m, Rel K c m σ H ∧ Good K c H σ (ND K Q) (d nv m)
def TB (K : PySem.W.Frag) (nv : Nv) (t : DT) : TT := fun σ H Q => ∃ c m, Rel K c m σ H ∧ Good K c H σ (NB Q) (t nv m)
def TL (K : PySem.W.Frag) (nv : Nv) (t : DL) : TA := fun σ H Q => ∃ c m, Rel K c m σ H ∧ Good K c H σ (NL K Q) (t nv m)

/-- from a state on -/
theorem NE.mono {σ : L2.St} {Q : VK} (f : Fr c H c' H') {o : Op} {c2 : Lb} {H2 : Hp} (h : NE K c σ Q o c2 H2) : NE K c' σ Q o c2 H2 := fun x r k => h x r fun a w e => k a w (f.out a e).1
theorem GoodE.mono {σ : L2.St} {Q : VK} (f : Fr c H c' H') {r : R Op} (h : Good K c H σ (NE K c σ Q) r) : Good K c' H' σ (NE K c' σ Q) r := (Good.mono f h).imp fun _ _ _ _ q => q.mono f
theorem PE.conv {X : Cx} {e : Expr} {t t' : TE} (h : PE X e t) (k : ∀ σ H Q, t' σ H Q → t σ H Q) : PE X e t' := ⟨fun pins s σ H Q I w => h.run pins s σ H Q I (k σ H Q w)⟩
theorem PT.conv {X : Cx} {e : Expr} {t t' : TT} (h : PT X e t) (k : ∀ σ H Q, t' σ H Q → t σ H Q) : PT X e t' := ⟨fun pins s σ H Q I w => h.run pins s σ H Q I (k σ H Q w)⟩
theorem PA.conv {X : Cx} {e : List Expr} {t t' : TA} (h : PA X e t) (k : ∀ σ H Q, t' σ H Q → t σ H Q) : PA X e t' := ⟨fun pos pins s σ H Q I w => h.run pos pins s σ H Q I (k σ H Q w)⟩
theorem PS.conv {X : Cx} {e : Stmt} {t t' : TS} (h : PS X e t) (k : ∀ D σ H, t' D σ H → t D σ H) : PS X e t' := ⟨fun pins s σ H D I w => h.run pins s σ H D I (k D σ H w)⟩
theorem PSs.conv {X : Cx} {e : List Stmt} {t t' : TS} (h : PSs X e t) (k : ∀ D σ H, t' D σ H → t D σ H) : PSs X e t' := ⟨fun pins s σ H D I w => h.run pins s σ H D I (k D σ H w)⟩

/-! ### labels change -/
def rlb (c : Lb) (a : Addr) (l : Lab) : Lb := fun b => if b = a then some l else c b
theorem rlb_same {c : Lb} {a : Addr} {l : Lab} : rlb c a l a = some l := if_pos rfl
theorem rlb_ne {c : Lb} {a b : Addr} {l : Lab} (h : b ≠ a) : rlb c a l b = c b := if_neg h
/-- .. which harms nothing that stands for good -/
theorem Fw.relab {a : Addr} {l : Lab} (h1 : ∀ l, c a ≠ some (.lc l)) (h2 : c a ≠ some .fz) : Fw c H (rlb c a l) H := by
  refine ⟨fun b h => ⟨?_, rfl⟩, fun b l h => ?_, fun _ _ h => h, fun _ _ _ h => h⟩
  · rw [rlb_ne (fun e => by subst e; exact h2 h)]; exact h
  · rw [rlb_ne (fun e => by subst e; exact h1 l h)]; exact h
theorem Fw.freeze {a : Addr} (h1 : ∀ l, c a ≠ some (.lc l)) : Fw c H (rlb c a .fz) H := by
  refine ⟨fun b h => ⟨?_, rfl⟩, fun b l h => ?_, fun _ _ h => h, fun _ _ _ h => h⟩
  · by_cases e : b = a
    · rw [e, rlb_same]
    · rw [rlb_ne e]; exact h
  · rw [rlb_ne (fun e => by subst e; exact h1 l h)]; exact h
/-- from c on, over c1: a is no one's of c -/
theorem Fr.relab {c1 : Lb} {H1 : Hp} {a : Addr} {l : Lab} (f : Fr c H c1 H1) (h1 : ∀ l, c1 a ≠ some (.lc l)) (h2 : c1 a ≠ some .fz) (h3 : c a ≠ some .out) : Fr c H (rlb c1 a l) H1 where
  toFw := f.toFw.trans (Fw.relab h1 h2)
  out := fun b h => ⟨by rw [rlb_ne (fun e => by subst e; exact h3 h)]; exact (f.out b h).1, (f.out b h).2⟩
end
end Kd

namespace Kd
open PySem PySem.Spec PyProof.Rows L2
section
variable {K : PySem.W.Frag} {c c1 c2 : Lb} {H H1 H2 : Hp} {m m' : M} {σ : L2.St}

theorem Rel.free (r : Rel K c m σ H) {p : Addr} (h : H p = none) : c p = none := by
  cases e : c p with
  | none => rfl
  | some l => exact absurd h (r.lv p (by rw [e]; simp))
theorem SlOk.mono {i : Nat} {s : Sl} {o : Option (Option V)} (f : Fw c H c1 H1) (k : ∀ a, c a = some (.sl i) → o = some (some (.ref a)) → c1 a = some (.sl i) ∧ H1 a = H a) (h : SlOk K c H i s o) : SlOk K c1 H1 i s o := by
  cases s with
  | un => trivial
  | val d => obtain ⟨x, e, r⟩ := h; exact ⟨x, e, r.mono f⟩
  | ol ds =>
    obtain ⟨a, e, h1, h2⟩ := h
    obtain ⟨k1, k2⟩ := k a h1 e
    exact ⟨a, e, k1, h2.mono f k2⟩
  | od ds =>
    obtain ⟨a, e, h1, h2⟩ := h
    obtain ⟨k1, k2⟩ := k a h1 e
    exact ⟨a, e, k1, h2.mono f k2⟩
theorem ObR.mono {o : Ob} {a : Addr} (f : Fw c H c1 H1) (e : H1 a = H a) (h : ObR K c H o a) : ObR K c1 H1 o a := by
  cases o with
  | lst ds => exact LR.mono f e h
  | dct ds => exact DR.mono f e h
  | ins _ _ => exact h
/-- the state as it is, the labels and the heap changed where nothing of the state hangs -/
theorem Rel.step (r : Rel K c m σ H) (f : Fw c H c1 H1) (ks : ∀ a i, c a = some (.sl i) → c1 a = some (.sl i) ∧ H1 a = H a) (kl : ∀ a l, c a = some (.lc l) → H1 a = H a)
    (ku : ∀ a l, c1 a = some (.lc l) → c a = some (.lc l)) (kv : ∀ a, c1 a ≠ none → H1 a ≠ none) : Rel K c1 m σ H1 where
  sl := fun i s e => (r.sl i s e).mono f fun a h _ => ks a i h
  ob := fun l o e => by
    obtain ⟨a, h1, h2⟩ := r.ob l o e
    exact ⟨a, f.lc a l h1, h2.mono f (kl a l h1)⟩
  uq := fun a b l h1 h2 => r.uq a b l (ku a l h1) (ku b l h2)
  lt := fun a l h => r.lt a l (ku a l h)
  lv := kv
  len := r.len
/-- a label of nobody's object is changed -/
theorem Rel.relab (r : Rel K c m σ H) {a : Addr} {l : Lab} (h1 : ∀ l, c a ≠ some (.lc l)) (h2 : ∀ i, c a ≠ some (.sl i)) (h3 : c a ≠ some .fz ∨ l = .fz) (h4 : H a ≠ none) (hl : ∀ j, l ≠ .lc j) : Rel K (rlb c a l) m σ H := by
  have f : Fw c H (rlb c a l) H := by
    rcases h3 with h3 | h3
    · exact Fw.relab h1 h3
    · subst h3; exact Fw.freeze h1
  refine r.step f (fun b i e => ⟨by rw [rlb_ne (fun z => by subst z; exact h2 i e)]; exact e, rfl⟩) (fun _ _ _ => rfl) (fun b j e => ?_) (fun b e => ?_)
  · by_cases z : b = a
    · subst z; rw [rlb_same] at e; exact absurd (Option.some.inj e) (hl j)
    · rw [rlb_ne z] at e; exact e
  · by_cases z : b = a
    · subst z; exact h4
    · rw [rlb_ne z] at e; exact r.lv b e
theorem set_get {α : Type} {l : List α} {i j : Nat} {x y : α} (h : (l.set i x)[j]? = some y) : (j = i ∧ y = x) ∨ (j ≠ i ∧ l[j]? = some y) := by
  by_cases e : j = i
  · subst e
    rw [List.getElem?_set] at h
    simp only [if_true] at h
    split at h
    · exact .inl ⟨rfl, (Option.some.inj h).symm⟩
    · cases h
  · rw [List.getElem?_set_ne (Ne.symm e)] at h
    exact .inr ⟨e, h⟩
/-- a slot gets a value -/
theorem Rel.put (r : Rel K c m σ H) {i : Nat} {s : Sl} {x : V} (h : SlOk K c H i s (some (some x))) : Rel K c { m with r := m.r.set i s } (σ.set i (some x)) H where
  sl := fun j s' e => by
    have hl : (m.r.set i s).length = m.r.length := List.length_set ..
    rcases set_get e with ⟨rfl, rfl⟩ | ⟨ne, e⟩
    · have hj : j < m.r.length := by rw [← hl]; exact (List.getElem?_eq_some_iff.mp e).1
      rw [List.getElem?_set_self (by rw [← r.len]; exact hj)]
      exact h
    · rw [List.getElem?_set_ne (Ne.symm ne)]
      exact r.sl j s' e
  ob := r.ob
  uq := r.uq
  lt := r.lt
  lv := r.lv
  len := by show (m.r.set i s).length = _; rw [List.length_set, List.length_set]; exact r.len
/-- a slot's knowledge changes, its value does not -/
theorem Rel.know (r : Rel K c m σ H) {i : Nat} {s : Sl} (h : SlOk K c H i s σ[i]?) : Rel K c { m with r := m.r.set i s } σ H where
  sl := fun j s' e => by
    rcases set_get e with ⟨rfl, rfl⟩ | ⟨_, e⟩
    · exact h
    · exact r.sl j s' e
  ob := r.ob
  uq := r.uq
  lt := r.lt
  lv := r.lv
  len := by show (m.r.set i s).length = _; rw [List.length_set]; exact r.len
/-- a slot's own list, dict is given up -/
theorem Rel.give (r : Rel K c m σ H) {i : Nat} {d : D} {a : Addr} (h1 : c a = some (.sl i)) (h2 : σ[i]? = some (some (.ref a))) (h3 : H a ≠ none) (hd : Rp K (rlb c a .fz) H d (.ref a)) :
    Rel K (rlb c a .fz) { m with r := m.r.set i (.val d) } σ H := by
  have f : Fw c H (rlb c a .fz) H := Fw.freeze fun l => by rw [h1]; simp
  refine ⟨fun j s e => ?_, fun l o e => ?_, fun b b' l e1 e2 => ?_, fun b l e => ?_, fun b e => ?_, ?_⟩
  · rcases set_get e with ⟨rfl, rfl⟩ | ⟨ne, e⟩
    · exact ⟨_, h2, hd⟩
    · refine (r.sl j s e).mono f fun b hb _ => ⟨?_, rfl⟩
      rw [rlb_ne (fun z => by subst z; rw [h1] at hb; exact ne (by injection hb with q; injection q with q; exact q.symm))]
      exact hb
  · obtain ⟨b, e1, e2⟩ := r.ob l o e
    exact ⟨b, f.lc b l e1, e2.mono f rfl⟩
  · refine r.uq b b' l ?_ ?_
    · by_cases z : b = a
      · subst z; rw [rlb_same] at e1; cases e1
      · rw [rlb_ne z] at e1; exact e1
    · by_cases z : b' = a
      · subst z; rw [rlb_same] at e2; cases e2
      · rw [rlb_ne z] at e2; exact e2
  · by_cases z : b = a
    · subst z; rw [rlb_same] at e; cases e
    · rw [rlb_ne z] at e; exact r.lt b l e
  · by_cases z : b = a
    · subst z; exact h3
    · rw [rlb_ne z] at e; exact r.lv b e
  · show (m.r.set i _).length = _; rw [List.length_set]; exact r.len
theorem LR.ne {ds : List D} {a : Addr} (h : LR K c H ds a) : H a ≠ none := by
  obtain ⟨xs, e, _⟩ := h; rw [e]; simp
theorem DR.ne {ds : Kvs} {a : Addr} (h : DR K c H ds a) : H a ≠ none := by
  rcases h with ⟨xs, e, _⟩ | ⟨xs, e, _⟩ <;> rw [e] <;> simp
theorem LR.rp {ds : List D} {a : Addr} (h : LR K c H ds a) (hc : c a = some .fz) : Rp K c H (.lst ds) (.ref a) := by
  obtain ⟨xs, e, r⟩ := h; exact .lst hc (SqL.of e) r
theorem DR.rp {ds : Kvs} {a : Addr} (h : DR K c H ds a) (hc : c a = some .fz) : Rp K c H (.dct ds) (.ref a) := by
  rcases h with ⟨xs, e, r⟩ | ⟨xs, e, r⟩
  · exact .dctK hc e r
  · exact .dctT hc e r

/-- a value is given up -/
theorem fz_ok {o : Op} {x : V} {d : D} (f : Fr c H c1 H1) (rel : Rel K c1 m σ H1) (r : RpO K c1 H1 σ o x) (w : ∀ a, OwnA o x a → c a ≠ some .out) (h : fz o m = .ok d m') :
    ∃ c2, Fr c H c2 H1 ∧ Rel K c2 m' σ H1 ∧ Rp K c2 H1 d x := by
  cases o with
  | v d' => cases h; exact ⟨c1, f, rel, r⟩
  | nl ds =>
    cases h
    obtain ⟨a, rfl, ha, hr⟩ := r
    have n1 : ∀ l, c1 a ≠ some (.lc l) := fun l => by rw [ha]; simp
    have f2 : Fw c1 H1 (rlb c1 a .fz) H1 := Fw.freeze n1
    exact ⟨rlb c1 a .fz, Fr.relab f n1 (by rw [ha]; simp) (w a rfl), rel.relab n1 (fun i => by rw [ha]; simp) (.inr rfl) hr.ne (fun _ => by simp), (hr.mono f2 rfl).rp rlb_same⟩
  | nd ds =>
    cases h
    obtain ⟨a, rfl, ha, hr⟩ := r
    have n1 : ∀ l, c1 a ≠ some (.lc l) := fun l => by rw [ha]; simp
    have f2 : Fw c1 H1 (rlb c1 a .fz) H1 := Fw.freeze n1
    exact ⟨rlb c1 a .fz, Fr.relab f n1 (by rw [ha]; simp) (w a rfl), rel.relab n1 (fun i => by rw [ha]; simp) (.inr rfl) hr.ne (fun _ => by simp), (hr.mono f2 rfl).rp rlb_same⟩
  | sl i =>
    have hx : σ[i]? = some (some x) := r
    unfold fz at h
    simp only at h
    split at h
    · rename_i d' e
      cases h
      obtain ⟨y, e1, q⟩ := rel.sl i _ e
      rw [hx] at e1; cases e1
      exact ⟨c1, f, rel, q⟩
    · rename_i ds e
      cases h
      obtain ⟨a, e1, ha, hr⟩ := rel.sl i _ e
      rw [hx] at e1; cases e1
      have n1 : ∀ l, c1 a ≠ some (.lc l) := fun l => by rw [ha]; simp
      have f2 : Fw c1 H1 (rlb c1 a .fz) H1 := Fw.freeze n1
      have q := (hr.mono f2 rfl).rp rlb_same
      refine ⟨rlb c1 a .fz, Fr.relab f n1 (by rw [ha]; simp) (fun z => by rw [(f.out a z).1] at ha; cases ha), rel.give ha hx hr.ne q, q⟩
    · rename_i ds e
      cases h
      obtain ⟨a, e1, ha, hr⟩ := rel.sl i _ e
      rw [hx] at e1; cases e1
      have n1 : ∀ l, c1 a ≠ some (.lc l) := fun l => by rw [ha]; simp
      have f2 : Fw c1 H1 (rlb c1 a .fz) H1 := Fw.freeze n1
      have q := (hr.mono f2 rfl).rp rlb_same
      refine ⟨rlb c1 a .fz, Fr.relab f n1 (by rw [ha]; simp) (fun z => by rw [(f.out a z).1] at ha; cases ha), rel.give ha hx hr.ne q, q⟩
    · cases h
/-- a value is stored at a slot -/
theorem setSl_ok {o : Op} {x : V} {i : Nat} (f : Fr c H c1 H1) (rel : Rel K c1 m σ H1) (r : RpO K c1 H1 σ o x) (w : ∀ a, OwnA o x a → c a ≠ some .out) (h : setSl i o m = some m') :
    ∃ c2, Fr c H c2 H1 ∧ Rel K c2 m' (σ.set i (some x)) H1 := by
  cases o with
  | v d => cases h; exact ⟨c1, f, rel.put ⟨x, rfl, r⟩⟩
  | nl ds =>
    cases h
    obtain ⟨a, rfl, ha, hr⟩ := r
    have n1 : ∀ l, c1 a ≠ some (.lc l) := fun l => by rw [ha]; simp
    have n2 : c1 a ≠ some .fz := by rw [ha]; simp
    have f2 : Fw c1 H1 (rlb c1 a (.sl i)) H1 := Fw.relab n1 n2
    exact ⟨rlb c1 a (.sl i), Fr.relab f n1 n2 (w a rfl), (rel.relab n1 (fun i => by rw [ha]; simp) (.inl n2) hr.ne (fun _ => by simp)).put ⟨a, rfl, rlb_same, hr.mono f2 rfl⟩⟩
  | nd ds =>
    cases h
    obtain ⟨a, rfl, ha, hr⟩ := r
    have n1 : ∀ l, c1 a ≠ some (.lc l) := fun l => by rw [ha]; simp
    have n2 : c1 a ≠ some .fz := by rw [ha]; simp
    have f2 : Fw c1 H1 (rlb c1 a (.sl i)) H1 := Fw.relab n1 n2
    exact ⟨rlb c1 a (.sl i), Fr.relab f n1 n2 (w a rfl), (rel.relab n1 (fun i => by rw [ha]; simp) (.inl n2) hr.ne (fun _ => by simp)).put ⟨a, rfl, rlb_same, hr.mono f2 rfl⟩⟩
  | sl j =>
    have hx : σ[j]? = some (some x) := r
    unfold setSl at h
    by_cases hj : j = i
    · subst hj
      simp only [if_true] at h
      cases h
      have e : σ.set j (some x) = σ := by
        apply List.ext_getElem?
        intro k
        by_cases hk : k = j
        · subst hk
          rw [List.getElem?_set_self (List.getElem?_eq_some_iff.mp hx).1, hx]
        · rw [List.getElem?_set_ne (Ne.symm hk)]
      rw [e]
      exact ⟨c1, f, rel⟩
    · simp only [if_neg hj] at h
      split at h
      · rename_i d e
        cases h
        obtain ⟨y, e1, q⟩ := rel.sl j _ e
        rw [hx] at e1; cases e1
        exact ⟨c1, f, rel.put ⟨x, rfl, q⟩⟩
      · rename_i ds e
        cases h
        obtain ⟨a, e1, ha, hr⟩ := rel.sl j _ e
        rw [hx] at e1; cases e1
        have n1 : ∀ l, c1 a ≠ some (.lc l) := fun l => by rw [ha]; simp
        have f2 : Fw c1 H1 (rlb c1 a .fz) H1 := Fw.freeze n1
        have q := (hr.mono f2 rfl).rp rlb_same
        refine ⟨rlb c1 a .fz, Fr.relab f n1 (by rw [ha]; simp) (fun z => by rw [(f.out a z).1] at ha; cases ha), ?_⟩
        exact (rel.give ha hx hr.ne q).put (i := i) (s := .val (.lst ds)) ⟨_, rfl, q⟩
      · rename_i ds e
        cases h
        obtain ⟨a, e1, ha, hr⟩ := rel.sl j _ e
        rw [hx] at e1; cases e1
        have n1 : ∀ l, c1 a ≠ some (.lc l) := fun l => by rw [ha]; simp
        have f2 : Fw c1 H1 (rlb c1 a .fz) H1 := Fw.freeze n1
        have q := (hr.mono f2 rfl).rp rlb_same
        refine ⟨rlb c1 a .fz, Fr.relab f n1 (by rw [ha]; simp) (fun z => by rw [(f.out a z).1] at ha; cases ha), ?_⟩
        exact (rel.give ha hx hr.ne q).put (i := i) (s := .val (.dct ds)) ⟨_, rfl, q⟩
      · cases h

/-! ### new objects -/
theorem Fr.new {p : Addr} {o : HO} {l : Lab} (hc : c p = none) (hp : H p = none) : Fr c H (rlb c p l) (upd H p o) := by
  have ne : ∀ b z, c b = some z → b ≠ p := fun b z e q => by subst q; rw [hc] at e; cases e
  have ne2 : ∀ b z, H b = some z → b ≠ p := fun b z e q => by subst q; rw [hp] at e; cases e
  refine ⟨⟨fun b e => ?_, fun b l e => ?_, fun b xs e => ?_, fun b o u e => ?_⟩, fun b e => ?_⟩
  · rw [rlb_ne (ne b _ e), upd_ne (ne b _ e)]; exact ⟨e, rfl⟩
  · rw [rlb_ne (ne b _ e)]; exact e
  · rw [upd_ne (ne2 b _ e)]; exact e
  · rw [upd_ne (ne2 b _ e)]; exact e
  · rw [rlb_ne (ne b _ e), upd_ne (ne b _ e)]; exact ⟨e, rfl⟩
theorem Fr.newT {p : Addr} {o : HO} (hc : c p = none) (hp : H p = none) : Fr c H c (upd H p o) := by
  have ne : ∀ b z, c b = some z → b ≠ p := fun b z e q => by subst q; rw [hc] at e; cases e
  have ne2 : ∀ b z, H b = some z → b ≠ p := fun b z e q => by subst q; rw [hp] at e; cases e
  exact ⟨⟨fun b e => ⟨e, upd_ne (ne b _ e)⟩, fun b l e => e, fun b xs e => by rw [upd_ne (ne2 b _ e)]; exact e, fun b o u e => by rw [upd_ne (ne2 b _ e)]; exact e⟩, fun b e => ⟨e, upd_ne (ne b _ e)⟩⟩
/-- an object of nobody's yet: out's, or given up -/
theorem Rel.new (r : Rel K c m σ H) {p : Addr} {o : HO} {l : Lab} (hp : H p = none) (hl : ∀ j, l ≠ .lc j) : Rel K (rlb c p l) m σ (upd H p o) := by
  have hc := r.free hp
  have ne : ∀ b z, c b = some z → b ≠ p := fun b z e q => by subst q; rw [hc] at e; cases e
  refine r.step (Fr.new hc hp).toFw (fun b i e => ?_) (fun b l e => upd_ne (ne b _ e)) (fun b j e => ?_) (fun b e => ?_)
  · rw [rlb_ne (ne b _ e), upd_ne (ne b _ e)]; exact ⟨e, rfl⟩
  · by_cases z : b = p
    · subst z; rw [rlb_same] at e; exact absurd (Option.some.inj e) (hl j)
    · rw [rlb_ne z] at e; exact e
  · by_cases z : b = p
    · subst z; rw [upd_same]; simp
    · rw [rlb_ne z] at e; rw [upd_ne z]; exact r.lv b e
/-- a tuple, or an object that nobody asks for -/
theorem Rel.newT (r : Rel K c m σ H) {p : Addr} {o : HO} (hp : H p = none) : Rel K c m σ (upd H p o) := by
  have hc := r.free hp
  have ne : ∀ b z, c b = some z → b ≠ p := fun b z e q => by subst q; rw [hc] at e; cases e
  refine r.step (Fr.newT hc hp).toFw (fun b i e => ⟨e, upd_ne (ne b _ e)⟩) (fun b l e => upd_ne (ne b _ e)) (fun b j e => e) (fun b e => ?_)
  by_cases z : b = p
  · subst z; rw [upd_same]; simp
  · rw [upd_ne z]; exact r.lv b e

/-! ### writing -/
/-- the object at a, which is no one's for good, is written -/
theorem Fr.write {a : Addr} {o o' : HO} (h1 : c a ≠ some .fz) (h2 : c a ≠ some .out) (e : H a = some o) (n1 : ∀ xs, o ≠ .tup xs) (n2 : ∀ ob u, o ≠ .frz ob u) : Fr c H c (upd H a o') := by
  refine ⟨⟨fun b h => ⟨h, upd_ne fun z => by subst z; exact h1 h⟩, fun b l h => h, fun b xs h => ?_, fun b ob u h => ?_⟩, fun b h => ⟨h, upd_ne fun z => by subst z; exact h2 h⟩⟩
  · rw [upd_ne fun z => by subst z; rw [e] at h; exact n1 xs (Option.some.inj h)]; exact h
  · rw [upd_ne fun z => by subst z; rw [e] at h; exact n2 ob u (Option.some.inj h)]; exact h
/-- a slot's own object is written -/
theorem Rel.writeS (r : Rel K c m σ H) {i : Nat} {a : Addr} {o o' : HO} {s : Sl} (h1 : c a = some (.sl i)) (e : H a = some o) (n1 : ∀ xs, o ≠ .tup xs) (n2 : ∀ ob u, o ≠ .frz ob u)
    (hs : SlOk K c (upd H a o') i s σ[i]?) : Rel K c { m with r := m.r.set i s } σ (upd H a o') := by
  have f : Fr c H c (upd H a o') := Fr.write (by rw [h1]; simp) (by rw [h1]; simp) e n1 n2
  refine ⟨fun j s' q => ?_, fun l ob q => ?_, r.uq, r.lt, fun b q => ?_, ?_⟩
  · rcases set_get q with ⟨rfl, rfl⟩ | ⟨ne, q⟩
    · exact hs
    · exact (r.sl j s' q).mono f.toFw fun b hb _ => ⟨hb, upd_ne fun z => by subst z; rw [h1] at hb; exact ne (by injection hb with t; injection t with t; exact t.symm)⟩
  · obtain ⟨b, q1, q2⟩ := r.ob l ob q
    exact ⟨b, q1, q2.mono f.toFw (upd_ne fun z => by subst z; rw [h1] at q1; cases q1)⟩
  · by_cases z : b = a
    · subst z; rw [upd_same]; simp
    · rw [upd_ne z]; exact r.lv b q
  · show (m.r.set i _).length = _; rw [List.length_set]; exact r.len
/-- an object that others know is written -/
theorem Rel.writeL (r : Rel K c m σ H) {l : Nat} {a : Addr} {o o' : HO} {s : Ob} (h1 : c a = some (.lc l)) (e : H a = some o) (n1 : ∀ xs, o ≠ .tup xs) (n2 : ∀ ob u, o ≠ .frz ob u)
    (hs : ObR K c (upd H a o') s a) : Rel K c { m with S := m.S.set l s } σ (upd H a o') := by
  have f : Fr c H c (upd H a o') := Fr.write (by rw [h1]; simp) (by rw [h1]; simp) e n1 n2
  refine ⟨fun j s' q => ?_, fun l' ob q => ?_, r.uq, fun b j q => ?_, fun b q => ?_, r.len⟩
  · exact (r.sl j s' q).mono f.toFw fun b hb _ => ⟨hb, upd_ne fun z => by subst z; rw [h1] at hb; cases hb⟩
  · rcases set_get q with ⟨rfl, rfl⟩ | ⟨ne, q⟩
    · exact ⟨a, h1, hs⟩
    · obtain ⟨b, q1, q2⟩ := r.ob l' ob q
      exact ⟨b, q1, q2.mono f.toFw (upd_ne fun z => by subst z; rw [h1] at q1; exact ne (by injection q1 with t; injection t with t; exact t.symm))⟩
  · show j < (m.S.set l s).length
    rw [List.length_set]; exact r.lt b j q
  · by_cases z : b = a
    · subst z; rw [upd_same]; simp
    · rw [upd_ne z]; exact r.lv b q
/-- a fresh object of nobody's becomes one that others may know -/
theorem Rel.share (r : Rel K c m σ H) {a : Addr} {o : Ob} (h1 : c a = some .out) (h2 : H a ≠ none) (hr : ObR K c H o a) : Rel K (rlb c a (.lc m.S.length)) { m with S := m.S ++ [o] } σ H := by
  have f : Fw c H (rlb c a (.lc m.S.length)) H := Fw.relab (fun l => by rw [h1]; simp) (by rw [h1]; simp)
  have un : ∀ b l, c b = some (.lc l) → b ≠ a := fun b l e z => by subst z; rw [h1] at e; cases e
  refine ⟨fun j s' q => ?_, fun l ob q => ?_, fun b b' l q1 q2 => ?_, fun b l q => ?_, fun b q => ?_, r.len⟩
  · exact (r.sl j s' q).mono f fun b hb _ => ⟨by rw [rlb_ne fun z => by subst z; rw [h1] at hb; cases hb]; exact hb, rfl⟩
  · have q' : (m.S ++ [o])[l]? = some ob := q
    rw [List.getElem?_append] at q'
    split at q'
    · obtain ⟨b, q1, q2⟩ := r.ob l ob q'
      exact ⟨b, f.lc b l q1, q2.mono f rfl⟩
    · rename_i hl
      have e : l = m.S.length := by
        have := (List.getElem?_eq_some_iff.mp q').1
        simp at this
        omega
      subst e
      simp at q'
      subst q'
      exact ⟨a, rlb_same, hr.mono f rfl⟩
  · by_cases z : b = a
    · by_cases z' : b' = a
      · rw [z, z']
      · subst z
        rw [rlb_same] at q1
        rw [rlb_ne z'] at q2
        have := r.lt b' l q2
        injection q1 with t; injection t with t
        omega
    · by_cases z' : b' = a
      · subst z'
        rw [rlb_same] at q2
        rw [rlb_ne z] at q1
        have := r.lt b l q1
        injection q2 with t; injection t with t
        omega
      · rw [rlb_ne z] at q1
        rw [rlb_ne z'] at q2
        exact r.uq b b' l q1 q2
  · show l < (m.S ++ [o]).length
    rw [List.length_append]
    by_cases z : b = a
    · subst z; rw [rlb_same] at q; injection q with t; injection t with t
      simp; omega
    · rw [rlb_ne z] at q
      have := r.lt b l q
      simp; omega
  · by_cases z : b = a
    · subst z; exact h2
    · rw [rlb_ne z] at q; exact r.lv b q
end
end Kd

namespace Kd
open PySem PySem.Spec PyProof.Rows L2
/-- what is seen of a value -/
def VwR (K : PySem.W.Frag) (c : Lb) (H : Hp) : Vw → V → Prop
  | .d d, x => Rp K c H d x
  | .l ds, x => ∃ a xs, x = .ref a ∧ SqL K H a xs ∧ Rps K c H ds xs
  | .k kvs, x => ∃ a, x = .ref a ∧ DR K c H kvs a
section
variable {K : PySem.W.Frag} {c c1 c2 : Lb} {H H1 H2 : Hp} {m m' : M} {σ : L2.St} {nv : Nv}
theorem vwD_ok {d : D} {x : V} {v : Vw} (rel : Rel K c m σ H) (r : Rp K c H d x) (h : vwD m.S d = some v) : VwR K c H v x := by
  cases d with
  | non => cases h; exact r
  | bl b => cases h; exact r
  | int i => cases h; exact r
  | str i => cases h; exact r
  | tup i => cases h; exact r
  | lst ds =>
    cases h
    cases r with
    | lst hc h r => exact ⟨_, _, rfl, h, r⟩
  | dct ds =>
    cases h
    cases r with
    | dctK hc h r => exact ⟨_, rfl, .inl ⟨_, h, r⟩⟩
    | dctT hc h r => exact ⟨_, rfl, .inr ⟨_, h, r⟩⟩
  | loc l =>
    cases r with
    | loc hc =>
      rename_i a
      unfold vwD at h
      simp only at h
      split at h
      · rename_i ds e
        cases h
        obtain ⟨b, e1, xs, e2, r2⟩ := rel.ob l _ e
        have z := rel.uq a b l hc e1
        subst z
        exact ⟨_, _, rfl, SqL.of e2, r2⟩
      · rename_i ds e
        cases h
        obtain ⟨b, e1, r2⟩ := rel.ob l _ e
        have z := rel.uq a b l hc e1
        subst z
        exact ⟨_, rfl, r2⟩
      · cases h; exact .loc hc
      · cases h
theorem vw_ok {o : Op} {x : V} {v : Vw} (rel : Rel K c m σ H) (r : RpO K c H σ o x) (h : vw o m = some v) : VwR K c H v x := by
  cases o with
  | v d => exact vwD_ok rel r h
  | nl ds =>
    cases h
    obtain ⟨a, e, _, xs, e1, r1⟩ := r
    exact ⟨a, xs, e, SqL.of e1, r1⟩
  | nd ds =>
    cases h
    obtain ⟨a, e, _, r1⟩ := r
    exact ⟨a, e, r1⟩
  | sl i =>
    have hx : σ[i]? = some (some x) := r
    unfold vw at h
    simp only at h
    split at h
    · rename_i ds e
      cases h
      obtain ⟨a, e1, _, xs, e2, r2⟩ := rel.sl i _ e
      rw [hx] at e1; cases e1
      exact ⟨a, xs, rfl, SqL.of e2, r2⟩
    · rename_i ds e
      cases h
      obtain ⟨a, e1, _, r2⟩ := rel.sl i _ e
      rw [hx] at e1; cases e1
      exact ⟨a, rfl, r2⟩
    · rename_i d e
      obtain ⟨y, e1, r2⟩ := rel.sl i _ e
      rw [hx] at e1; cases e1
      exact vwD_ok rel r2 h
    · cases h
/-- what a rule for one value, two values has to say -/
abbrev Kont (K : PySem.W.Frag) (c : Lb) (m : M) (σ : L2.St) (H : Hp) (z : Op) (Q : VK) : Prop :=
  ∀ c' H' w, Fr c H c' H' → Rel K c' m σ H' → RpO K c' H' σ z w → (∀ a, OwnA z w a → c a ≠ some .out) → Q w H'
def Snd1 (K : PySem.W.Frag) (f : Vw → Option Op) (r : V → Hp → VK → Prop) : Prop :=
  ∀ c m σ H x vx z Q, Rel K c m σ H → VwR K c H vx x → f vx = some z → Kont K c m σ H z Q → r x H Q
def Snd2 (K : PySem.W.Frag) (f : Vw → Vw → Option Op) (r : R2) : Prop :=
  ∀ c m σ H x y vx vy z Q, Rel K c m σ H → VwR K c H vx x → VwR K c H vy y → f vx vy = some z → Kont K c m σ H z Q → r x y H Q
def SndB (K : PySem.W.Frag) (f : Vw → Vw → Option Bool) (r : R2) : Prop :=
  ∀ c m σ H x y vx vy z Q, Rel K c m σ H → VwR K c H vx x → VwR K c H vy y → f vx vy = some z → (∀ (w : V), w = .bl z → Q w H) → r x y H Q

theorem of_some {α : Type} {m' : M} {o : Option α} {N : α → Lb → Hp → Prop} (g : Good K c H σ N (R.of m' o)) : ∃ a, o = some a ∧ ∀ c' H', Fr c H c' H' → Rel K c' m' σ H' → N a c' H' := by
  cases o with
  | none => exact g.elim
  | some a => exact ⟨a, rfl, g⟩
/-- the continuation, seen from a later state -/
theorem kont_of {z : Op} {Q : VK} (f : Fr c H c1 H1) (g : ∀ c' H', Fr c H c' H' → Rel K c' m σ H' → NE K c σ Q z c' H') : Kont K c1 m σ H1 z Q :=
  fun c' H' w fr rel r k => g c' H' (f.trans fr) rel w r fun a e q => k a e (f.out a q).1

theorem good_e1 {f : Vw → Option Op} {r : V → Hp → VK → Prop} {d : DE} {Q : VK} (s : Snd1 K f r) (h : TD K nv (e1 f d) σ H Q) : TD K nv d σ H (fun x H1 => r x H1 Q) := by
  obtain ⟨c, m, rel, g⟩ := h
  refine ⟨c, m, rel, g.bind fun o m1 c1 H1 e f1 rel1 g1 => ?_⟩
  intro x rx wx
  obtain ⟨z, e1, g2⟩ := of_some g1
  cases e2 : vw o m1 with
  | none => rw [e2] at e1; cases e1
  | some v =>
    rw [e2] at e1
    exact s c1 m1 σ H1 x v z Q rel1 (vw_ok rel1 rx e2) e1 (kont_of f1 g2)
/-- behind a first operand -/
theorem two {α : Type} {N : Lb → α → Lb → Hp → Prop} {d d' : DE} {k : Op → Op → M → R α} {R' : V → V → Hp → Prop}
    (h : ∃ c m, Rel K c m σ H ∧ Good K c H σ (N c) ((d nv m).bind fun o m1 => (d' nv m1).bind fun p m2 => k o p m2))
    (q : ∀ c c1 c2 H0 H1 H2 m2 o p x y, Fr c H0 c1 H1 → Fr c1 H1 c2 H2 → Rel K c2 m2 σ H2 → RpO K c2 H2 σ o x → RpO K c2 H2 σ p y → (∀ a, OwnA o x a → c a ≠ some .out) → (∀ a, OwnA p y a → c1 a ≠ some .out) →
      (∀ a, OwnA o x a → c1 a = some .out) → Good K c H0 σ (N c) (k o p m2) → R' x y H2) :
    TD K nv d σ H (fun x H1 => TD K nv d' σ H1 fun y H2 => R' x y H2) := by
  obtain ⟨c, m, rel, g⟩ := h
  refine ⟨c, m, rel, g.bind fun o m1 c1 H1 e f1 rel1 g1 => ?_⟩
  intro x rx wx
  refine ⟨c1, m1, rel1, ?_⟩
  cases e2 : d' nv m1 with
  | ok p m2 =>
    rw [e2] at g1
    intro c2 H2 f2 rel2 y ry wy
    refine q c c1 c2 H H1 H2 m2 o p x y f1 f2 rel2 (rx.mono f2) ry wx wy ?_ g1
    intro a ha
    cases o with
    | nl ds => obtain ⟨b, e, hb, _⟩ := rx; cases e; have z : V.ref b = V.ref a := ha; cases z; exact hb
    | nd ds => obtain ⟨b, e, hb, _⟩ := rx; cases e; have z : V.ref b = V.ref a := ha; cases z; exact hb
    | v d => exact ha.elim
    | sl i => exact ha.elim
  | ex a b m2 => rw [e2] at g1; exact g1.elim
  | no => rw [e2] at g1; exact g1.elim
theorem good_e2 {f : Vw → Vw → Option Op} {r : R2} {d d' : DE} {Q : VK} (s : Snd2 K f r) (h : TD K nv (e2 f d d') σ H Q) : TD K nv d σ H (fun x H1 => TD K nv d' σ H1 fun y H2 => r x y H2 Q) := by
  refine two (N := fun c => NE K c σ Q) h fun c c1 c2 H0 H1 H2 m2 o p x y f1 f2 rel2 rx ry wx wy _ g => ?_
  obtain ⟨z, e1, g3⟩ := of_some g
  cases e2 : vw o m2 with
  | none => rw [e2] at e1; cases e1
  | some v =>
    cases e3 : vw p m2 with
    | none => rw [e2, e3] at e1; cases e1
    | some u =>
      rw [e2, e3] at e1
      exact s c2 m2 σ H2 x y v u z Q rel2 (vw_ok rel2 rx e2) (vw_ok rel2 ry e3) e1 (kont_of (f1.trans f2) g3)
theorem good_t2 {f : Vw → Vw → Option Bool} {r : R2} {d d' : DE} {Q : VK} {Q' : Bool → Hp → Prop} (s : SndB K f r) (hq : ∀ b H, Q' b H → Q (.bl b) H) (h : TB K nv (t2 f d d') σ H Q') : TD K nv d σ H (fun x H1 => TD K nv d' σ H1 fun y H2 => r x y H2 Q) := by
  refine two (N := fun _ => NB Q') h fun c c1 c2 H0 H1 H2 m2 o p x y f1 f2 rel2 rx ry wx wy _ g => ?_
  obtain ⟨z, e1, g3⟩ := of_some g
  cases e2 : vw o m2 with
  | none => rw [e2] at e1; cases e1
  | some v =>
    cases e3 : vw p m2 with
    | none => rw [e2, e3] at e1; cases e1
    | some u =>
      rw [e2, e3] at e1
      exact s c2 m2 σ H2 x y v u z Q rel2 (vw_ok rel2 rx e2) (vw_ok rel2 ry e3) e1 fun w ew => by subst ew; exact hq _ _ (g3 c2 H2 (f1.trans f2) rel2)
/-- a given up value -/
theorem good_eF {d : DE} {Q : VK} (h : TF K nv (eF d) σ H Q) : TD K nv d σ H Q := by
  obtain ⟨c, m, rel, g⟩ := h
  refine ⟨c, m, rel, g.bind fun o m1 c1 H1 e f1 rel1 g1 => ?_⟩
  intro x rx wx
  cases e2 : fz o m1 with
  | ok z m2 =>
    rw [e2] at g1
    obtain ⟨c2, f2, rel2, r2⟩ := fz_ok f1 rel1 rx wx e2
    exact (g1 : ∀ c' H', Fr c H c' H' → Rel K c' m2 σ H' → ND K Q z c' H') c2 H1 f2 rel2 x r2
  | ex a b m2 => rw [e2] at g1; exact g1.elim
  | no => rw [e2] at g1; exact g1.elim
/-- .. and what follows it -/
theorem good_eF_bind {α : Type} {N : Lb → α → Lb → Hp → Prop} {d : DE} {k : D → M → R α} {Q : VK} (h : ∃ c m, Rel K c m σ H ∧ Good K c H σ (N c) ((eF d nv m).bind k))
    (q : ∀ c c2 H0 H1 m2 z x, Fr c H0 c2 H1 → Rel K c2 m2 σ H1 → Rp K c2 H1 z x → Good K c H0 σ (N c) (k z m2) → Q x H1) : TD K nv d σ H Q := by
  obtain ⟨c, m, rel, g⟩ := h
  refine good_eF ⟨c, m, rel, ?_⟩
  exact g.bind fun z m2 c2 H1 e f2 rel2 g2 x rx => q c c2 H H1 m2 z x f2 rel2 rx g2
end
end Kd

namespace Kd
open PySem PySem.Spec PyProof.Rows L2
section
variable {K : PySem.W.Frag} {c c1 c2 : Lb} {H H1 H2 : Hp} {m m' : M} {σ : L2.St} {nv : Nv}
theorem kont_v {d : D} {x : V} {Q : VK} (k : Kont K c m σ H (.v d) Q) (rel : Rel K c m σ H) (r : Rp K c H d x) : Q x H := k c H x (Fr.refl _ _) rel r fun _ z => z.elim
theorem kont_l {ds : List D} {xs : List V} {Q : VK} {p : Addr} (k : Kont K c m σ H (.nl ds) Q) (rel : Rel K c m σ H) (hp : H p = none) (r : Rps K c H ds xs) : Q (.ref p) (upd H p (.lst xs)) := by
  have hc := rel.free hp
  have f : Fr c H (rlb c p .out) (upd H p (.lst xs)) := Fr.new hc hp
  refine k _ _ _ f (rel.new hp fun _ => by simp) ⟨p, rfl, rlb_same, xs, upd_same, r.mono f.toFw⟩ fun a z => ?_
  have z' : V.ref p = V.ref a := z
  cases z'
  rw [hc]; simp
theorem kont_t {ds : List D} {xs : List V} {Q : VK} {p : Addr} (k : Kont K c m σ H (.v (.tup ds)) Q) (rel : Rel K c m σ H) (hp : H p = none) (r : Rps K c H ds xs) : Q (.ref p) (upd H p (.tup xs)) := by
  have hc := rel.free hp
  have f : Fr c H c (upd H p (.tup xs)) := Fr.newT hc hp
  exact k _ _ _ f (rel.newT hp) (.tup upd_same (r.mono f.toFw)) fun a z => z.elim
theorem kont_d {ds : Kvs} {o : HO} {Q : VK} {p : Addr} (k : Kont K c m σ H (.nd ds) Q) (rel : Rel K c m σ H) (hp : H p = none) (r : (∃ kv, o = .dK kv ∧ RKs K c H ds kv) ∨ ∃ kv, o = .dT kv ∧ RTs K c H ds kv) : Q (.ref p) (upd H p o) := by
  have hc := rel.free hp
  have f : Fr c H (rlb c p .out) (upd H p o) := Fr.new hc hp
  refine k _ _ _ f (rel.new hp fun _ => by simp) ⟨p, rfl, rlb_same, ?_⟩ fun a z => ?_
  · rcases r with ⟨kv, rfl, r⟩ | ⟨kv, rfl, r⟩
    · exact .inl ⟨kv, upd_same, r.mono f.toFw⟩
    · exact .inr ⟨kv, upd_same, r.mono f.toFw⟩
  · have z' : V.ref p = V.ref a := z
    cases z'
    rw [hc]; simp
end

/-! ### lists that are read -/
section
variable {X : Cx} {pins : List (Addr × Obj)} {σ : L2.St} {H : Hp} {s : Shared}
def rCatR (K : PySem.W.Frag) : R2 := fun x y H Q => ∃ l b xs zs, x = .ref l ∧ y = .ref b ∧ SqL K H l xs ∧ SqL K H b zs ∧ xs.length + zs.length ≤ sizeLine ∧ ∀ p, H p = none → Q (.ref p) (upd H p (.lst (xs ++ zs)))
theorem op_catR : OpR X (binaryOp .Add) (rCatR X.K) := by
  intro pins s σ H x y v u Q I rx ry h
  obtain ⟨l, b, xs, zs, rfl, rfl, hH, hB, hz, q⟩ := h
  cases rx
  cases ry
  obtain ⟨its, r, ⟨⟨oc, od, dt, sl⟩, n, e, hc, hd, hdt⟩, z⟩ := I.list hH
  obtain ⟨its2, r2, ⟨⟨oc2, od2, dt2, sl2⟩, n2, e2, hc2, hd2, hdt2⟩, z2⟩ := I.list hB
  simp only at hc hd hdt hc2 hd2 hdt2
  subst hc hd hdt hc2 hd2 hdt2
  have hl := r.length
  have hl2 := r2.length
  have ea : its.toArray ++ its2.toArray = (its ++ its2).toArray := by simp
  refine PySem.concat_meets ⟨_, e, rfl⟩ ⟨_, e2, rfl⟩ PySem.noFill_list_add PySem.seq_list_add PySem.F.slot_list_add PySem.F.entry_list_add (PySem.F.args_list_add_2 _ _) (list_addW l b its.toArray its2.toArray n n2 none none sl sl2 (by simp only [List.size_toArray]; omega)) ⟨e, e2, ?_⟩
  rw [ea]
  exact ⟨.ref _, _, I.lnew (t' := s.toks) (r.append r2) (by rw [List.length_append]; omega), rfl, q _ I.fresh⟩
end

/-! ### binary operators -/
structure BinOk (X : Cx) (op : Operator) (f : Vw → Vw → Option Op) : Prop where
  ok : ∃ r, OpR X (binaryOp op) r ∧ Snd2 X.K f r
section
variable {X : Cx}
theorem snd_opI {K : PySem.W.Frag} {f : Int → Int → Option Int} {r : R2} (h : ∀ i j z Q H, f i j = some z → Q (.int z) H → r (.int i) (.int j) H Q) : Snd2 K (opI f) r := by
  intro c m σ H x y vx vy z Q rel rx ry e k
  unfold opI at e
  split at e
  · rename_i i j
    cases e2 : f i j with
    | none => rw [e2] at e; cases e
    | some w =>
      rw [e2] at e
      cases e
      cases rx
      cases ry
      exact h i j w Q H e2 (kont_v k rel (.int w))
  · cases e
theorem bin_add : BinOk X .Add oAdd := by
  refine ⟨_, op_add.or ((op_catA (X := X)).or (op_catR.or op_add_str)), ?_⟩
  intro c m σ H x y vx vy z Q rel rx ry e k
  unfold oAdd at e
  split at e
  · rename_i i j
    cases e
    cases rx
    cases ry
    exact .inl ⟨i, j, rfl, rfl, kont_v k rel (.int _)⟩
  · rename_i ds es
    split at e
    · rename_i hz
      cases e
      cases rx with
      | tup h1 r1 =>
        cases ry with
        | tup h2 r2 =>
          rename_i a xs b ys
          refine .inr (.inl ⟨a, b, xs, ys, rfl, rfl, SqT.of h1, SqT.of h2, by rw [← r1.length, ← r2.length]; exact hz, fun ex => ?_, fun _ ey => ?_, fun _ _ p hp => ?_⟩)
          · subst ex
            have ed : ds = [] := List.eq_nil_of_length_eq_zero (by rw [r1.length]; rfl)
            subst ed
            exact kont_v k rel (.tup h2 r2)
          · subst ey
            have ed : es = [] := List.eq_nil_of_length_eq_zero (by rw [r2.length]; rfl)
            subst ed
            rw [List.append_nil] at k
            exact kont_v k rel (.tup h1 r1)
          · exact kont_t k rel hp (r1.append r2)
    · cases e
  · rename_i ds es
    split at e
    · rename_i hz
      cases e
      obtain ⟨a, xs, rfl, h1, r1⟩ := rx
      obtain ⟨b, ys, rfl, h2, r2⟩ := ry
      exact .inr (.inr (.inl ⟨a, b, xs, ys, rfl, rfl, h1, h2, by rw [← r1.length, ← r2.length]; exact hz, fun p hp => kont_l k rel hp (r1.append r2)⟩))
    · cases e
  · rename_i i j
    split at e
    · rename_i hz
      cases e
      cases rx
      cases ry
      exact .inr (.inr (.inr ⟨i, j, rfl, rfl, hz, kont_v k rel (.str _)⟩))
    · cases e
  · cases e
theorem bin_sub : BinOk X .Sub oSub := ⟨_, op_sub, snd_opI fun i j z Q H e q => by cases e; exact ⟨i, j, rfl, rfl, q⟩⟩
theorem within64_ok {i : Int} (h : within64 i = true) : -(2 ^ 64) < i ∧ i < 2 ^ 64 := by
  unfold within64 at h
  rw [Bool.and_eq_true, geB_iff, leB_iff] at h
  have e : (2 : Int) ^ 64 = 18446744073709551616 := by decide
  rw [e]
  omega
theorem bin_mul : BinOk X .Mult oMul := ⟨_, op_mul, snd_opI fun i j z Q H e q => by
  split at e
  · rename_i h
    cases e
    refine ⟨i, j, rfl, rfl, ?_, q⟩
    rcases (Bool.or_eq_true _ _).mp h with h | h
    · exact .inl (within64_ok h)
    · exact .inr (within64_ok h)
  · cases e⟩
theorem bin_fdiv : BinOk X .FloorDiv oFdiv := ⟨_, op_fdiv, snd_opI fun i j z Q H e q => by
  split at e
  · rename_i h
    cases e
    rw [Bool.and_eq_true, posB_iff, leB_iff] at h
    exact ⟨i, j, rfl, rfl, ⟨h.1, by omega⟩, q⟩
  · cases e⟩
theorem bin_mod : BinOk X .Mod oMod := ⟨_, op_mod, snd_opI fun i j z Q H e q => by
  split at e
  · rename_i h
    cases e
    exact ⟨i, j, rfl, rfl, of_decide_eq_true h, q⟩
  · cases e⟩
theorem powOk_ok {i j : Int} (h : powOk i j = true) : CPow i j := by
  unfold powOk at h
  rw [Bool.and_eq_true, Bool.and_eq_true, geB_iff, leB_iff, Nat.ble_eq] at h
  have e : (2 : Nat) ^ 64 = 18446744073709551616 := by decide
  exact ⟨by omega, by omega, by rw [e]; omega⟩
theorem bin_pow : BinOk X .Pow oPow := ⟨_, op_pow, snd_opI fun i j z Q H e q => by
  split at e
  · rename_i h
    cases e
    exact ⟨i, j, rfl, rfl, powOk_ok h, q⟩
  · cases e⟩
theorem bin_shl : BinOk X .LShift oShl := ⟨_, op_shl, snd_opI fun i j z Q H e q => by
  split at e
  · rename_i h
    cases e
    exact ⟨i, j, rfl, rfl, powOk_ok h, q⟩
  · cases e⟩
theorem bin_shr : BinOk X .RShift oShr := ⟨_, op_shr, snd_opI fun i j z Q H e q => by
  split at e
  · rename_i h
    cases e
    exact ⟨i, j, rfl, rfl, of_decide_eq_true h, q⟩
  · cases e⟩
theorem bin_and : BinOk X .BitAnd oAnd := ⟨_, op_and, snd_opI fun i j z Q H e q => by cases e; exact ⟨i, j, rfl, rfl, q⟩⟩
theorem bin_or : BinOk X .BitOr oOr := ⟨_, op_or, snd_opI fun i j z Q H e q => by cases e; exact ⟨i, j, rfl, rfl, q⟩⟩
theorem bin_xor : BinOk X .BitXor oXor := ⟨_, op_xor, snd_opI fun i j z Q H e q => by cases e; exact ⟨i, j, rfl, rfl, q⟩⟩
theorem bin_all {op : Operator} {f : Vw → Vw → Option Op} (h : binOp op = some f) : BinOk X op f := by
  cases op <;> first | cases h | skip
  all_goals first | exact bin_add | exact bin_sub | exact bin_mul | exact bin_fdiv | exact bin_mod | exact bin_pow | exact bin_shl | exact bin_shr | exact bin_and | exact bin_or | exact bin_xor
/-- -x, ~x -/
theorem un_neg_ok : ∃ r, UnR X (unaryOp .USub) r ∧ Snd1 X.K oNeg r := by
  refine ⟨_, un_neg, ?_⟩
  intro c m σ H x vx z Q rel rx e k
  unfold oNeg at e
  split at e
  · cases e; cases rx; exact ⟨_, rfl, kont_v k rel (.int _)⟩
  · cases e
theorem un_inv_ok : ∃ r, UnR X (unaryOp .Invert) r ∧ Snd1 X.K oInv r := by
  refine ⟨_, un_inv, ?_⟩
  intro c m σ H x vx z Q rel rx e k
  unfold oInv at e
  split at e
  · cases e; cases rx; exact ⟨_, rfl, kont_v k rel (.int _)⟩
  · cases e

/-! ### comparisons -/
structure CmpOk (X : Cx) (op : CmpOp) (f : Vw → Vw → Option Bool) : Prop where
  ok : ∃ r, OpR X (compareOp op) r ∧ SndB X.K f r
theorem vw_dp {K : PySem.W.Frag} {c : Lb} {H : Hp} {v : Vw} {x : V} {y : PyData} (r : VwR K c H v x) (h : v.D.py = some y) (hl : y.canLay0 = true) : Dp K H x y := by
  cases v with
  | d d => exact Rp.dp d x y r h hl
  | l ds =>
    obtain ⟨a, xs, rfl, h1, r1⟩ := r
    have h' : (D.pys ds).map PyData.list = some y := by simpa only [Vw.D, D.py] using h
    rw [Option.map_eq_some_iff] at h'
    obtain ⟨zs, e1, e2⟩ := h'
    subst e2
    exact .lst h1 (Rps.dp ds _ zs r1 e1 (by simpa only [PyData.canLay0] using hl))
  | k kvs =>
    have h' : (D.pyk kvs).map PyData.dict = some y := by simpa only [Vw.D, D.py] using h
    rw [Option.map_eq_some_iff] at h'
    obtain ⟨zs, e1, e2⟩ := h'
    subst e2
    simp [PyData.canLay0] at hl
theorem shaped_lay {d : PyData} (h : SeqAt.shaped d = true) : d.canLay0 = true := by
  have h' : (d.canLay0 && decide (d.depth ≤ 64)) = true := h
  rw [Bool.and_eq_true] at h'
  exact h'.1
theorem eqD_some {a b : D} {z : Bool} (h : eqD a b = some z) : ∃ x y, a.py = some x ∧ b.py = some y ∧ SeqAt.shaped x = true ∧ SeqAt.shaped y = true ∧ z = PyData.eqv x y := by
  unfold eqD at h
  split at h
  · rename_i x y e1 e2
    split at h
    · rename_i hs
      rw [Bool.and_eq_true] at hs
      exact ⟨x, y, e1, e2, hs.1, hs.2, (Option.some.inj h).symm⟩
    · cases h
  · cases h
theorem eqS_some {x y : Vw} {a b : Str} (h : eqS x y = some (a, b)) : x = .d (.str a) ∧ y = .d (.str b) := by
  unfold eqS at h
  split at h
  · cases h; exact ⟨rfl, rfl⟩
  · cases h
theorem dec_strV {a b : Str} : decide (V.str a = V.str b) = decide (a = b) := by
  by_cases h : a = b
  · subst h; simp
  · have h' : ¬ V.str a = V.str b := fun e => h (by cases e; rfl)
    simp [h, h']
theorem cmp_eq (hu : X.A.units + 64 < cLine) : CmpOk X .Eq cEq := ⟨_, (op_eqD hu).or op_eq, fun c m σ H x y vx vy z Q rel rx ry e k => by
  unfold cEq at e
  split at e
  · rename_i a b hs
    obtain ⟨rfl, rfl⟩ := eqS_some hs
    cases e
    cases rx
    cases ry
    refine .inr ⟨rfl, ?_⟩
    rw [dec_strV]
    exact k _ rfl
  · obtain ⟨a, b, h1, h2, s1, s2, rfl⟩ := eqD_some e
    exact .inl ⟨a, b, vw_dp rx h1 (shaped_lay s1), vw_dp ry h2 (shaped_lay s2), s1, s2, k _ rfl⟩⟩
theorem cmp_ne (hu : X.A.units + 64 < cLine) : CmpOk X .NotEq cNe := ⟨_, (op_neD hu).or op_ne, fun c m σ H x y vx vy z Q rel rx ry e k => by
  unfold cNe at e
  split at e
  · rename_i a b hs
    obtain ⟨rfl, rfl⟩ := eqS_some hs
    cases e
    cases rx
    cases ry
    refine .inr ⟨rfl, ?_⟩
    rw [dec_strV]
    exact k _ rfl
  · rw [Option.map_eq_some_iff] at e
    obtain ⟨w, e, e2⟩ := e
    obtain ⟨a, b, h1, h2, s1, s2, rfl⟩ := eqD_some e
    subst e2
    exact .inl ⟨a, b, vw_dp rx h1 (shaped_lay s1), vw_dp ry h2 (shaped_lay s2), s1, s2, k _ rfl⟩⟩
theorem cI_ok {K : PySem.W.Frag} {g : Int → Int → Bool} {r : R2} (h : ∀ i j Q H, Q (.bl (g i j)) H → r (.int i) (.int j) H Q) : SndB K (cI g) r := by
  intro c m σ H x y vx vy z Q rel rx ry e k
  unfold cI at e
  split at e
  · cases e; cases rx; cases ry; exact h _ _ Q H (k _ rfl)
  · cases e
theorem cmp_gt : CmpOk X .Gt cGt := ⟨_, op_gt, cI_ok fun i j Q H q => ⟨i, j, rfl, rfl, q⟩⟩
theorem cmp_ge : CmpOk X .GtE cGe := ⟨_, op_ge, cI_ok fun i j Q H q => ⟨i, j, rfl, rfl, q⟩⟩
theorem cmp_lt (hu : X.A.units < cLine) : CmpOk X .Lt cLt := ⟨_, op_lt.or (op_ltT hu), fun c m σ H x y vx vy z Q rel rx ry e k => by
  unfold cLt at e
  split at e
  · split at e
    · rename_i e1 e2
      cases e
      cases rx with
      | tup h1 r1 =>
        cases ry with
        | tup h2 r2 =>
          have q1 := rps_asInts r1 e1
          have q2 := rps_asInts r2 e2
          subst q1 q2
          exact .inr ⟨_, _, _, _, rfl, rfl, SqT.of h1, SqT.of h2, k _ rfl⟩
    · cases e
  · exact .inl (cI_ok (r := rI0 fun i j => .bl (decide (i < j))) (fun i j Q H q => ⟨i, j, rfl, rfl, q⟩) c m σ H x y _ _ z Q rel rx ry e k)⟩
theorem lexAt_shift (e r : Nat → Bool) (z : Bool) : ∀ (k i : Nat), _root_.Ob.lexAt e r z (i + 1) k = _root_.Ob.lexAt (fun j => e (j + 1)) (fun j => r (j + 1)) z i k
  | 0, i => by rw [_root_.Ob.lexAt_zero, _root_.Ob.lexAt_zero]
  | k + 1, i => by rw [_root_.Ob.lexAt_succ, _root_.Ob.lexAt_succ, lexAt_shift e r z k (i + 1)]
theorem lexLe_at : ∀ (ns ms : List Int), _root_.Ob.lexAt (fun j => decide (ns.getD j 0 = ms.getD j 0)) (fun j => decide (ns.getD j 0 ≤ ms.getD j 0)) (decide (ns.length ≤ ms.length)) 0 (min ns.length ms.length) = lexLe ns ms
  | [], ms => by simp [_root_.Ob.lexAt_zero, lexLe]
  | n :: ns, [] => by simp [_root_.Ob.lexAt_zero, lexLe]
  | n :: ns, m :: ms => by
    have e : min (n :: ns).length (m :: ms).length = min ns.length ms.length + 1 := by simp only [List.length_cons]; omega
    rw [e, _root_.Ob.lexAt_succ, lexAt_shift]
    have ih := lexLe_at ns ms
    have e2 : decide ((n :: ns).length ≤ (m :: ms).length) = decide (ns.length ≤ ms.length) := by
      simp only [List.length_cons]
      by_cases h : ns.length ≤ ms.length
      · rw [decide_eq_true h, decide_eq_true (by omega)]
      · rw [decide_eq_false h, decide_eq_false (by omega)]
    rw [e2]
    simp only [List.getD_cons_zero, List.getD_cons_succ, lexLe]
    by_cases h : n = m
    · simp only [h, decide_true, if_true]
      exact ih
    · simp only [h, decide_false, if_false]
      rfl
theorem cmp_le (hu : X.A.units < cLine) : CmpOk X .LtE cLe := ⟨_, op_le.or (op_leT hu), fun c m σ H x y vx vy z Q rel rx ry e k => by
  unfold cLe at e
  split at e
  · split at e
    · rename_i e1 e2
      cases e
      cases rx with
      | tup h1 r1 =>
        cases ry with
        | tup h2 r2 =>
          have q1 := rps_asInts r1 e1
          have q2 := rps_asInts r2 e2
          subst q1 q2
          exact .inr ⟨_, _, _, _, rfl, rfl, SqT.of h1, SqT.of h2, by rw [lexLe_at]; exact k _ rfl⟩
    · cases e
  · exact .inl (cI_ok (r := rI0 fun i j => .bl (decide (i ≤ j))) (fun i j Q H q => ⟨i, j, rfl, rfl, q⟩) c m σ H x y _ _ z Q rel rx ry e k)⟩
end
end Kd

namespace Kd
open PySem PySem.Spec PyProof.Rows L2
/-! ### keys -/
theorem kk1_flat {k : KK} : (kk1 k).isSome = k.flat1 := by cases k <;> rfl
theorem kks1_flat : ∀ {xs : List KK}, (kks1 xs).isSome = xs.all KK.flat1
  | [] => rfl
  | x :: r => by
    have e1 := @kk1_flat x
    have e2 := @kks1_flat r
    unfold kks1
    rw [List.all_cons, ← e1, ← e2]
    cases kk1 x <;> cases kks1 r <;> rfl
theorem kkT_flat {k : KK} : (kkT k).isSome = k.flatT := by
  cases k with
  | t xs => exact kks1_flat
  | _ => rfl
theorem kk1_inj {a b : KK} {j : Key} (h1 : kk1 a = some j) (h2 : kk1 b = some j) : a = b := by
  cases a <;> cases b <;> simp only [kk1, Option.some.injEq, reduceCtorEq] at h1 h2 <;> (subst h1; simp_all)
theorem kks1_inj : ∀ {a b : List KK} {j : List Key}, kks1 a = some j → kks1 b = some j → a = b
  | [], [], _, _, _ => rfl
  | [], y :: s, j, h1, h2 => by
    simp only [kks1] at h1
    cases h1
    simp only [kks1] at h2
    cases e1 : kk1 y <;> cases e2 : kks1 s <;> simp [e1, e2] at h2
  | x :: r, [], j, h1, h2 => by
    simp only [kks1] at h2
    cases h2
    simp only [kks1] at h1
    cases e1 : kk1 x <;> cases e2 : kks1 r <;> simp [e1, e2] at h1
  | x :: r, y :: s, j, h1, h2 => by
    simp only [kks1] at h1 h2
    cases e1 : kk1 x <;> cases e2 : kks1 r <;> cases e3 : kk1 y <;> cases e4 : kks1 s <;> simp only [e1, e2, e3, e4, Option.some.injEq, reduceCtorEq] at h1 h2
    subst h1
    obtain ⟨z1, z2⟩ := List.cons.inj h2
    subst z1 z2
    rw [kk1_inj e1 e3, kks1_inj e2 e4]
theorem kkT_inj {a b : KK} {j : List Key} (h1 : kkT a = some j) (h2 : kkT b = some j) : a = b := by
  cases a <;> cases b <;> simp only [kkT] at h1 h2 <;> first | cases h1; done | cases h2; done | skip
  rw [kks1_inj h1 h2]
section
variable {K : PySem.W.Frag} {c : Lb} {H : Hp}
theorem rk_flat : ∀ {kvs : Kvs} {kv : List (Key × V)}, RKs K c H kvs kv → kvs.all (fun z => z.1.flat1) = true
  | _, _, .nil => rfl
  | _, _, .cons h _ r => by rw [List.all_cons, rk_flat r, Bool.and_true, ← kk1_flat, h]; rfl
theorem rt_flat : ∀ {kvs : Kvs} {kv : List (List Key × V)}, RTs K c H kvs kv → kvs.all (fun z => z.1.flatT) = true
  | _, _, .nil => rfl
  | _, _, .cons h _ r => by rw [List.all_cons, rt_flat r, Bool.and_true, ← kkT_flat, h]; rfl
theorem flat_not {k : KK} (h1 : k.flat1 = true) (h2 : k.flatT = true) : False := by cases k <;> simp [KK.flat1, KK.flatT] at h1 h2
theorem valD_cons {p : KK × D} {r : Kvs} {k : KK} : valD (p :: r) k = if p.1 = k then some p.2 else valD r k := by
  unfold valD
  by_cases h : p.1 = k <;> simp [List.find?_cons, h]
theorem rk_val {k : KK} {j : Key} (hk : kk1 k = some j) : ∀ {kvs : Kvs} {kv : List (Key × V)}, RKs K c H kvs kv → (valD kvs k = none ∧ valV kv j = none) ∨ ∃ d x, valD kvs k = some d ∧ valV kv j = some x ∧ Rp K c H d x
  | _, _, .nil => .inl ⟨rfl, rfl⟩
  | _, _, .cons (k := k2) (j := j2) (d := d) (x := x) h p r => by
    rw [valD_cons]
    by_cases e : k2 = k
    · subst e
      have e2 : j2 = j := Option.some.inj (h.symm.trans hk)
      rw [if_pos rfl, valV_pos e2]
      exact .inr ⟨d, x, rfl, rfl, p⟩
    · have e2 : ¬ j2 = j := fun z => e (kk1_inj h (by rw [z]; exact hk))
      rw [if_neg e, valV_neg (p := (j2, x)) e2]
      exact rk_val hk r
theorem rt_val {k : KK} {j : List Key} (hk : kkT k = some j) : ∀ {kvs : Kvs} {kv : List (List Key × V)}, RTs K c H kvs kv → (valD kvs k = none ∧ valV kv j = none) ∨ ∃ d x, valD kvs k = some d ∧ valV kv j = some x ∧ Rp K c H d x
  | _, _, .nil => .inl ⟨rfl, rfl⟩
  | _, _, .cons (k := k2) (j := j2) (d := d) (x := x) h p r => by
    rw [valD_cons]
    by_cases e : k2 = k
    · subst e
      have e2 : j2 = j := Option.some.inj (h.symm.trans hk)
      rw [if_pos rfl, valV_pos e2]
      exact .inr ⟨d, x, rfl, rfl, p⟩
    · have e2 : ¬ j2 = j := fun z => e (kkT_inj h (by rw [z]; exact hk))
      rw [if_neg e, valV_neg (p := (j2, x)) e2]
      exact rt_val hk r
theorem putD_eq (kvs : Kvs) (k : KK) (v : D) : putD kvs k v = match kvs with
    | [] => [(k, v)]
    | p :: r => if p.1 = k then (k, v) :: (r.map fun q => if q.1 = k then (q.1, v) else q) else p :: putD r k v := by
  cases kvs with
  | nil => rfl
  | cons p r =>
    by_cases h : p.1 = k
    · simp [putD, h]
    · by_cases hr : (r.any fun kv => decide (kv.1 = k)) = true
      · simp [putD, h, hr]
      · simp only [Bool.not_eq_true] at hr
        simp [putD, h, hr]
theorem putK_eq {κ : Type} [DecidableEq κ] (kvs : List (κ × V)) (k : κ) (v : V) : putK kvs k v = match kvs with
    | [] => [(k, v)]
    | p :: r => if p.1 = k then (k, v) :: (r.map fun q => if q.1 = k then (q.1, v) else q) else p :: putK r k v := by
  cases kvs with
  | nil => rfl
  | cons p r =>
    by_cases h : p.1 = k
    · simp [putK, h]
    · by_cases hr : (r.any fun kv => decide (kv.1 = k)) = true
      · simp [putK, h, hr]
      · simp only [Bool.not_eq_true] at hr
        simp [putK, h, hr]
theorem rk_map {k : KK} {j : Key} {d : D} {x : V} (hk : kk1 k = some j) (p : Rp K c H d x) : ∀ {kvs : Kvs} {kv : List (Key × V)}, RKs K c H kvs kv → RKs K c H (kvs.map fun q => if q.1 = k then (q.1, d) else q) (kv.map fun q => if q.1 = j then (q.1, x) else q)
  | _, _, .nil => .nil
  | _, _, .cons (k := k2) (j := j2) h q r => by
    rw [List.map_cons, List.map_cons]
    by_cases e : k2 = k
    · have e2 : j2 = j := by subst e; exact Option.some.inj (h.symm.trans hk)
      rw [if_pos e, if_pos e2]
      exact .cons h p (rk_map hk p r)
    · have e2 : ¬ j2 = j := fun z => e (kk1_inj h (by rw [z]; exact hk))
      rw [if_neg e, if_neg e2]
      exact .cons h q (rk_map hk p r)
theorem rk_put {k : KK} {j : Key} {d : D} {x : V} (hk : kk1 k = some j) (p : Rp K c H d x) : ∀ {kvs : Kvs} {kv : List (Key × V)}, RKs K c H kvs kv → RKs K c H (putD kvs k d) (putK kv j x)
  | _, _, .nil => .cons hk p .nil
  | _, _, .cons (k := k2) (j := j2) h q r => by
    rw [putD_eq, putK_eq]
    by_cases e : k2 = k
    · have e2 : j2 = j := by subst e; exact Option.some.inj (h.symm.trans hk)
      simp only [if_pos e, if_pos e2]
      exact .cons hk p (rk_map hk p r)
    · have e2 : ¬ j2 = j := fun z => e (kk1_inj h (by rw [z]; exact hk))
      simp only [if_neg e, if_neg e2]
      exact .cons h q (rk_put hk p r)
theorem rt_map {k : KK} {j : List Key} {d : D} {x : V} (hk : kkT k = some j) (p : Rp K c H d x) : ∀ {kvs : Kvs} {kv : List (List Key × V)}, RTs K c H kvs kv → RTs K c H (kvs.map fun q => if q.1 = k then (q.1, d) else q) (kv.map fun q => if q.1 = j then (q.1, x) else q)
  | _, _, .nil => .nil
  | _, _, .cons (k := k2) (j := j2) h q r => by
    rw [List.map_cons, List.map_cons]
    by_cases e : k2 = k
    · have e2 : j2 = j := by subst e; exact Option.some.inj (h.symm.trans hk)
      rw [if_pos e, if_pos e2]
      exact .cons h p (rt_map hk p r)
    · have e2 : ¬ j2 = j := fun z => e (kkT_inj h (by rw [z]; exact hk))
      rw [if_neg e, if_neg e2]
      exact .cons h q (rt_map hk p r)
theorem rt_put {k : KK} {j : List Key} {d : D} {x : V} (hk : kkT k = some j) (p : Rp K c H d x) : ∀ {kvs : Kvs} {kv : List (List Key × V)}, RTs K c H kvs kv → RTs K c H (putD kvs k d) (putK kv j x)
  | _, _, .nil => .cons hk p .nil
  | _, _, .cons (k := k2) (j := j2) h q r => by
    rw [putD_eq, putK_eq]
    by_cases e : k2 = k
    · have e2 : j2 = j := by subst e; exact Option.some.inj (h.symm.trans hk)
      simp only [if_pos e, if_pos e2]
      exact .cons hk p (rt_map hk p r)
    · have e2 : ¬ j2 = j := fun z => e (kkT_inj h (by rw [z]; exact hk))
      simp only [if_neg e, if_neg e2]
      exact .cons h q (rt_put hk p r)
theorem RKs.length : ∀ {kvs : Kvs} {kv : List (Key × V)}, RKs K c H kvs kv → kvs.length = kv.length
  | _, _, .nil => rfl
  | _, _, .cons _ _ r => by rw [List.length_cons, List.length_cons, RKs.length r]
theorem RTs.length : ∀ {kvs : Kvs} {kv : List (List Key × V)}, RTs K c H kvs kv → kvs.length = kv.length
  | _, _, .nil => rfl
  | _, _, .cons _ _ r => by rw [List.length_cons, List.length_cons, RTs.length r]
mutual
theorem rp_key : ∀ (d : D) {x : V} {k : KK}, Rp K c H d x → d.kk = some k → (∀ j, kk1 k = some j → x = kV j) ∧ (∀ j, kkT k = some j → ∃ b, x = .ref b ∧ H b = some (.tup (j.map kV)))
  | .int i, _, _, .int _, h => by
    simp only [D.kk] at h
    cases h
    exact ⟨fun j e => (by cases e; rfl), fun j e => (by cases e)⟩
  | .str i, _, _, .str _, h => by
    simp only [D.kk] at h
    cases h
    exact ⟨fun j e => (by cases e; rfl), fun j e => (by cases e)⟩
  | .non, _, _, .non, h => by
    simp only [D.kk] at h
    cases h
    exact ⟨fun j e => (by cases e), fun j e => (by cases e)⟩
  | .tup ds, _, _, .tup (a := a) (xs := xs) h1 r, h => by
    simp only [D.kk, Option.map_eq_some_iff] at h
    obtain ⟨ks, e, e2⟩ := h
    subst e2
    refine ⟨fun j e => (by cases e), fun j e2 => ⟨a, rfl, ?_⟩⟩
    rw [h1, rps_keys ds r e e2]
  | .bl b, _, _, _, h => by simp [D.kk] at h
  | .lst b, _, _, _, h => by simp [D.kk] at h
  | .dct b, _, _, _, h => by simp [D.kk] at h
  | .loc b, _, _, _, h => by simp [D.kk] at h
theorem rps_keys : ∀ (ds : List D) {xs : List V} {ks : List KK} {j : List Key}, Rps K c H ds xs → D.kks ds = some ks → kks1 ks = some j → xs = j.map kV
  | [], _, _, _, .nil, h, h2 => by
    simp only [D.kks] at h
    cases h
    simp only [kks1] at h2
    cases h2
    rfl
  | d :: ds, _, _, _, .cons p r, h, h2 => by
    simp only [D.kks] at h
    cases e1 : d.kk <;> cases e2 : D.kks ds <;> simp [e1, e2] at h
    subst h
    rename_i k ks
    simp only [kks1] at h2
    cases e3 : kk1 k <;> cases e4 : kks1 ks <;> simp [e3, e4] at h2
    subst h2
    rw [List.map_cons, (rp_key d p e1).1 _ e3, rps_keys ds r e2 e4]
end
end

/-! ### the empty dict is both -/
theorem both_kinds {P : Program} {w : World} {H H' : Hp} {h : Heap} {a : Addr} (x : ObjOk P w H h a (.dK [])) : ObjOk P w H' h a (.dT []) := by
  obtain ⟨_, hs, vs, r, o, es, ep, e1, e2, e3⟩ := x
  cases r
  refine ⟨Nat.zero_le _, hs, [], .nil, o, es, ep, e1, e2, e3.1, ?_, List.nodup_nil⟩
  have q := e3.2.2.1
  generalize es.toList = l at q
  cases q
  rfl
end Kd

namespace Kd
open PySem PySem.Spec PyProof.Rows L2
theorem both_kinds2 {P : Program} {w : World} {H H' : Hp} {h : Heap} {a : Addr} (x : ObjOk P w H h a (.dT [])) : ObjOk P w H' h a (.dK []) := by
  obtain ⟨_, hs, xs, r, o, es, ep, e1, e2, e3, e4, _⟩ := x
  cases r
  have e5 : es.toList = [] := e4
  refine ⟨Nat.zero_le _, hs, [], .nil, o, es, ep, e1, e2, e3, ?_, ?_, List.nodup_nil⟩
  · intro e he
    have : e ∈ es.toList := by simpa using he
    rw [e5] at this
    cases this
  · rw [e5]; exact .nil
section
variable {X : Cx} {pins : List (Addr × Obj)} {σ : L2.St} {H : Hp} {s : Shared} {a : Addr}
theorem flipT (I : Inv X pins σ H s) (e : H a = some (.dK [])) : Inv X pins σ (upd H a (.dT [])) s := by
  have h0 := I.hok a _ e
  have h1 : ∃ u, s.heap.get? a = some u := let ⟨_, _, _, _, o, _, _, q, _⟩ := h0; ⟨o, q⟩
  exact I.write (t' := s.toks) (h' := s.heap) (by rw [e]; trivial) (.inl rfl) (fun _ _ _ q => q) h1 (both_kinds h0)
theorem flipK (I : Inv X pins σ H s) (e : H a = some (.dT [])) : Inv X pins σ (upd H a (.dK [])) s := by
  have h0 := I.hok a _ e
  have h1 : ∃ u, s.heap.get? a = some u := let ⟨_, _, _, _, o, _, _, q, _⟩ := h0; ⟨o, q⟩
  exact I.write (t' := s.toks) (h' := s.heap) (by rw [e]; trivial) (.inl rfl) (fun _ _ _ q => q) h1 (both_kinds2 h0)
theorem upd_back {o : HO} (e : H a = some o) {u : HO} : upd (upd H a u) a o = H := by
  funext b
  by_cases z : b = a
  · subst z; rw [upd_same, e]
  · rw [upd_ne z, upd_ne z]
/-- the dict as one of the key's kind -/
def DAsk (H : Hp) (a : Addr) (y : V) (r : Option V) : Prop :=
  DGet H a y r ∨ (H a = some (.dK []) ∧ r = none ∧ ∃ (q : Addr) (ks : List Key), y = .ref q ∧ H q = some (.tup (ks.map kV))) ∨ (H a = some (.dT []) ∧ r = none ∧ ∃ k, y = kV k)
theorem DAsk.run {P : Hp → Shared → Prop} {y : V} {r : Option V} (I : Inv X pins σ H s) (d : DAsk H a y r)
    (h : ∀ H', Inv X pins σ H' s → DGet H' a y r → (∀ s', Inv X pins σ H' s' → Inv X pins σ H s') → P H' s) : ∃ H', P H' s := by
  rcases d with d | ⟨e, rfl, q, ks, rfl, eq⟩ | ⟨e, rfl, k, rfl⟩
  · exact ⟨H, h H I d fun _ q => q⟩
  · have ne : q ≠ a := fun z => by subst z; rw [e] at eq; cases eq
    refine ⟨_, h _ (flipT I e) (.inr ⟨[], ks, q, .inl upd_same, rfl, by rw [upd_ne ne]; exact eq, rfl⟩) fun s' I' => ?_⟩
    have := flipK I' (a := a) upd_same
    rw [upd_back e] at this
    exact this
  · refine ⟨_, h _ (flipK I e) (.inl ⟨[], k, .inl upd_same, rfl, rfl⟩) fun s' I' => ?_⟩
    have := flipT I' (a := a) upd_same
    rw [upd_back e] at this
    exact this
end
/-- what a dict tells of a key -/
theorem dr_ask {K : PySem.W.Frag} {c : Lb} {H : Hp} {kvs : Kvs} {a : Addr} {k : D} {j : KK} {y : V} (r : DR K c H kvs a) (p : Rp K c H k y) (hk : k.kk = some j) (ok : okKey kvs j = true) :
    (valD kvs j = none ∧ DAsk H a y none) ∨ ∃ d x, valD kvs j = some d ∧ DGet H a y (some x) ∧ Rp K c H d x := by
  obtain ⟨q1, q2⟩ := rp_key k p hk
  rcases r with ⟨kv, e, r⟩ | ⟨kv, e, r⟩
  · by_cases h1 : j.flat1 = true
    · rw [← kk1_flat] at h1
      obtain ⟨i, hi⟩ := Option.isSome_iff_exists.mp h1
      have ey := q1 i hi
      subst ey
      rcases rk_val hi r with ⟨v1, v2⟩ | ⟨d, x, v1, v2, v3⟩
      · exact .inl ⟨v1, .inl (.inl ⟨kv, i, .inl e, rfl, v2.symm⟩)⟩
      · exact .inr ⟨d, x, v1, .inl ⟨kv, i, .inl e, rfl, v2.symm⟩, v3⟩
    · have h2 : j.flatT = true ∧ kvs.all (fun z => z.1.flatT) = true := by
        unfold okKey at ok
        rcases (Bool.or_eq_true _ _).mp ok with q | q
        · rw [Bool.and_eq_true] at q; exact absurd q.1 h1
        · rw [Bool.and_eq_true] at q; exact q
      have hT := h2.1
      rw [← kkT_flat] at hT
      obtain ⟨i, hi⟩ := Option.isSome_iff_exists.mp hT
      obtain ⟨b, ey, eb⟩ := q2 i hi
      subst ey
      cases r with
      | nil => exact .inl ⟨rfl, .inr (.inl ⟨e, rfl, b, i, rfl, eb⟩)⟩
      | cons h p r' =>
        have z1 := rk_flat (RKs.cons h p r')
        have z2 := h2.2
        rw [List.all_cons, Bool.and_eq_true] at z1 z2
        exact (flat_not z1.1 z2.1).elim
  · by_cases h1 : j.flatT = true
    · rw [← kkT_flat] at h1
      obtain ⟨i, hi⟩ := Option.isSome_iff_exists.mp h1
      obtain ⟨b, ey, eb⟩ := q2 i hi
      subst ey
      rcases rt_val hi r with ⟨v1, v2⟩ | ⟨d, x, v1, v2, v3⟩
      · exact .inl ⟨v1, .inl (.inr ⟨kv, i, b, .inl e, rfl, eb, v2.symm⟩)⟩
      · exact .inr ⟨d, x, v1, .inr ⟨kv, i, b, .inl e, rfl, eb, v2.symm⟩, v3⟩
    · have h2 : j.flat1 = true ∧ kvs.all (fun z => z.1.flat1) = true := by
        unfold okKey at ok
        rcases (Bool.or_eq_true _ _).mp ok with q | q
        · rw [Bool.and_eq_true] at q; exact q
        · rw [Bool.and_eq_true] at q; exact absurd q.1 h1
      have hT := h2.1
      rw [← kk1_flat] at hT
      obtain ⟨i, hi⟩ := Option.isSome_iff_exists.mp hT
      have ey := q1 i hi
      subst ey
      cases r with
      | nil => exact .inl ⟨rfl, .inr (.inr ⟨e, rfl, i, rfl⟩)⟩
      | cons h p r' =>
        have z1 := rt_flat (RTs.cons h p r')
        have z2 := h2.2
        rw [List.all_cons, Bool.and_eq_true] at z1 z2
        exact (flat_not z2.1 z1.1).elim
theorem val_ok {kvs : Kvs} {j : KK} {d : D} (h : valD kvs j = some d) : ∃ q ∈ kvs, q.1 = j := by
  unfold valD at h
  cases e : kvs.find? fun kv => decide (kv.1 = j) with
  | none => rw [e] at h; cases h
  | some q =>
    have h1 := List.mem_of_find?_eq_some e
    have h2 := List.find?_some e
    exact ⟨q, h1, of_decide_eq_true h2⟩
/-- a key that is there is of the dict's kind -/
theorem okKey_of {K : PySem.W.Frag} {c : Lb} {H : Hp} {kvs : Kvs} {a : Addr} {j : KK} {d : D} (r : DR K c H kvs a) (h : valD kvs j = some d) : okKey kvs j = true := by
  obtain ⟨q, hq, e⟩ := val_ok h
  unfold okKey
  rcases r with ⟨kv, _, r⟩ | ⟨kv, _, r⟩
  · have z := rk_flat r
    have z2 := List.all_eq_true.mp z q hq
    rw [e] at z2
    rw [z, z2]; rfl
  · have z := rt_flat r
    have z2 := List.all_eq_true.mp z q hq
    rw [e] at z2
    rw [z, z2]; simp

section
variable {X : Cx}
def rDIn (neg : Bool) : R2 := fun y x H Q => ∃ a r, x = .ref a ∧ DAsk H a y r ∧ Q (.bl (if neg then !r.isSome else r.isSome)) H
theorem op_dIn (hu : X.A.units + 1 < cLine) : OpR X (compareOp .In) (rDIn false) := by
  intro pins s σ H y x u v Q I ry rx h
  obtain ⟨a, r, rfl, d, q⟩ := h
  cases rx
  obtain ⟨H', z⟩ := d.run (P := fun _ s => wpAny (model X.prog X.w) X.A (compareOp .In u (.ref a)) (EP X pins σ Q) X.xe s) I fun H' I' g back => d_in hu I' g ry fun s' I2 => ⟨.bl r.isSome, H, back s' I2, rfl, q⟩
  exact z
theorem op_dNotIn (hu : X.A.units + 1 < cLine) : OpR X (compareOp .NotIn) (rDIn true) := by
  intro pins s σ H y x u v Q I ry rx h
  obtain ⟨a, r, rfl, d, q⟩ := h
  cases rx
  obtain ⟨H', z⟩ := d.run (P := fun _ s => wpAny (model X.prog X.w) X.A (compareOp .NotIn u (.ref a)) (EP X pins σ Q) X.xe s) I fun H' I' g back => d_notIn hu I' g ry fun s' I2 => ⟨.bl (!r.isSome), H, back s' I2, rfl, q⟩
  exact z
def rInT (K : PySem.W.Frag) (neg : Bool) : R2 := fun x y H Q => ∃ d ds, Dp K H x d ∧ Dp K H y (.tuple ds) ∧ SeqAt.shaped d = true ∧ SeqAt.shaped (.list ds) = true ∧ Q (.bl (if neg then !ds.any fun z => PyData.eqv z d else ds.any fun z => PyData.eqv z d)) H
theorem op_inT (hu : X.A.units + 65 < cLine) : OpR X (compareOp .In) (rInT X.K false) := by
  intro pins s σ H x y v u Q I rx ry h
  obtain ⟨d, ds, hd, he, sd, se, q⟩ := h
  obtain ⟨as, r1⟩ := Dp.reads I d x v hd rx
  obtain ⟨bs, r2⟩ := Dp.reads I (.tuple ds) y u he ry
  exact SeqAt.in_tuple_reads r2 r1 (by simpa only [PyData.canLay0] using SeqAt.canLay_of_shaped se) (SeqAt.canLay_of_shaped sd) (room_in_shaped sd hu) ⟨.bl _, H, I, rfl, q⟩
theorem op_notInT (hu : X.A.units + 65 < cLine) : OpR X (compareOp .NotIn) (rInT X.K true) := by
  intro pins s σ H x y v u Q I rx ry h
  obtain ⟨d, ds, hd, he, sd, se, q⟩ := h
  obtain ⟨as, r1⟩ := Dp.reads I d x v hd rx
  obtain ⟨bs, r2⟩ := Dp.reads I (.tuple ds) y u he ry
  exact SeqAt.notIn_tuple_reads r2 r1 (by simpa only [PyData.canLay0] using SeqAt.canLay_of_shaped se) (SeqAt.canLay_of_shaped sd) (room_in_shaped sd hu) ⟨.bl _, H, I, rfl, q⟩
theorem memD_some {ys : List D} {x : D} {z : Bool} (h : memD ys x = some z) : ∃ d ds, x.py = some d ∧ D.pys ys = some ds ∧ SeqAt.shaped d = true ∧ SeqAt.shaped (.list ds) = true ∧ z = ds.any fun w => PyData.eqv w d := by
  unfold memD at h
  split at h
  · rename_i d ds e1 e2
    split at h
    · rename_i hs
      rw [Bool.and_eq_true] at hs
      exact ⟨d, ds, e1, e2, hs.1, hs.2, (Option.some.inj h).symm⟩
    · cases h
  · cases h
theorem shaped_all {ds : List PyData} (h : SeqAt.shaped (.list ds) = true) : PyData.canLayAll0 ds = true := by
  have := shaped_lay h
  simpa only [PyData.canLay0] using this
/-- what «in» asks, seen from the data -/
theorem in_cases {K : PySem.W.Frag} {c : Lb} {H : Hp} {m : M} {σ : L2.St} {x y : V} {vx vy : Vw} {z : Bool} (rel : Rel K c m σ H) (rx : VwR K c H vx x) (ry : VwR K c H vy y) (e : cIn vx vy = some z) :
    (∃ d ds, Dp K H x d ∧ Dp K H y (.list ds) ∧ SeqAt.shaped d = true ∧ SeqAt.shaped (.list ds) = true ∧ z = ds.any fun w => PyData.eqv w d) ∨
    (∃ d ds, Dp K H x d ∧ Dp K H y (.tuple ds) ∧ SeqAt.shaped d = true ∧ SeqAt.shaped (.list ds) = true ∧ z = ds.any fun w => PyData.eqv w d) ∨
    (∃ a r, y = .ref a ∧ DAsk H a x r ∧ z = r.isSome) ∨ (∃ i j, x = .str i ∧ y = .str j ∧ z = !(Builtin.Str.occurrences j i 0 j.length 1).isEmpty) := by
  unfold cIn at e
  split at e
  · rename_i ys
    obtain ⟨d, ds, h1, h2, s1, s2, rfl⟩ := memD_some e
    obtain ⟨a, xs, rfl, q1, q2⟩ := ry
    exact .inl ⟨d, ds, vw_dp rx h1 (shaped_lay s1), .lst q1 (Rps.dp ys _ ds q2 h2 (shaped_all s2)), s1, s2, rfl⟩
  · rename_i ys
    obtain ⟨d, ds, h1, h2, s1, s2, rfl⟩ := memD_some e
    cases ry with
    | tup q1 q2 => exact .inr (.inl ⟨d, ds, vw_dp rx h1 (shaped_lay s1), .tup (SqT.of q1) (Rps.dp ys _ ds q2 h2 (shaped_all s2)), s1, s2, rfl⟩)
  · rename_i kvs
    split at e
    · rename_i j hj
      split at e
      · rename_i ok
        cases e
        obtain ⟨a, rfl, r⟩ := ry
        cases vx with
        | d d =>
          rcases dr_ask r rx hj ok with ⟨v, g⟩ | ⟨w, x', v, g, _⟩
          · exact .inr (.inr (.inl ⟨a, none, rfl, g, by rw [v]; rfl⟩))
          · exact .inr (.inr (.inl ⟨a, some x', rfl, .inl g, by rw [v]; rfl⟩))
        | l _ => simp [Vw.D, D.kk] at hj
        | k _ => simp [Vw.D, D.kk] at hj
      · cases e
    · cases e
  · rename_i b
    split at e
    · rename_i a
      cases e
      cases rx
      cases ry
      exact .inr (.inr (.inr ⟨a, b, rfl, rfl, rfl⟩))
    · cases e
  · cases e
theorem cmp_in (hu : X.A.units + 65 < cLine) : CmpOk X .In cIn := ⟨_, (op_inD hu).or ((op_inT hu).or ((op_dIn (by omega)).or op_in_str)), fun c m σ H x y vx vy z Q rel rx ry e k => by
  rcases in_cases rel rx ry e with ⟨d, ds, h1, h2, s1, s2, rfl⟩ | ⟨d, ds, h1, h2, s1, s2, rfl⟩ | ⟨a, r, rfl, g, rfl⟩ | ⟨i, j, rfl, rfl, rfl⟩
  · exact .inl ⟨d, ds, h1, h2, s1, s2, k _ rfl⟩
  · exact .inr (.inl ⟨d, ds, h1, h2, s1, s2, k _ rfl⟩)
  · exact .inr (.inr (.inl ⟨a, r, rfl, g, k _ rfl⟩))
  · exact .inr (.inr (.inr ⟨i, j, rfl, rfl, k _ rfl⟩))⟩
theorem cmp_notIn (hu : X.A.units + 65 < cLine) : CmpOk X .NotIn cNotIn := ⟨_, (op_notInD hu).or ((op_notInT hu).or ((op_dNotIn (by omega)).or L2.op_notin_str)), fun c m σ H x y vx vy z Q rel rx ry e k => by
  unfold cNotIn at e
  rw [Option.map_eq_some_iff] at e
  obtain ⟨w, e, e2⟩ := e
  subst e2
  rcases in_cases rel rx ry e with ⟨d, ds, h1, h2, s1, s2, rfl⟩ | ⟨d, ds, h1, h2, s1, s2, rfl⟩ | ⟨a, r, rfl, g, rfl⟩ | ⟨i, j, rfl, rfl, rfl⟩
  · exact .inl ⟨d, ds, h1, h2, s1, s2, k _ rfl⟩
  · exact .inr (.inl ⟨d, ds, h1, h2, s1, s2, k _ rfl⟩)
  · exact .inr (.inr (.inl ⟨a, r, rfl, g, k _ rfl⟩))
  · exact .inr (.inr (.inr ⟨i, j, rfl, rfl, k _ rfl⟩))⟩
theorem is_cases {K : PySem.W.Frag} {c : Lb} {H : Hp} {x y : V} {vx vy : Vw} {z : Bool} (rx : VwR K c H vx x) (ry : VwR K c H vy y) (e : cIs vx vy = some z) : y = .non ∧ z = decide (x = .non) := by
  unfold cIs at e
  split at e
  · cases ry
    split at e
    · cases e; cases rx; exact ⟨rfl, rfl⟩
    · rename_i hne
      cases e
      refine ⟨rfl, ?_⟩
      cases vx with
      | d d =>
        cases rx <;> first | rfl | exact (hne rfl).elim
      | l _ => obtain ⟨a, _, rfl, _⟩ := rx; rfl
      | k _ => obtain ⟨a, rfl, _⟩ := rx; rfl
  · cases e
theorem cmp_is : CmpOk X .Is cIs := ⟨_, op_isN, fun c m σ H x y vx vy z Q rel rx ry e k => by
  obtain ⟨h1, h2⟩ := is_cases rx ry e
  exact ⟨h1, by rw [← h2]; exact k _ rfl⟩⟩
theorem cmp_isNot : CmpOk X .IsNot cIsNot := ⟨_, op_notN, fun c m σ H x y vx vy z Q rel rx ry e k => by
  unfold cIsNot at e
  rw [Option.map_eq_some_iff] at e
  obtain ⟨w, e, e2⟩ := e
  subst e2
  obtain ⟨h1, h2⟩ := is_cases rx ry e
  exact ⟨h1, by rw [← h2]; exact k _ rfl⟩⟩
theorem cmp_all {op : CmpOp} {f : Vw → Vw → Option Bool} (hu : X.A.units + 65 < cLine) (h : cmpOp op = some f) : CmpOk X op f := by
  cases op <;> first | cases h | skip
  all_goals first | exact cmp_eq (by omega) | exact cmp_ne (by omega) | exact cmp_lt (by omega) | exact cmp_le (by omega) | exact cmp_gt | exact cmp_ge | exact cmp_in hu | exact cmp_notIn hu | exact cmp_is | exact cmp_isNot

/-! ### subscripts -/
def rIxD : R2 := fun x y H Q => ∃ a v, x = .ref a ∧ DGet H a y (some v) ∧ Q v H
theorem ix_dict (hu : X.A.units + 1 < cLine) : IxR X rIxD := by
  intro value slice pins s σ H x y v u Q I rx ry h hs
  obtain ⟨a, w, rfl, g, q⟩ := h
  cases rx
  exact tail_any (dict_typeIs I g) PySem.F.slot_dict_getitem.lookup (d_getItem hu I g ry fun w' s' I' rw' => ⟨w, H, I', rw', q⟩) hs
theorem atI_rps {K : PySem.W.Frag} {c : Lb} {H : Hp} {ds : List D} {xs : List V} {i : Int} {d : D} (r : Rps K c H ds xs) (h : atI ds i = some d) : ∃ x, atI xs i = some x ∧ Rp K c H d x := by
  unfold atI at h ⊢
  rw [← r.length]
  cases e : ixN ds.length i with
  | none => rw [e] at h; cases h
  | some j =>
    rw [e] at h
    exact r.get h
theorem ix_all (hu : X.A.units + 1 < cLine) : ∃ r, IxR X r ∧ Snd2 X.K oIx r := by
  refine ⟨_, (ix_seq (X := X)).or (ix_dict hu), ?_⟩
  intro c m σ H x y vx vy z Q rel rx ry e k
  unfold oIx at e
  split at e
  · rename_i ds
    split at e
    · rename_i i
      cases ry
      rw [Option.map_eq_some_iff] at e
      obtain ⟨d, e1, e2⟩ := e
      subst e2
      obtain ⟨a, xs, rfl, h1, r1⟩ := rx
      obtain ⟨v, hv, rv⟩ := atI_rps r1 e1
      exact .inl (.inl ⟨a, xs, i, v, rfl, rfl, h1, hv, kont_v k rel rv⟩)
    · cases e
  · rename_i ds
    split at e
    · rename_i i
      cases ry
      rw [Option.map_eq_some_iff] at e
      obtain ⟨d, e1, e2⟩ := e
      subst e2
      cases rx with
      | tup h1 r1 =>
        obtain ⟨v, hv, rv⟩ := atI_rps r1 e1
        exact .inl (.inr (.inl ⟨_, _, i, v, rfl, rfl, SqT.of h1, hv, kont_v k rel rv⟩))
    · cases e
  · rename_i w
    split at e
    · rename_i i
      cases ry
      cases rx
      split at e
      · rename_i hz
        rw [Option.map_eq_some_iff] at e
        obtain ⟨d, e1, e2⟩ := e
        subst e2
        exact .inl (.inr (.inr ⟨w, i, d, rfl, rfl, hz, e1, kont_v k rel (.str _)⟩))
      · cases e
    · cases e
  · rename_i kvs
    split at e
    · rename_i j hj
      rw [Option.map_eq_some_iff] at e
      obtain ⟨d, e1, e2⟩ := e
      subst e2
      obtain ⟨a, rfl, r⟩ := rx
      cases vy with
      | d d' =>
        rcases dr_ask r ry hj (okKey_of r e1) with ⟨v, _⟩ | ⟨w, x', v, g, p⟩
        · rw [v] at e1; cases e1
        · rw [v] at e1; cases e1
          exact .inr ⟨a, x', rfl, g, kont_v k rel p⟩
      | l _ => simp [Vw.D, D.kk] at hj
      | k _ => simp [Vw.D, D.kk] at hj
    · cases e
  · cases e
/-- slices -/
def Snd3 (K : PySem.W.Frag) (f : Vw → Option Int → Option Int → Option Op) (r : V → Option Int → Option Int → Hp → VK → Prop) : Prop :=
  ∀ c m σ H x vx lo hi z Q, Rel K c m σ H → VwR K c H vx x → f vx lo hi = some z → Kont K c m σ H z Q → r x lo hi H Q
theorem cut_whole {α : Type} (xs : List α) (lo hi : Option Int) (h : HT.sIx xs.length 0 lo = 0 ∧ HT.sIx xs.length xs.length hi = xs.length) : cutD xs lo hi = xs := by
  unfold cutD
  rw [h.1, h.2]
  simp
theorem cut_all : ∃ r, SlR X r ∧ Snd3 X.K oCut r := by
  refine ⟨_, (sl_list (X := X)).or ((sl_tupA (X := X)).or sl_str), ?_⟩
  intro c m σ H x vx lo hi z Q rel rx e k
  unfold oCut at e
  split at e
  · rename_i ds
    cases e
    obtain ⟨a, xs, rfl, h1, r1⟩ := rx
    exact .inl ⟨a, xs, rfl, h1, fun p hp => kont_l k rel hp (r1.cut lo hi)⟩
  · rename_i ds
    cases e
    cases rx with
    | tup h1 r1 =>
      refine .inr (.inl ⟨_, _, rfl, SqT.of h1, fun w => ?_, fun _ p hp => kont_t k rel hp (r1.cut lo hi)⟩)
      rw [cut_whole ds lo hi (by rw [r1.length]; exact w)] at k
      exact kont_v k rel (.tup h1 r1)
  · rename_i w
    split at e
    · rename_i hz
      cases e
      cases rx
      exact .inr (.inr ⟨w, rfl, hz, kont_v k rel (.str _)⟩)
    · cases e
  · cases e
end
end Kd

namespace Kd
open PySem PySem.Spec PyProof.Rows L2
section
variable {X : Cx} {nv : Nv} {a b e : Expr} {pos : Pos} {d d' : DE} {t : DT}
abbrev PD (X : Cx) (nv : Nv) (e : Expr) (d : DE) : Prop := PE X e (TD X.K nv d)
abbrev PB (X : Cx) (nv : Nv) (e : Expr) (t : DT) : Prop := PT X e (TB X.K nv t)

theorem good_ok {K : PySem.W.Frag} {c : Lb} {m : M} {σ : L2.St} {H : Hp} {Q : VK} {o : Op} {x : V} (rel : Rel K c m σ H) (g : Good K c H σ (NE K c σ Q) (.ok o m)) (r : RpO K c H σ o x) (w : ∀ a, OwnA o x a → c a ≠ some .out) : Q x H :=
  g c H (Fr.refl _ _) rel x r w
theorem pd_int {i : Int} {j : Nat} : PD X nv (.Constant (.int i) j pos) (eC (.int i)) := PE.conv pe_int fun σ H Q ⟨c, m, rel, g⟩ => good_ok (o := .v (.int i)) rel g (.int i) fun _ z => z.elim
theorem pd_bl {i : Bool} {j : Nat} : PD X nv (.Constant (.bool i) j pos) (eC (.bl i)) := PE.conv pe_bl fun σ H Q ⟨c, m, rel, g⟩ => good_ok (o := .v (.bl i)) rel g (.bl i) fun _ z => z.elim
theorem pd_str {i : Str} {j : Nat} : PD X nv (.Constant (.str i) j pos) (eC (.str i)) := PE.conv pe_str fun σ H Q ⟨c, m, rel, g⟩ => good_ok (o := .v (.str i)) rel g (.str i) fun _ z => z.elim
theorem pd_non {j : Nat} : PD X nv (.Constant .none j pos) (eC .non) := PE.conv pe_non fun σ H Q ⟨c, m, rel, g⟩ => good_ok (o := .v .non) rel g .non fun _ z => z.elim
theorem pd_var {i : Nat} {x : Str} (hN : X.N[i]? = some x) (hv : Vis X.env.scope x) (hd : (x == ("__debug__" : Str)) = false) (hcd : (x == ("__classdict__" : Str)) = false) : PD X nv (.Name x pos) (eVar i) := by
  refine PE.conv (pe_var hN hv hd hcd) fun σ H Q ⟨c, m, rel, g⟩ => ?_
  unfold eVar at g
  split at g
  · rename_i d e
    obtain ⟨x, h1, h2⟩ := rel.sl i _ e
    exact ⟨x, h1, good_ok (o := .v d) rel g h2 fun _ z => z.elim⟩
  · rename_i d e
    obtain ⟨a, h1, _⟩ := rel.sl i _ e
    exact ⟨_, h1, good_ok (o := .sl i) rel g h1 fun _ z => z.elim⟩
  · rename_i d e
    obtain ⟨a, h1, _⟩ := rel.sl i _ e
    exact ⟨_, h1, good_ok (o := .sl i) rel g h1 fun _ z => z.elim⟩
  · exact g.elim
theorem pd_glob {x : Str} {dd : D} {v : V} {u : Value} (hg : Gl X x) (hm : X.mg x = some u) (r : RelV v u) (rp : ∀ c H, Rp X.K c H dd v) (hd : (x == ("__debug__" : Str)) = false) : PD X nv (.Name x pos) (eC dd) :=
  PE.conv (pe_glob hg hm r hd) fun σ H Q ⟨c, m, rel, g⟩ => good_ok (o := .v dd) rel g (rp _ _) fun _ z => z.elim

/-! ### argument lists -/
theorem nostar {e : Expr} (h : notStar e = true) (es : List Expr) (env : Env) : starEach (e :: es) env = (false, eval e env) :: starEach es env := by
  cases e <;> first | rfl | (simp [notStar] at h)
theorem pl_nil : PA X [] (TL X.K nv (eList [])) := PA.conv pa_nil fun σ H Q ⟨c, m, rel, g⟩ => g c H (Fr.refl _ _) rel [] .nil
theorem pl_cons {es : List Expr} {ds : List DE} (hs : notStar e = true) (ha : PD X nv e d) (hr : PA X es (TL X.K nv (eList ds))) : PA X (e :: es) (TL X.K nv (eList (d :: ds))) := by
  refine PA.conv (pa_cons ha hr (nostar hs es X.env)) fun σ H Q h => ?_
  refine good_eF_bind (N := fun _ => NL X.K Q) h fun c c2 H0 H1 m2 z x f2 rel2 rx g => ?_
  refine ⟨c2, m2, rel2, ?_⟩
  refine (Good.mono f2 g).bind fun zs m3 c3 H3 e3 f3 rel3 g3 => ?_
  intro xs rxs
  exact g3 c3 H3 f3 rel3 _ (.cons (rx.mono f3.toFw) rxs)
theorem pd_tup {es : List Expr} {ds : List DE} {k : Nat} (h : PA X es (TL X.K nv (eList ds))) : PD X nv (.Tuple es k pos) (eTup ds) := by
  refine PE.conv (pe_tup h) fun σ H Q ⟨c, m, rel, g⟩ => ?_
  refine ⟨c, m, rel, g.bind fun zs m1 c1 H1 e1 f1 rel1 g1 => ?_⟩
  intro xs rxs
  split at g1
  · rename_i hz
    refine ⟨by rw [← rxs.length]; exact hz, fun p hp => ?_⟩
    exact kont_t (kont_of f1 g1) rel1 hp rxs
  · exact g1.elim
theorem pd_lst {es : List Expr} {ds : List DE} (h : PA X es (TL X.K nv (eList ds))) : PD X nv (.List es pos) (eLst ds) := by
  refine PE.conv (pe_lst h) fun σ H Q ⟨c, m, rel, g⟩ => ?_
  refine ⟨c, m, rel, g.bind fun zs m1 c1 H1 e1 f1 rel1 g1 => ?_⟩
  intro xs rxs
  split at g1
  · rename_i hz
    refine ⟨by rw [← rxs.length]; exact hz, fun p hp => ?_⟩
    exact kont_l (kont_of f1 g1) rel1 hp rxs
  · exact g1.elim

/-! ### operators -/
theorem pd_bin {op : Operator} {f : Vw → Vw → Option Op} (ho : BinOk X op f) (ha : PD X nv a d) (hb : PD X nv b d') : PD X nv (.BinOp a op b pos) (e2 f d d') := by
  obtain ⟨r, h1, h2⟩ := ho.ok
  exact PE.conv (pe_op h1 ha hb) fun σ H Q h => good_e2 h2 h
theorem pd_un {op : UnaryOp} {f : Vw → Option Op} (ho : ∃ r, UnR X (unaryOp op) r ∧ Snd1 X.K f r) (ha : PD X nv a d) : PD X nv (.UnaryOp op a pos) (e1 f d) := by
  obtain ⟨r, h1, h2⟩ := ho
  exact PE.conv (pe_un h1 ha) fun σ H Q h => good_e1 h2 h
theorem nomarkS {op : CmpOp} {b : Expr} (h : isSet b = false) : behindInMarks op b = false := by
  cases b <;> first | rfl | (simp [isSet] at h)
/-- from a value that is a truth value -/
theorem good_eB {K : PySem.W.Frag} {σ : L2.St} {H : Hp} {Q : VK} (h : TD K nv (eB t) σ H Q) : TB K nv t σ H (fun b H' => Q (.bl b) H') := by
  obtain ⟨c, m, rel, g⟩ := h
  exact ⟨c, m, rel, g.bind fun b m1 c1 H1 e1 f1 rel1 g1 => g1 c1 H1 f1 rel1 _ (.bl b) fun _ z => z.elim⟩
theorem pd_cmp1 {op : CmpOp} {f : Vw → Vw → Option Bool} (ho : CmpOk X op f) (ha : PD X nv a d) (hb : PD X nv b d') (hs : isSet b = false) : PD X nv (.Compare a [op] [b] pos) (eB (t2 f d d')) := by
  obtain ⟨r, h1, h2⟩ := ho.ok
  exact PE.conv (pe_cmpR h1 ha hb (nomarkS hs)) fun σ H Q h => good_t2 (Q' := fun b H' => Q (.bl b) H') h2 (fun _ _ q => q) (good_eB h)
theorem pb_cmp1 {op : CmpOp} {f : Vw → Vw → Option Bool} (ho : CmpOk X op f) (ha : PD X nv a d) (hb : PD X nv b d') (hs : isSet b = false) : PB X nv (.Compare a [op] [b] pos) (t2 f d d') := by
  obtain ⟨r, h1, h2⟩ := ho.ok
  exact PT.conv (pt_cmpR h1 ha hb (nomarkS hs)) fun σ H Q h => good_t2 (Q' := Q) (Q := fun x H' => ∃ k, x = .bl k ∧ Q k H') h2 (fun b _ q => ⟨b, rfl, q⟩) h
theorem lastMarks2 {op op' : CmpOp} {b e : Expr} (h : isSet e = false) : lastMarks [op, op'] [b, e] = false := by
  show behindInMarks op' e = false
  exact nomarkS h
theorem good_t3 {K : PySem.W.Frag} {σ : L2.St} {H : Hp} {f g : Vw → Vw → Option Bool} {r r' : R2} {d1 d2 d3 : DE} {Q : VK} {Q' : Bool → Hp → Prop} (s : SndB K f r) (s' : SndB K g r') (hq : ∀ b H, Q' b H → Q (.bl b) H)
    (h : TB K nv (t3 f g d1 d2 d3) σ H Q') : tChain r r' (TD K nv d1) (TD K nv d2) (TD K nv d3) σ H Q := by
  refine two (N := fun _ => NB Q') h fun c c1 c2 H0 H1 H2 m2 o p x y f1 f2 rel2 rx ry wx wy _ gg => ?_
  cases e2 : vw o m2 with
  | none => rw [e2] at gg; exact gg.elim
  | some v =>
    cases e3 : vw p m2 with
    | none => rw [e2, e3] at gg; exact gg.elim
    | some u =>
      rw [e2, e3] at gg
      cases e4 : f v u with
      | none => simp only [Option.bind_some, e4, R.of_none, R.bind_no] at gg; exact gg.elim
      | some k =>
        simp only [Option.bind_some, e4, R.of_some, R.bind_ok] at gg
        refine s c2 m2 σ H2 x y v u k _ rel2 (vw_ok rel2 rx e2) (vw_ok rel2 ry e3) e4 fun w ew => ⟨k, ew, ?_⟩
        cases k with
        | false =>
          simp only [Bool.false_eq_true, if_false] at gg ⊢
          exact hq _ _ (gg c2 H2 (f1.trans f2) rel2)
        | true =>
          simp only [if_true] at gg ⊢
          refine ⟨c2, m2, rel2, ?_⟩
          refine (Good.mono (f1.trans f2) gg).bind fun q m4 c4 H4 e5 f4 rel4 g4 => ?_
          intro z rz wz
          obtain ⟨b, e6, g6⟩ := of_some g4
          cases e7 : vw p m4 with
          | none => rw [e7] at e6; cases e6
          | some v' =>
            cases e8 : vw q m4 with
            | none => rw [e7, e8] at e6; cases e6
            | some u' =>
              rw [e7, e8] at e6
              exact s' c4 m4 σ H4 y z v' u' b Q rel4 (vw_ok rel4 (ry.mono f4) e7) (vw_ok rel4 rz e8) e6 fun w ew => by subst ew; exact hq _ _ (g6 c4 H4 f4 rel4)
theorem pd_cmp2 {op op' : CmpOp} {f g : Vw → Vw → Option Bool} {d3 : DE} (ho : CmpOk X op f) (ho' : CmpOk X op' g) (ha : PD X nv a d) (hb : PD X nv b d') (he : PD X nv e d3) (hs : isSet e = false) : PD X nv (.Compare a [op, op'] [b, e] pos) (eB (t3 f g d d' d3)) := by
  obtain ⟨r, h1, h2⟩ := ho.ok
  obtain ⟨r', h3, h4⟩ := ho'.ok
  exact PE.conv (pe_chain h1 h3 ha hb he (lastMarks2 hs)) fun σ H Q h => good_t3 (Q' := fun b H' => Q (.bl b) H') h2 h4 (fun _ _ q => q) (good_eB h)
theorem pb_cmp2 {op op' : CmpOp} {f g : Vw → Vw → Option Bool} {d3 : DE} (ho : CmpOk X op f) (ho' : CmpOk X op' g) (ha : PD X nv a d) (hb : PD X nv b d') (he : PD X nv e d3) (hs : isSet e = false) : PB X nv (.Compare a [op, op'] [b, e] pos) (t3 f g d d' d3) := by
  obtain ⟨r, h1, h2⟩ := ho.ok
  obtain ⟨r', h3, h4⟩ := ho'.ok
  exact PT.conv (pt_chain h1 h3 ha hb he (lastMarks2 hs)) fun σ H Q h => good_t3 (Q' := Q) (Q := fun x H' => ∃ k, x = .bl k ∧ Q k H') h2 h4 (fun b _ q => ⟨b, rfl, q⟩) h

/-! ### truth -/
theorem good_tE {K : PySem.W.Frag} {σ : L2.St} {H : Hp} {Q : Bool → Hp → Prop} (h : TB K nv (tE d) σ H Q) : TD K nv d σ H (fun x H1 => ∃ c, x = .bl c ∧ Q c H1) := by
  obtain ⟨c, m, rel, g⟩ := h
  refine ⟨c, m, rel, g.bind fun o m1 c1 H1 e1 f1 rel1 g1 => ?_⟩
  intro x rx wx
  split at g1
  · rename_i b
    cases rx
    exact ⟨b, rfl, g1 c1 H1 f1 rel1⟩
  · exact g1.elim
/-- an expression that is no test of its own kind -/
theorem plain_true {e : Expr} (h : isPlainT e = true) (env : Env) (whole : Sem Value) : isTrue e env whole = (do let v ← whole; standAt e.pos; holding [v] (truthy v)) := by
  cases e <;> first | rfl | (simp [isPlainT] at h; done) | skip
  rename_i op x p
  cases op <;> first | rfl | (simp [isPlainT] at h)
theorem pb_val (he : PD X nv e d) (hp : isPlainT e = true) : PB X nv e (tE d) := PT.conv (pt_val he fun whole => plain_true hp X.env whole) fun σ H Q h => good_tE h
theorem pb_not (ha : PB X nv a t) : PB X nv (.UnaryOp .Not a pos) (tNot t) := PT.conv (pt_not ha) fun σ H Q ⟨c, m, rel, g⟩ => ⟨c, m, rel, g.bind fun b m1 c1 H1 e1 f1 rel1 g1 => g1 c1 H1 f1 rel1⟩
theorem good_tif {K : PySem.W.Frag} {σ : L2.St} {H : Hp} {α : Type} {N : α → Lb → Hp → Prop} {k : Bool → M → R α} {P : Bool → Hp → Prop} (h : ∃ c m, Rel K c m σ H ∧ Good K c H σ N ((t nv m).bind k))
    (q : ∀ b c1 H1 m1, Rel K c1 m1 σ H1 → Good K c1 H1 σ N (k b m1) → P b H1) : TB K nv t σ H P := by
  obtain ⟨c, m, rel, g⟩ := h
  exact ⟨c, m, rel, g.bind fun b m1 c1 H1 e1 f1 rel1 g1 => q b c1 H1 m1 rel1 (Good.mono f1 g1)⟩
theorem pw_and_last (ha : PB X nv a t) : PW X (.BoolOp .And [a] pos) (TB X.K nv (tAnd [t])) := by
  refine ⟨fun wh pins s σ H Q I h => ?_⟩
  refine (pw_and1 ha).run wh pins s σ H Q I ?_
  refine good_tif h fun b c1 H1 m1 rel1 g => ?_
  cases b with
  | true => exact g c1 H1 (Fr.refl _ _) rel1
  | false => exact g c1 H1 (Fr.refl _ _) rel1
theorem pw_or_last (ha : PB X nv a t) : PW X (.BoolOp .Or [a] pos) (TB X.K nv (tOr [t])) := by
  refine ⟨fun wh pins s σ H Q I h => ?_⟩
  refine (pw_or1 ha).run wh pins s σ H Q I ?_
  refine good_tif h fun b c1 H1 m1 rel1 g => ?_
  cases b with
  | true => exact g c1 H1 (Fr.refl _ _) rel1
  | false => exact g c1 H1 (Fr.refl _ _) rel1
theorem pw_and_more {rest : List Expr} {ts : List DT} (ha : PB X nv a t) (hr : PW X (.BoolOp .And (b :: rest) pos) (TB X.K nv (tAnd ts))) : PW X (.BoolOp .And (a :: b :: rest) pos) (TB X.K nv (tAnd (t :: ts))) := by
  refine ⟨fun wh pins s σ H Q I h => ?_⟩
  refine (pw_and ha hr).run wh pins s σ H Q I ?_
  refine good_tif h fun b c1 H1 m1 rel1 g => ?_
  cases b with
  | true => simp only [if_true] at g ⊢; exact ⟨c1, m1, rel1, g⟩
  | false => simp only [Bool.false_eq_true, if_false] at g ⊢; exact g c1 H1 (Fr.refl _ _) rel1
theorem pw_or_more {rest : List Expr} {ts : List DT} (ha : PB X nv a t) (hr : PW X (.BoolOp .Or (b :: rest) pos) (TB X.K nv (tOr ts))) : PW X (.BoolOp .Or (a :: b :: rest) pos) (TB X.K nv (tOr (t :: ts))) := by
  refine ⟨fun wh pins s σ H Q I h => ?_⟩
  refine (pw_or ha hr).run wh pins s σ H Q I ?_
  refine good_tif h fun b c1 H1 m1 rel1 g => ?_
  cases b with
  | true => simp only [if_true] at g ⊢; exact g c1 H1 (Fr.refl _ _) rel1
  | false => simp only [Bool.false_eq_true, if_false] at g ⊢; exact ⟨c1, m1, rel1, g⟩
/-! .. as values -/
theorem TD.mono {K : PySem.W.Frag} {σ : L2.St} {H : Hp} {Q Q' : VK} (h : TD K nv d σ H Q) (k : ∀ x H, Q x H → Q' x H) : TD K nv d σ H Q' := by
  obtain ⟨c, m, rel, g⟩ := h
  exact ⟨c, m, rel, g.imp fun o c1 H1 f n x r w => k _ _ (n x r w)⟩
theorem good_dif {K : PySem.W.Frag} {σ : L2.St} {H : Hp} {Q : VK} {k : Bool → M → R Op} {P : V → Hp → Prop} (h : ∃ c m, Rel K c m σ H ∧ Good K c H σ (NE K c σ Q) ((tE d nv m).bind k))
    (q : ∀ b c1 H1 m1, Rel K c1 m1 σ H1 → Good K c1 H1 σ (NE K c1 σ Q) (k b m1) → P (.bl b) H1) : TD K nv d σ H P := by
  obtain ⟨c, m, rel, g⟩ := h
  have z : TB K nv (tE d) σ H (fun b H1 => P (.bl b) H1) := ⟨c, m, rel, g.bind fun b m1 c1 H1 e1 f1 rel1 g1 => q b c1 H1 m1 rel1 (GoodE.mono f1 g1)⟩
  exact (good_tE z).mono fun x H1 ⟨b, e, p⟩ => by subst e; exact p
theorem pd_one {op : BoolOp} (ha : PD X nv a d) : PD X nv (.BoolOp op [a] pos) d := pe_one ha
theorem pd_and_more {rest : List Expr} {ds : List DE} {d2 : DE} (ha : PD X nv a d) (hr : PD X nv (.BoolOp .And (b :: rest) pos) (eAnd (d2 :: ds))) : PD X nv (.BoolOp .And (a :: b :: rest) pos) (eAnd (d :: d2 :: ds)) := by
  refine PE.conv (pe_and ha hr) fun σ H Q h => ?_
  refine good_dif h fun b c1 H1 m1 rel1 g => ⟨b, rfl, ?_⟩
  cases b with
  | true => simp only [if_true] at g ⊢; exact ⟨c1, m1, rel1, g⟩
  | false => simp only [Bool.false_eq_true, if_false] at g ⊢; exact good_ok (o := .v (.bl false)) rel1 g (.bl _) fun _ z => z.elim
theorem pd_or_more {rest : List Expr} {ds : List DE} {d2 : DE} (ha : PD X nv a d) (hr : PD X nv (.BoolOp .Or (b :: rest) pos) (eOr (d2 :: ds))) : PD X nv (.BoolOp .Or (a :: b :: rest) pos) (eOr (d :: d2 :: ds)) := by
  refine PE.conv (pe_or ha hr) fun σ H Q h => ?_
  refine good_dif h fun b c1 H1 m1 rel1 g => ⟨b, rfl, ?_⟩
  cases b with
  | true => simp only [if_true] at g ⊢; exact good_ok (o := .v (.bl true)) rel1 g (.bl _) fun _ z => z.elim
  | false => simp only [Bool.false_eq_true, if_false] at g ⊢; exact ⟨c1, m1, rel1, g⟩
theorem pd_not (ha : PD X nv a d) : PD X nv (.UnaryOp .Not a pos) (eB (tNot (tE d))) := by
  refine PE.conv (pe_not ha) fun σ H Q h => ?_
  obtain ⟨c, m, rel, g⟩ := good_eB h
  exact good_tE ⟨c, m, rel, g.bind fun b m1 c1 H1 e1 f1 rel1 g1 => g1 c1 H1 f1 rel1⟩
theorem pd_if {tt : Expr} (hc : PB X nv tt t) (ha : PD X nv a d) (hb : PD X nv b d') : PD X nv (.IfExp tt a b pos) (eIf t d d') := by
  refine PE.conv (pe_ifExp hc ha hb) fun σ H Q h => ?_
  obtain ⟨c, m, rel, g⟩ := h
  refine ⟨c, m, rel, g.bind fun b m1 c1 H1 e1 f1 rel1 g1 => ?_⟩
  show if b = true then _ else _
  cases b with
  | true => exact ⟨c1, m1, rel1, GoodE.mono f1 g1⟩
  | false => exact ⟨c1, m1, rel1, GoodE.mono f1 g1⟩
theorem pb_if {tt : Expr} {t2 t3 : DT} (hc : PB X nv tt t) (ha : PB X nv a t2) (hb : PB X nv b t3) : PB X nv (.IfExp tt a b pos) (tIf t t2 t3) := by
  refine ⟨fun pins s σ H Q I h => ?_⟩
  have h2 : TB X.K nv t σ H (fun c H1 => if c = true then TB X.K nv t2 σ H1 Q else TB X.K nv t3 σ H1 Q) := good_tif h fun b c1 H1 m1 rel1 g => by
    cases b with
    | true => exact ⟨c1, m1, rel1, g⟩
    | false => exact ⟨c1, m1, rel1, g⟩
  have h3 := hc.run pins s σ H _ I h2
  show wpAny _ _ (do if ← isTrue tt X.env (eval tt X.env) then isTrue a X.env (eval a X.env) else isTrue b X.env (eval b X.env)) _ _ s
  refine wpAny_bind (thn h3 fun c s1 ⟨H1, I1, q⟩ => ?_)
  cases c with
  | true => exact ha.run pins s1 σ H1 Q I1 q
  | false => exact hb.run pins s1 σ H1 Q I1 q

/-! ### subscripts -/
theorem plainIx {b : Expr} (h : isSlice b = false) : PlainIx b := by
  intro o i
  cases b <;> first | rfl | (simp [isSlice] at h)
theorem pd_ix (hu : X.A.units + 1 < cLine) (ha : PD X nv a d) (hb : PD X nv b d') (hs : isSlice b = false) : PD X nv (.Subscript a b pos) (e2 oIx d d') := by
  obtain ⟨r, h1, h2⟩ := ix_all (X := X) hu
  exact PE.conv (pe_ix h1 ha hb (plainIx hs)) fun σ H Q h => good_e2 h2 h
def TO' (K : PySem.W.Frag) (nv : Nv) (d : Option DE) : TO := fun σ H Q => ∃ c m, Rel K c m σ H ∧ Good K c H σ (fun i _ H' => Q i H') (eOpt d nv m)
theorem po_none' : PO X none (TO' X.K nv none) := ⟨fun pins s σ H Q I ⟨c, m, rel, g⟩ => po_none.run pins s σ H Q I (g c H (Fr.refl _ _) rel)⟩
theorem po_some' (h : PD X nv e d) : PO X (some e) (TO' X.K nv (some d)) := ⟨fun pins s σ H Q I ⟨c, m, rel, g⟩ => (po_some h).run pins s σ H Q I ⟨c, m, rel, g.bind fun o m1 c1 H1 e1 f1 rel1 g1 x rx wx => by
  split at g1
  · rename_i i
    cases rx
    exact ⟨i, rfl, g1 c1 H1 f1 rel1⟩
  · exact g1.elim⟩⟩
theorem pd_slice {f : Vw → Option Int → Option Int → Option Op} {lo hi : Option Expr} {dl dh : Option DE} {p2 : Pos} (hr : ∃ r, SlR X r ∧ Snd3 X.K f r) (he : PD X nv e d) (hl : PO X lo (TO' X.K nv dl)) (hh : PO X hi (TO' X.K nv dh)) :
    PD X nv (.Subscript e (.Slice lo hi none p2) pos) (eSlice f d dl dh) := by
  obtain ⟨r, h1, h2⟩ := hr
  refine PE.conv (pe_slice h1 he hl hh) fun σ H Q ⟨c, m, rel, g⟩ => ?_
  refine ⟨c, m, rel, g.bind fun o m1 c1 H1 e1 f1 rel1 g1 => ?_⟩
  intro x rx wx
  refine ⟨c1, m1, rel1, (Good.mono f1 g1).bind fun i m2 c2 H2 e2 f2 rel2 g2 => ?_⟩
  refine ⟨c2, m2, rel2, (Good.mono f2 g2).bind fun j m3 c3 H3 e3 f3 rel3 g3 => ?_⟩
  obtain ⟨z, e4, g4⟩ := of_some g3
  cases e5 : vw o m3 with
  | none => rw [e5] at e4; cases e4
  | some v =>
    rw [e5] at e4
    refine h2 c3 m3 σ H3 x v i j z Q rel3 (vw_ok rel3 ((rx.mono f2).mono f3) e5) e4 ?_
    refine fun c' H' w fr rel' r' k => g4 c' H' (f3.trans fr) rel' w r' fun a e q => ?_
    exact k a e (f3.out a (f2.out a (f1.out a q).1).1).1
end
end Kd

namespace Kd
open PySem PySem.Spec PyProof.Rows L2
/-- what others know stands as the machine has it -/
structure RelS (K : PySem.W.Frag) (c : Lb) (S : List Ob) (H : Hp) : Prop where
  ob : ∀ l o, S[l]? = some o → ∃ a, c a = some (.lc l) ∧ ObR K c H o a
  uq : ∀ a b l, c a = some (.lc l) → c b = some (.lc l) → a = b
  lt : ∀ a l, c a = some (.lc l) → l < S.length
  lv : ∀ a, c a ≠ none → H a ≠ none
theorem Rel.toS {K : PySem.W.Frag} {c : Lb} {m : M} {σ : L2.St} {H : Hp} (r : Rel K c m σ H) : RelS K c m.S H := ⟨r.ob, r.uq, r.lt, r.lv⟩
def GoodC (K : PySem.W.Frag) (c : Lb) (H : Hp) (Q : VK) : CR → Prop
  | .ok o S => ∀ c' H' x, Fr c H c' H' → RelS K c' S H' → RpO K c' H' [] o x → (∀ a, OwnA o x a → c a ≠ some .out) → Q x H'
  | .ex _ _ _ => False
  | .no => False
/-- what a def promises: the machine's own result -/
def spC (K : PySem.W.Frag) (f : List D → List Ob → CR) (n : Nat) : Sp := fun vs H Q _ => vs.length = n ∧ ∃ c S ds, RelS K c S H ∧ Rps K c H ds vs ∧ GoodC K c H Q (f ds S)
/-- a callee's labels: what was the caller's slots' is held by others -/
def hide (c : Lb) : Lb := fun a => match c a with
  | some (.sl _) => some .out
  | l => l
def isSl (o : Option Lab) : Bool := match o with
  | some (.sl _) => true
  | _ => false
/-- .. and back -/
def unhide (c c' : Lb) : Lb := fun a => if isSl (c a) = true then c a else if isSl (c' a) = true then none else c' a
section
variable {K : PySem.W.Frag} {c c' : Lb} {H H' : Hp} {a : Addr}
theorem hide_sl {i : Nat} (h : c a = some (.sl i)) : hide c a = some .out := by unfold hide; rw [h]
theorem hide_of {l : Lab} (h : c a = some l) (n : ∀ i, l ≠ .sl i) : hide c a = some l := by
  unfold hide
  rw [h]
  cases l <;> first | rfl | exact absurd rfl (n _)
theorem hide_none (h : c a = none) : hide c a = none := by unfold hide; rw [h]
theorem of_hide {l : Lab} (h : hide c a = some l) : c a = some l ∨ (l = .out ∧ isSl (c a) = true) := by
  unfold hide at h
  split at h
  · rename_i i e
    cases h
    exact .inr ⟨rfl, by rw [e]; rfl⟩
  · exact .inl h
theorem isSl_some (h : isSl (c a) = true) : ∃ i, c a = some (.sl i) := by
  unfold isSl at h
  split at h
  · rename_i i e; exact ⟨i, e⟩
  · cases h
theorem hide_fw : Fw c H (hide c) H := ⟨fun a h => ⟨hide_of h fun _ => by simp, rfl⟩, fun a l h => hide_of h fun _ => by simp, fun _ _ h => h, fun _ _ _ h => h⟩
theorem hide_relS {S : List Ob} (r : RelS K c S H) : RelS K (hide c) S H where
  ob := fun l o e => by
    obtain ⟨a, h1, h2⟩ := r.ob l o e
    exact ⟨a, hide_of h1 fun _ => by simp, h2.mono hide_fw rfl⟩
  uq := fun a b l h1 h2 => by
    rcases of_hide h1 with h1 | ⟨z, _⟩
    · rcases of_hide h2 with h2 | ⟨z, _⟩
      · exact r.uq a b l h1 h2
      · cases z
    · cases z
  lt := fun a l h => by
    rcases of_hide h with h | ⟨z, _⟩
    · exact r.lt a l h
    · cases z
  lv := fun a h => by
    refine r.lv a fun z => h (hide_none z)
theorem un_of (n : isSl (c a) = false) (n' : isSl (c' a) = false) : unhide c c' a = c' a := by
  unfold unhide
  rw [if_neg (by rw [n]; simp), if_neg (by rw [n']; simp)]
/-- from the callee's labels to the caller's -/
theorem un_fw (f : Fr (hide c) H c' H') : Fw c' H' (unhide c c') H' := by
  have key : ∀ a l, c' a = some l → (∀ i, l ≠ .sl i) → l ≠ .out → unhide c c' a = some l := fun a l h n1 n2 => by
    have q1 : isSl (c a) = false := by
      cases q : isSl (c a) with
      | false => rfl
      | true =>
        obtain ⟨i, e⟩ := isSl_some q
        have := (f.out a (hide_sl e)).1
        rw [h] at this
        exact absurd (Option.some.inj this) n2
    have q2 : isSl (c' a) = false := by
      rw [h]
      cases l <;> first | rfl | exact absurd rfl (n1 _)
    rw [un_of q1 q2, h]
  exact ⟨fun a h => ⟨key a _ h (fun _ => by simp) (by simp), rfl⟩, fun a l h => key a _ h (fun _ => by simp) (by simp), fun _ _ h => h, fun _ _ _ h => h⟩
theorem un_fr (f : Fr (hide c) H c' H') : Fr c H (unhide c c') H' := by
  refine ⟨(hide_fw.trans f.toFw).trans (un_fw f), fun a h => ?_⟩
  obtain ⟨e1, e2⟩ := f.out a (hide_of h fun _ => by simp)
  exact ⟨by rw [un_of (by rw [h]; rfl) (by rw [e1]; rfl), e1], e2⟩
theorem un_sl (f : Fr (hide c) H c' H') {i : Nat} (h : c a = some (.sl i)) : unhide c c' a = some (.sl i) ∧ H' a = H a := by
  refine ⟨?_, (f.out a (hide_sl h)).2⟩
  unfold unhide
  rw [if_pos (by rw [h]; rfl), h]
theorem un_lc {l : Nat} (h : unhide c c' a = some (.lc l)) : c' a = some (.lc l) := by
  unfold unhide at h
  split at h
  · rename_i q
    obtain ⟨i, e⟩ := isSl_some q
    rw [e] at h; cases h
  · split at h
    · cases h
    · exact h
theorem un_rel {m : M} {S' : List Ob} {σ : L2.St} (r : Rel K c m σ H) (f : Fr (hide c) H c' H') (s : RelS K c' S' H') : Rel K (unhide c c') { m with S := S' } σ H' where
  sl := fun i z e => (r.sl i z e).mono (un_fr f).toFw fun a h _ => un_sl f h
  ob := fun l o e => by
    obtain ⟨a, h1, h2⟩ := s.ob l o e
    exact ⟨a, (un_fw f).lc a l h1, h2.mono (un_fw f) rfl⟩
  uq := fun a b l h1 h2 => s.uq a b l (un_lc h1) (un_lc h2)
  lt := fun a l h => s.lt a l (un_lc h)
  lv := fun a h => by
    by_cases q : isSl (c a) = true
    · obtain ⟨i, e⟩ := isSl_some q
      rw [(un_sl f e).2]
      exact r.lv a (by rw [e]; simp)
    · refine s.lv a fun z => h ?_
      unfold unhide
      rw [if_neg q]
      split
      · rfl
      · exact z
  len := r.len
theorem un_rpo (f : Fr (hide c) H c' H') {o : Op} {x : V} {σ : L2.St} (r : RpO K c' H' [] o x) (w : ∀ a, OwnA o x a → hide c a ≠ some .out) : RpO K (unhide c c') H' σ o x := by
  have key : ∀ a, OwnA o x a → c' a = some .out → unhide c c' a = some .out := fun a h e => by
    have n1 : isSl (c a) = false := by
      cases q : isSl (c a) with
      | false => rfl
      | true =>
        obtain ⟨i, e⟩ := isSl_some q
        exact absurd (hide_sl e) (w a h)
    rw [un_of n1 (by rw [e]; rfl), e]
  cases o with
  | v d => exact Rp.mono (un_fw f) r
  | nl ds => obtain ⟨a, e, h1, h2⟩ := r; exact ⟨a, e, key a e h1, h2.mono (un_fw f) rfl⟩
  | nd ds => obtain ⟨a, e, h1, h2⟩ := r; exact ⟨a, e, key a e h1, h2.mono (un_fw f) rfl⟩
  | sl i => cases (show ([] : L2.St)[i]? = some (some x) from r)
/-- at a call -/
theorem call_sp {f : List D → List Ob → CR} {n : Nat} {m : M} {σ : L2.St} {ds : List D} {vs : List V} {Q : VK} (rel : Rel K c m σ H) (r : Rps K c H ds vs) (hl : vs.length = n) {c0 : Lb} {H0 : Hp} (fr : Fr c0 H0 c H)
    (g : Good K c0 H0 σ (NE K c0 σ Q) ((f ds m.S).to m)) {E : XK} : spC K f n vs H Q E := by
  refine ⟨hl, hide c, m.S, ds, hide_relS rel.toS, r.mono hide_fw, ?_⟩
  cases e : f ds m.S with
  | ok o S =>
    rw [e] at g
    intro c' H' x f1 s rx w
    refine g (unhide c c') H' (fr.trans (un_fr f1)) (un_rel rel f1 s) x (un_rpo f1 rx w) fun a h z => ?_
    have z2 := (fr.out a z).1
    exact w a h (hide_of z2 fun _ => by simp)
  | ex a b S => rw [e] at g; exact g.elim
  | no => rw [e] at g; exact g.elim
end

/-! ### the promise of a def, where no repr is under way -/
structure FnG (P : Program) (w : World) (K : PySem.W.Frag) (mg : Str → Option Value) (base : Heap) (CX : CXT) (k : Nat) (f : Addr) (fd : FuncData) (ps : List Str) (sp : Sp) : Prop where
  len : ∀ vs H Q E, sp vs H Q E → vs.length = ps.length
  run : ∀ (A : Around) (outer : List Env) (s : Shared) (H : Hp) (args : Args) (us : List Value) (vs : List V) (Q : VK) (E : XK), Room k A → A.guards = some [] → Env0 P w K mg base A outer s H →
    BindsTo s fd args (ps.zip us) → Vals vs us → sp vs H Q E → codeAny (model P w) A (.call (.ref f) args) (L2.CR CX outer P w H s Q E) s
section
variable {X : Cx} {CX : CXT} {k : Nat} {f : Addr} {fd : FuncData} {ps ks : List Str} {sp : Sp} {E : XK} {x : Str} {p pos : Pos} {e : Expr} {es : List Expr} {kws : List Keyword} {t tk : TA}
theorem g_run {pins : List (Addr × Obj)} {σ : L2.St} {H : Hp} {s : Shared} {Q : VK} {args : Args} {us : List Value} {vs : List V} (F : FnG X.prog X.w X.K X.mg X.base CX k f fd ps sp) (hr : Room k X.A) (hq : X.A.guards = some [])
    (hx : Passes CX X E) (I : Inv X pins σ H s) (hb : us.length = ps.length → BindsTo s fd args (ps.zip us)) (r : Vals vs us) (h : sp vs H Q E) :
    wpAny (model X.prog X.w) X.A (call (.ref f) args.pos args.kw) (EP X pins σ Q) X.xe s := by
  have hl : us.length = ps.length := by rw [← r.length]; exact F.len _ _ _ _ h
  refine wpAny_call (codeAny_mono (F.run X.A X.stack s H ⟨args.pos, args.kw⟩ us vs Q E hr hq I.env0 (hb hl) r h) fun rr s' q => ?_)
  match rr, q with
  | .error e, q => exact hx pins σ H s e s' I q
  | .ok (.ret u), q => exact I.after q
  | .ok .next, q => exact q.elim
  | .ok .brk, q => exact q.elim
  | .ok .cont, q => exact q.elim
theorem g_call (F : FnG X.prog X.w X.K X.mg X.base CX k f fd ps sp) (hr : Room k X.A) (hq : X.A.guards = some []) (hg : Gl X x) (hm : X.mg x = some (.ref f)) (hk : PySem.W.keepIn X.K (.ref f) = true) (hb : Binds X.K fd ps []) (hx : Passes CX X E)
    (ha : PA X (e :: es) t) (hdb : (x == ("__debug__" : Str)) = false) (he : starEach (e :: es) X.env = (false, eval e X.env) :: starEach es X.env) (hpl : (backTo pos (starEach es X.env)).any (·.1) = false) :
    PE X (.Call (.Name x p) (e :: es) [] pos) fun σ H Q => t σ H fun vs H1 => sp vs H1 Q E := by
  refine ⟨fun pins s σ H Q I h => wpAny_Call_Name_kw (ld_glob I hg hm ?_ hdb)⟩
  refine PySem.W.callWith_K (h₀ := X.base) I.ok.mod.kin hk (thn (ha.run pos pins s σ H _ I h) fun us s1 ⟨vs, H1, I1, r, q⟩ => ⟨I1.kIn, ?_⟩) he hpl
  exact g_run (args := ⟨us, []⟩) F hr hq hx I1 (fun hl => by
    have z := hb s1 us I1.kIn (by rw [List.append_nil]; exact hl)
    rw [List.append_nil] at z
    exact z) r q
theorem g_call0 (F : FnG X.prog X.w X.K X.mg X.base CX k f fd ps sp) (hr : Room k X.A) (hq : X.A.guards = some []) (hg : Gl X x) (hm : X.mg x = some (.ref f)) (hk : PySem.W.keepIn X.K (.ref f) = true) (hb : Binds X.K fd ps []) (hx : Passes CX X E)
    (hdb : (x == ("__debug__" : Str)) = false) : PE X (.Call (.Name x p) [] [] pos) fun σ H Q => sp [] H Q E := by
  refine ⟨fun pins s σ H Q I h => wpAny_Call_Name_kw (ld_glob I hg hm ?_ hdb)⟩
  exact PySem.W.callWith_K0 I.kIn hk (g_run (args := ⟨[], []⟩) F hr hq hx I (fun hl => hb s [] I.kIn hl) .nil h)
/-- the places of the parameters among what is given -/
def gP (pl : List Nat) (us ws : List Value) : List Value := pl.map fun i => (us ++ ws).getD i .none
def gPV (pl : List Nat) (vs zs : List V) : List V := pl.map fun i => (vs ++ zs).getD i .non
theorem vals_getD : ∀ {vs : List V} {us : List Value} (i : Nat), Vals vs us → RelV (vs.getD i .non) (us.getD i .none)
  | _, _, _, .nil => rfl
  | _, _, 0, .cons r _ => r
  | _, _, i + 1, .cons _ t => by
    have q := vals_getD i t
    simpa using q
theorem gp_rel {vs zs : List V} {us ws : List Value} (r : Vals vs us) (rz : Vals zs ws) : ∀ pl : List Nat, Vals (gPV pl vs zs) (gP pl us ws)
  | [] => .nil
  | i :: pl => .cons (vals_getD i (r.append rz)) (gp_rel r rz pl)
/-- how a call with keywords binds -/
structure KB (fd : FuncData) (ps ks : List Str) (n : Nat) (pl : List Nat) : Prop where
  to : ∀ (s : Shared) (us ws : List Value), us.length = n → ws.length = ks.length → BindsTo s fd ⟨us, ks.zip ws⟩ (ps.zip (gP pl us ws))
variable {n : Nat} {pl : List Nat}
theorem g_run_kw {pins : List (Addr × Obj)} {σ : L2.St} {H : Hp} {s : Shared} {Q : VK} {us ws : List Value} {vs zs : List V} (F : FnG X.prog X.w X.K X.mg X.base CX k f fd ps sp) (hr : Room k X.A) (hq : X.A.guards = some [])
    (hb : KB fd ps ks n pl) (hx : Passes CX X E) (I : Inv X pins σ H s) (r : Vals vs us) (rz : Vals zs ws) (l1 : vs.length = n) (l2 : zs.length = ks.length) (h : sp (gPV pl vs zs) H Q E) : wpAny (model X.prog X.w) X.A (call (.ref f) us (ks.zip ws)) (EP X pins σ Q) X.xe s :=
  g_run (args := ⟨us, ks.zip ws⟩) F hr hq hx I (fun _ => hb.to s us ws (by rw [← r.length]; exact l1) (by rw [← rz.length]; exact l2)) (gp_rel r rz pl) h
theorem g_callK (F : FnG X.prog X.w X.K X.mg X.base CX k f fd ps sp) (hr : Room k X.A) (hq : X.A.guards = some []) (hg : Gl X x) (hm : X.mg x = some (.ref f)) (hk : PySem.W.keepIn X.K (.ref f) = true) (hb : KB fd ps ks n pl)
    (hx : Passes CX X E) (ha : PA X (e :: es) t) (hkw : PK X kws tk) (hall : (backToKw pos (keywordEach kws X.env)).all (·.1.isSome) = true) (hks : (backToKw pos (keywordEach kws X.env)).filterMap (·.1) = ks)
    (hdb : (x == ("__debug__" : Str)) = false) (he : starEach (e :: es) X.env = (false, eval e X.env) :: starEach es X.env)
    (hpl : ((backTo pos (starEach (e :: es) X.env)).any (·.1) || (backToKw pos (keywordEach kws X.env)).any (·.1.isNone)) = false) :
    PE X (.Call (.Name x p) (e :: es) kws pos) fun σ H Q => t σ H fun vs H1 => tk σ H1 fun zs H2 => vs.length = n ∧ zs.length = ks.length ∧ sp (gPV pl vs zs) H2 Q E := by
  refine ⟨fun pins s σ H Q I h => wpAny_Call_Name_kw (ld_glob I hg hm ?_ hdb)⟩
  refine PySem.W.callWith_KW (h₀ := X.base) I.ok.mod.kin hk hall (thn (ha.run pos pins s σ H _ I h) fun us s1 ⟨vs, H1, I1, r, q⟩ => ?_) hpl he
  refine thn (hkw.run pos pins s1 σ H1 _ I1 q) fun ws s2 ⟨zs, H2, I2, rz, l1, l2, q2⟩ => ⟨I2.kIn, ?_⟩
  rw [hks]
  exact g_run_kw F hr hq hb hx I2 r rz l1 l2 q2
end
/-! ### the rules -/
/-- a def of the text: where it stands, what it promises -/
structure FnW (X : Cx) (k : Nat) (ct : Nat → List D → List Ob → CR) (x : Str) (i : Nat) (ps : List Str) (kws : List (Nat × List Str)) : Prop where
  ex : ∃ f fd, X.mg x = some (.ref f) ∧ PySem.W.keepIn X.K (.ref f) = true ∧ Binds X.K fd ps [] ∧
    (∀ p ∈ kws, ∀ pl, placesO (ps.take p.1 ++ p.2) ps = some pl → KB fd ps p.2 p.1 pl) ∧ FnG X.prog X.w X.K X.mg X.base CX0 k f fd ps (spC X.K (ct i) ps.length)
section
variable {X : Cx} {nv : Nv} {x : Str} {p pos : Pos} {as : List Expr} {ds : List DE} {k i : Nat} {ps : List Str} {kws : List (Nat × List Str)}
theorem stars_plain {as : List Expr} (h : as.all notStar = true) (pos : Pos) (env : Env) : (backTo pos (starEach as env)).any (·.1) = false := by
  induction as with
  | nil => rfl
  | cons a r ih =>
    rw [List.all_cons, Bool.and_eq_true] at h
    rw [nostar h.1]
    show (false || (backTo pos (starEach r env)).any (·.1)) = false
    rw [ih h.2]
    rfl
theorem eList_len : ∀ (ds : List DE) {m m' : M} {zs : List D}, eList ds nv m = .ok zs m' → zs.length = ds.length
  | [], _, _, _, e => by cases e; rfl
  | d :: ds, m, m', zs, e => by
    unfold eList at e
    cases e1 : eF d nv m with
    | ok z m1 =>
      rw [e1] at e
      simp only [Kd.R.bind_ok] at e
      cases e2 : eList ds nv m1 with
      | ok ys m2 =>
        rw [e2] at e
        cases e
        rw [List.length_cons, List.length_cons, eList_len ds e2]
      | ex a b m2 => rw [e2] at e; cases e
      | no => rw [e2] at e; cases e
    | ex a b m2 => rw [e1] at e; cases e
    | no => rw [e1] at e; cases e
/-- as many values as expressions -/
theorem good_len {K : PySem.W.Frag} {σ : L2.St} {H : Hp} {P : List V → Hp → Prop} (h : TL K nv (eList ds) σ H (fun vs H1 => vs.length = ds.length → P vs H1)) : TL K nv (eList ds) σ H P := by
  obtain ⟨c, m, rel, g⟩ := h
  refine ⟨c, m, rel, ?_⟩
  cases e : eList ds nv m with
  | ok zs m' =>
    rw [e] at g
    intro c' H' f' rel' xs rxs
    exact g c' H' f' rel' xs rxs (by rw [← rxs.length, eList_len ds e])
  | ex a b m2 => rw [e] at g; exact g.elim
  | no => rw [e] at g; exact g.elim
theorem pd_call (W : FnW X k nv.ct x i ps kws) (hr : Room k X.A) (hq : X.A.guards = some []) (hg : Gl X x) (hdb : (x == ("__debug__" : Str)) = false) (hs : as.all notStar = true) (ha : PA X as (TL X.K nv (eList ds))) (hl : ds.length = ps.length)
    (hal : as.length = ds.length) : PD X nv (.Call (.Name x p) as [] pos) (eCall i none ds) := by
  obtain ⟨f, fd, hm, hk, hb, _, F⟩ := W.ex
  have key : ∀ σ H Q, TD X.K nv (eCall i none ds) σ H Q → TL X.K nv (eList ds) σ H (fun vs H1 => vs.length = ds.length → spC X.K (nv.ct i) ps.length vs H1 Q E0) := fun σ H Q ⟨c, m, rel, g⟩ => by
    refine ⟨c, m, rel, g.bind fun zs m1 c1 H1 e1 f1 rel1 g1 => ?_⟩
    intro xs rxs hlen
    exact call_sp rel1 rxs (hlen.trans hl) f1 g1
  cases as with
  | nil =>
    refine PE.conv (g_call0 F hr hq hg hm hk hb pass0 hdb) fun σ H Q h => ?_
    have q := key σ H Q h
    have ed : ds = [] := List.eq_nil_of_length_eq_zero hal.symm
    subst ed
    obtain ⟨c, m, rel, g⟩ := q
    exact g c H (Fr.refl _ _) rel [] .nil rfl
  | cons a r =>
    have hs' := hs
    rw [List.all_cons, Bool.and_eq_true] at hs'
    exact PE.conv (g_call F hr hq hg hm hk hb pass0 ha hdb (nostar hs'.1 r X.env) (stars_plain hs'.2 pos X.env)) fun σ H Q h => good_len (key σ H Q h)
end
/-! ### keywords -/
theorem R.assoc {α β γ : Type} (x : R α) (f : α → M → R β) (g : β → M → R γ) : (x.bind f).bind g = x.bind fun a m => (f a m).bind g := by cases x <;> rfl
theorem R.bind_ok' {α : Type} (x : R α) : (x.bind fun a m => Kd.R.ok a m) = x := by cases x <;> rfl
theorem eList_app (nv : Nv) (es : List DE) : ∀ (ds : List DE) (m : M), eList (ds ++ es) nv m = (eList ds nv m).bind fun xs m1 => (eList es nv m1).bind fun ys m2 => .ok (xs ++ ys) m2
  | [], m => (R.bind_ok' _).symm
  | d :: ds, m => by
    show (eF d nv m).bind (fun x m1 => (eList (ds ++ es) nv m1).bind fun xs m2 => .ok (x :: xs) m2) = _
    have e : ∀ x m1, ((eList (ds ++ es) nv m1).bind fun xs m2 => .ok (x :: xs) m2) = (eList ds nv m1).bind fun xs m2 => (eList es nv m2).bind fun ys m3 => .ok (x :: (xs ++ ys)) m3 := fun x m1 => by
      rw [eList_app nv es ds m1, R.assoc]
      simp only [R.assoc, Kd.R.bind_ok]
    simp only [e]
    show _ = ((eF d nv m).bind fun x m1 => (eList ds nv m1).bind fun xs m2 => .ok (x :: xs) m2).bind _
    simp only [R.assoc, Kd.R.bind_ok, List.cons_append]
theorem rps_getD {K : PySem.W.Frag} {c : Lb} {H : Hp} : ∀ {ds : List D} {xs : List V} (i : Nat), Rps K c H ds xs → Rp K c H (ds.getD i .non) (xs.getD i .non)
  | _, _, i, .nil => by simp only [List.getD_nil]; exact .non
  | _, _, 0, .cons p _ => p
  | _, _, i + 1, .cons _ r => by simpa only [List.getD_cons_succ] using rps_getD i r
theorem rps_places {K : PySem.W.Frag} {c : Lb} {H : Hp} {ds : List D} {xs : List V} (r : Rps K c H ds xs) : ∀ pl : List Nat, Rps K c H (pl.map fun i => ds.getD i .non) (pl.map fun i => xs.getD i .non)
  | [] => .nil
  | i :: pl => .cons (rps_getD i r) (rps_places r pl)
theorem places_len {names : List Str} : ∀ {ps : List Str} {pl : List Nat}, placesO names ps = some pl → pl.length = ps.length
  | [], _, e => by cases e; rfl
  | p :: ps, pl, e => by
    unfold placesO at e
    split at e
    · rename_i i is e1 e2
      cases e
      rw [List.length_cons, List.length_cons, places_len e2]
    · cases e
section
variable {X : Cx} {nv : Nv} {x : Str} {p pos : Pos} {as : List Expr} {kws : List Keyword} {ds es : List DE} {k i : Nat} {ps : List Str} {kw : List (Nat × List Str)} {e : Expr} {d : DE} {nm : Str} {kp : Pos} {pl : List Nat} {ks : List Str}
theorem pkl_nil : PK X [] (TL X.K nv (eList [])) := ⟨fun pos pins s σ H Q I ⟨c, m, rel, g⟩ => pk_nil.run pos pins s σ H Q I (g c H (Fr.refl _ _) rel [] .nil)⟩
theorem pkl_cons (ha : PD X nv e d) (hr : PK X kws (TL X.K nv (eList es))) : PK X (⟨some nm, e, kp⟩ :: kws) (TL X.K nv (eList (d :: es))) := by
  refine ⟨fun pos pins s σ H Q I h => (pk_cons ha hr).run pos pins s σ H Q I ?_⟩
  refine good_eF_bind (N := fun _ => NL X.K Q) h fun c c2 H0 H1 m2 z x f2 rel2 rx g => ?_
  refine ⟨c2, m2, rel2, (Good.mono f2 g).bind fun zs m3 c3 H3 e3 f3 rel3 g3 => ?_⟩
  intro xs rxs
  exact g3 c3 H3 f3 rel3 _ (.cons (rx.mono f3.toFw) rxs)
/-- the keywords' names -/
theorem kw_names (pos : Pos) (env : Env) : ∀ {kws : List Keyword} {f : Expr → Option DE} {ks : List (Str × DE)}, kwsO f kws = some ks →
    (backToKw pos (keywordEach kws env)).all (·.1.isSome) = true ∧ (backToKw pos (keywordEach kws env)).filterMap (·.1) = ks.map (·.1) ∧ (backToKw pos (keywordEach kws env)).any (·.1.isNone) = false
  | [], _, _, h => by cases h; exact ⟨rfl, rfl, rfl⟩
  | ⟨none, _, _⟩ :: _, _, _, h => by unfold kwsO at h; cases h
  | ⟨some y, v, q⟩ :: r, f, ks, h => by
    unfold kwsO at h
    split at h
    · rename_i d ds e1 e2
      cases h
      obtain ⟨h1, h2, h3⟩ := kw_names pos env e2
      refine ⟨?_, ?_, ?_⟩
      · show (true && (backToKw pos (keywordEach r env)).all (·.1.isSome)) = true
        rw [h1]; rfl
      · show y :: (backToKw pos (keywordEach r env)).filterMap (·.1) = _
        rw [h2]; rfl
      · show (false || (backToKw pos (keywordEach r env)).any (·.1.isNone)) = false
        rw [h3]; rfl
    · cases h
theorem good_app {K : PySem.W.Frag} {σ : L2.St} {H : Hp} {P : List V → Hp → Prop} (h : TL K nv (eList (ds ++ es)) σ H P) : TL K nv (eList ds) σ H fun vs H1 => TL K nv (eList es) σ H1 fun zs H2 => P (vs ++ zs) H2 := by
  obtain ⟨c, m, rel, g⟩ := h
  rw [eList_app] at g
  refine ⟨c, m, rel, g.bind fun xs m1 c1 H1 e1 f1 rel1 g1 => ?_⟩
  intro vs rvs
  refine ⟨c1, m1, rel1, (Good.mono f1 g1).bind fun ys m2 c2 H2 e2 f2 rel2 g2 => ?_⟩
  intro zs rzs
  exact g2 c2 H2 f2 rel2 _ ((rvs.mono f2.toFw).append rzs)
theorem TL.mono {K : PySem.W.Frag} {σ : L2.St} {H : Hp} {dl : DL} {P P' : List V → Hp → Prop} (h : TL K nv dl σ H P) (q : ∀ vs H1, P vs H1 → P' vs H1) : TL K nv dl σ H P' := by
  obtain ⟨c, m, rel, g⟩ := h
  refine ⟨c, m, rel, ?_⟩
  cases e : dl nv m with
  | ok zs m' =>
    rw [e] at g
    exact fun c' H' f' rel' xs rxs => q _ _ (g c' H' f' rel' xs rxs)
  | ex a b m2 => rw [e] at g; exact g.elim
  | no => rw [e] at g; exact g.elim
theorem pd_callK (W : FnW X k nv.ct x i ps kw) (hr : Room k X.A) (hq : X.A.guards = some []) (hg : Gl X x) (hdb : (x == ("__debug__" : Str)) = false) (hs : as.all notStar = true) (ha : PA X as (TL X.K nv (eList ds))) (hk : PK X kws (TL X.K nv (eList es)))
    {f : Expr → Option DE} {kd : List (Str × DE)} (hks : kwsO f kws = some kd) (hkd : kd.map (·.1) = ks) (hmem : (ds.length, ks) ∈ kw) (hal : as.length = ds.length) (hel : kd.length = es.length) (hpl : placesO (ps.take ds.length ++ ks) ps = some pl) :
    PD X nv (.Call (.Name x p) as kws pos) (eCall i (some pl) (ds ++ es)) := by
  obtain ⟨fa, fd, hm, hkp, _, hkb, F⟩ := W.ex
  have KB := hkb _ hmem pl hpl
  obtain ⟨n1, n2, n3⟩ := kw_names pos X.env hks
  rw [hkd] at n2
  have hz : es.length = ks.length := by rw [← hkd, List.length_map]; exact hel.symm
  have key : ∀ σ H Q, TD X.K nv (eCall i (some pl) (ds ++ es)) σ H Q → TL X.K nv (eList ds) σ H fun vs H1 => TL X.K nv (eList es) σ H1 fun zs H2 => vs.length = ds.length ∧ zs.length = ks.length ∧ spC X.K (nv.ct i) ps.length (gPV pl vs zs) H2 Q E0 := fun σ H Q ⟨c, m, rel, g⟩ => by
    have q : TL X.K nv (eList ds) σ H fun vs H1 => TL X.K nv (eList es) σ H1 fun zs H2 => spC X.K (nv.ct i) ps.length (gPV pl vs zs) H2 Q E0 := by
      refine good_app (P := fun ws H2 => spC X.K (nv.ct i) ps.length (pl.map fun i => ws.getD i .non) H2 Q E0) ⟨c, m, rel, g.bind fun zs m1 c1 H1 e1 f1 rel1 g1 => ?_⟩
      intro xs rxs
      exact call_sp rel1 (rps_places rxs pl) (by rw [List.length_map]; exact places_len hpl) f1 g1
    refine good_len (TL.mono q fun vs H1 q1 l1 => ?_)
    exact good_len (TL.mono q1 fun zs H2 q2 l2 => ⟨l1, l2.trans hz, q2⟩)
  cases as with
  | nil =>
    refine ⟨fun pins s σ H Q I h => wpAny_Call_Name_kw (ld_glob I hg hm ?_ hdb)⟩
    have ed : ds = [] := List.eq_nil_of_length_eq_zero hal.symm
    subst ed
    obtain ⟨c, m, rel, g⟩ := key σ H Q h
    have g' := g c H (Fr.refl _ _) rel [] .nil
    refine PySem.W.callWith_KW0 (h₀ := X.base) I.ok.mod.kin hkp n1 (thn (hk.run pos pins s σ H _ I g') fun ws s2 ⟨zs, H2, I2, rz, l1, l2, q2⟩ => ⟨I2.kIn, ?_⟩) n3
    rw [n2]
    exact g_run_kw F hr hq KB pass0 I2 (.nil) rz l1 l2 q2
  | cons a r =>
    have hs' := hs
    rw [List.all_cons, Bool.and_eq_true] at hs'
    refine PE.conv (g_callK F hr hq hg hm hkp KB pass0 ha hk n1 n2 hdb (nostar hs'.1 r X.env) ?_) key
    rw [stars_plain hs pos X.env, n3]
    rfl
end
end Kd

namespace Kd
open PySem PySem.Spec PyProof.Rows L2
/-- a call of the value u with one, two values -/
def Cal1 (X : Cx) (u : Value) (f : Vw → Option Op) : Prop := ∃ r : List V → Hp → VK → Prop, CallR X u r ∧ Snd1 X.K f fun x H Q => r [x] H Q
def Cal2 (X : Cx) (u : Value) (f : Vw → Vw → Option Op) : Prop := ∃ r : List V → Hp → VK → Prop, CallR X u r ∧ Snd2 X.K f fun x y H Q => r [x, y] H Q
section
variable {X : Cx} {nv : Nv} {x : Str} {p pos : Pos} {a b : Expr} {d d' : DE} {u : Value} {f : Vw → Option Op} {f2 : Vw → Vw → Option Op} {id T : String}
theorem plain1 (h : notStar a = true) (env : Env) : starEach [a] env = (false, eval a env) :: starEach [] env := nostar h [] env
/-- a name that stands for a built-in -/
structure Blt (X : Cx) (x : Str) (u : Value) : Prop where
  g : Gl X x
  m : X.mg x = none
  v : bootBuiltins x = some u
  n : x ≠ "__name__"
  d : (x == ("__debug__" : Str)) = false
theorem pd_blt1 (B : Blt X x u) (hu : (∃ id, u = .builtin id) ∨ ∃ T, u = .type T) (hc : Cal1 X u f) (ha : PD X nv a d) (hs : notStar a = true) : PD X nv (.Call (.Name x p) [a] [] pos) (e1 f d) := by
  obtain ⟨r, h1, h2⟩ := hc
  have hA : PA X [a] (tCons (TD X.K nv d) tNil) := pa_cons ha pa_nil (plain1 hs X.env)
  rcases hu with ⟨id, rfl⟩ | ⟨T, rfl⟩
  · exact PE.conv (pe_callB h1 B.g B.m B.v hA B.n B.d (plain1 hs X.env) rfl) fun σ H Q h => good_e1 h2 h
  · exact PE.conv (pe_callTy h1 B.g B.m B.v hA B.n B.d (plain1 hs X.env) rfl) fun σ H Q h => good_e1 h2 h
theorem pd_blt2 (B : Blt X x u) (hu : (∃ id, u = .builtin id) ∨ ∃ T, u = .type T) (hc : Cal2 X u f2) (ha : PD X nv a d) (hb : PD X nv b d') (hs : notStar a = true) (hs2 : notStar b = true) : PD X nv (.Call (.Name x p) [a, b] [] pos) (e2 f2 d d') := by
  obtain ⟨r, h1, h2⟩ := hc
  have hA : PA X [a, b] (tCons (TD X.K nv d) (tCons (TD X.K nv d') tNil)) := pa_cons ha (pa_cons hb pa_nil (plain1 hs2 X.env)) (nostar hs [b] X.env)
  have hp : (backTo pos (starEach [b] X.env)).any (·.1) = false := by rw [plain1 hs2]; rfl
  rcases hu with ⟨id, rfl⟩ | ⟨T, rfl⟩
  · exact PE.conv (pe_callB h1 B.g B.m B.v hA B.n B.d (nostar hs [b] X.env) hp) fun σ H Q h => good_e2 h2 h
  · exact PE.conv (pe_callTy h1 B.g B.m B.v hA B.n B.d (nostar hs [b] X.env) hp) fun σ H Q h => good_e2 h2 h

/-! ### each -/
theorem cal_len : Cal1 X (.builtin "len") bLen := by
  refine ⟨_, call_len_seq.or (call_len_str.or (call_lenD.or call_len_dT)), fun c m σ H x vx z Q rel rx e k => ?_⟩
  unfold bLen at e
  split at e
  · cases e
    obtain ⟨a, xs, rfl, h, r⟩ := rx
    exact .inl ⟨a, xs, rfl, .inl h, by rw [← r.length]; exact kont_v k rel (.int _)⟩
  · cases e
    cases rx with
    | tup h r => exact .inl ⟨_, _, rfl, .inr (SqT.of h), by rw [← r.length]; exact kont_v k rel (.int _)⟩
  · split at e
    · rename_i hz
      cases e
      cases rx
      exact .inr (.inl ⟨_, rfl, hz, kont_v k rel (.int _)⟩)
    · cases e
  · cases e
    obtain ⟨a, rfl, h⟩ := rx
    rcases h with ⟨kv, h, r⟩ | ⟨kv, h, r⟩
    · exact .inr (.inr (.inl ⟨a, kv, rfl, h, by rw [← r.length]; exact kont_v k rel (.int _)⟩))
    · exact .inr (.inr (.inr ⟨a, kv, rfl, h, by rw [← r.length]; exact kont_v k rel (.int _)⟩))
  · cases e
theorem cal_tuple : Cal1 X (.type "tuple") bTuple := by
  refine ⟨_, call_tuple_of, fun c m σ H x vx z Q rel rx e k => ?_⟩
  unfold bTuple at e
  split at e
  · cases e
    obtain ⟨a, xs, rfl, h, r⟩ := rx
    exact ⟨a, xs, rfl, .inl ⟨h, fun l hl => kont_t k rel hl r⟩⟩
  · cases e
    cases rx with
    | tup h r => exact ⟨_, _, rfl, .inr ⟨SqT.of h, kont_v k rel (.tup h r)⟩⟩
  · cases e
theorem cal_list : Cal1 X (.type "list") bList := by
  refine ⟨_, call_list_of, fun c m σ H x vx z Q rel rx e k => ?_⟩
  unfold bList at e
  split at e
  · cases e
    obtain ⟨a, xs, rfl, h, r⟩ := rx
    exact ⟨a, xs, rfl, .inl h, fun l hl => kont_l k rel hl r⟩
  · cases e
    cases rx with
    | tup h r => exact ⟨_, _, rfl, .inr (SqT.of h), fun l hl => kont_l k rel hl r⟩
  · cases e
theorem cal_int : Cal1 X (.type "int") bInt := by
  refine ⟨_, call_int1, fun c m σ H x vx z Q rel rx e k => ?_⟩
  unfold bInt at e
  split at e
  · cases e
    cases rx
    exact .inl ⟨_, rfl, kont_v k rel (.int _)⟩
  · cases e
    cases rx
    exact .inr ⟨_, rfl, kont_v k rel (.int _)⟩
  · cases e
theorem cal_abs : Cal1 X (.builtin "abs") bAbs := by
  refine ⟨_, call_abs, fun c m σ H x vx z Q rel rx e k => ?_⟩
  unfold bAbs at e
  split at e
  · cases e
    cases rx
    exact ⟨_, rfl, kont_v k rel (.int _)⟩
  · cases e
theorem cal_sum (hc : X.calm = true) : Cal1 X (.builtin "sum") bSum := by
  refine ⟨_, cr_sum hc, fun c m σ H x vx z Q rel rx e k => ?_⟩
  unfold bSum at e
  split at e
  · rename_i ds
    cases e2 : asInts ds with
    | none => rw [e2] at e; cases e
    | some ns =>
      rw [e2] at e
      cases e
      obtain ⟨a, xs, rfl, h, r⟩ := rx
      have q := rps_asInts r e2
      subst q
      exact ⟨a, ns, rfl, h, kont_v k rel (.int _)⟩
  · cases e
theorem minI_ok : ∀ {ns : List Int} {z : Int}, minI ns = some z → z ∈ ns ∧ ∀ y ∈ ns, z ≤ y
  | [], _, h => by cases h
  | x :: r, z, h => by
    unfold minI at h
    cases e : minI r with
    | none =>
      rw [e] at h
      cases h
      have er : r = [] := by
        cases r with
        | nil => rfl
        | cons y s =>
          unfold minI at e
          cases e2 : minI s <;> rw [e2] at e <;> cases e
      subst er
      exact ⟨List.mem_cons_self, fun y hy => by rcases List.mem_cons.mp hy with q | q; · omega
                                                · cases q⟩
    | some w =>
      rw [e] at h
      obtain ⟨h1, h2⟩ := minI_ok e
      have h' : (if w < x then w else x) = z := Option.some.inj h
      by_cases q : w < x
      · rw [if_pos q] at h'
        subst h'
        exact ⟨List.mem_cons_of_mem _ h1, fun y hy => by
          rcases List.mem_cons.mp hy with p | p
          · omega
          · exact h2 y p⟩
      · rw [if_neg q] at h'
        subst h'
        exact ⟨List.mem_cons_self, fun y hy => by
          rcases List.mem_cons.mp hy with p | p
          · omega
          · have := h2 y p; omega⟩
theorem maxI_ok : ∀ {ns : List Int} {z : Int}, maxI ns = some z → z ∈ ns ∧ ∀ y ∈ ns, y ≤ z
  | [], _, h => by cases h
  | x :: r, z, h => by
    unfold maxI at h
    cases e : maxI r with
    | none =>
      rw [e] at h
      cases h
      have er : r = [] := by
        cases r with
        | nil => rfl
        | cons y s =>
          unfold maxI at e
          cases e2 : maxI s <;> rw [e2] at e <;> cases e
      subst er
      exact ⟨List.mem_cons_self, fun y hy => by rcases List.mem_cons.mp hy with q | q; · omega
                                                · cases q⟩
    | some w =>
      rw [e] at h
      obtain ⟨h1, h2⟩ := maxI_ok e
      have h' : (if w > x then w else x) = z := Option.some.inj h
      by_cases q : w > x
      · rw [if_pos q] at h'
        subst h'
        exact ⟨List.mem_cons_of_mem _ h1, fun y hy => by
          rcases List.mem_cons.mp hy with p | p
          · omega
          · exact h2 y p⟩
      · rw [if_neg q] at h'
        subst h'
        exact ⟨List.mem_cons_self, fun y hy => by
          rcases List.mem_cons.mp hy with p | p
          · omega
          · have := h2 y p; omega⟩
theorem cal_min (hc : X.calm = true) : Cal1 X (.builtin "min") bMin := by
  refine ⟨_, cr_min hc, fun c m σ H x vx z Q rel rx e k => ?_⟩
  unfold bMin at e
  split at e
  · rename_i ds
    cases e2 : asInts ds with
    | none => rw [e2] at e; cases e
    | some ns =>
      rw [e2] at e
      cases e3 : minI ns with
      | none => simp [e3] at e
      | some w =>
        simp only [Option.bind_some, e3, Option.map_some] at e
        cases e
        obtain ⟨a, xs, rfl, h, r⟩ := rx
        have q := rps_asInts r e2
        subst q
        obtain ⟨h1, h2⟩ := minI_ok e3
        refine ⟨a, ns, rfl, h, List.length_pos_of_mem h1, fun m hm hle => ?_⟩
        have : m = w := by have a1 := hle w h1; have a2 := h2 m hm; omega
        subst this
        exact kont_v k rel (.int _)
  · cases e
theorem cal_max (hc : X.calm = true) : Cal1 X (.builtin "max") bMax := by
  refine ⟨_, cr_max hc, fun c m σ H x vx z Q rel rx e k => ?_⟩
  unfold bMax at e
  split at e
  · rename_i ds
    cases e2 : asInts ds with
    | none => rw [e2] at e; cases e
    | some ns =>
      rw [e2] at e
      cases e3 : maxI ns with
      | none => simp [e3] at e
      | some w =>
        simp only [Option.bind_some, e3, Option.map_some] at e
        cases e
        obtain ⟨a, xs, rfl, h, r⟩ := rx
        have q := rps_asInts r e2
        subst q
        obtain ⟨h1, h2⟩ := maxI_ok e3
        refine ⟨a, ns, rfl, h, List.length_pos_of_mem h1, fun m hm hle => ?_⟩
        have : m = w := by have a1 := hle w h1; have a2 := h2 m hm; omega
        subst this
        exact kont_v k rel (.int _)
  · cases e
theorem cal_min2 (hc : X.calm = true) : Cal2 X (.builtin "min") bMin2 :=
  ⟨_, call_min2 hc, snd_opI fun i j z Q H e q => ⟨i, j, rfl, by have e' : (if j < i then j else i) = z := Option.some.inj e
                                                                rw [e']; exact q⟩⟩
theorem cal_max2 (hc : X.calm = true) : Cal2 X (.builtin "max") bMax2 :=
  ⟨_, call_max2 hc, snd_opI fun i j z Q H e q => ⟨i, j, rfl, by have e' : (if j > i then j else i) = z := Option.some.inj e
                                                                rw [e']; exact q⟩⟩
theorem rps_asBls {K : PySem.W.Frag} {c : Lb} {H : Hp} : ∀ {ds : List D} {xs : List V} {bs : List Bool}, Rps K c H ds xs → asBls ds = some bs → xs = bs.map V.bl
  | _, _, _, .nil, h => by cases h; rfl
  | d :: ds, _, bs, .cons p r, h => by
    cases d <;> simp only [asBls] at h <;> try cases h
    rename_i b
    cases e : asBls ds with
    | none => rw [e] at h; cases h
    | some cs =>
      rw [e] at h
      cases h
      cases p
      rw [rps_asBls r e]
      rfl
theorem cal_all (hc : X.calm = true) : Cal1 X (.builtin "all") bAll := by
  refine ⟨_, cr_all hc, fun c m σ H x vx z Q rel rx e k => ?_⟩
  unfold bAll at e
  split at e
  · rename_i ds
    cases e2 : asBls ds with
    | none => rw [e2] at e; cases e
    | some ns =>
      rw [e2] at e
      cases e
      obtain ⟨a, xs, rfl, h, r⟩ := rx
      have q := rps_asBls r e2
      subst q
      exact ⟨a, ns, rfl, h, kont_v k rel (.bl _)⟩
  · cases e

/-! ### isinstance -/
def Ty.nm : Ty → String
  | .int => "int"
  | .bool => "bool"
  | .str => "str"
  | .tuple => "tuple"
  | .list => "list"
  | .dict => "dict"
def tyOf : Vw → Option Ty
  | .d (.bl _) => some .bool
  | .d (.int _) => some .int
  | .d (.str _) => some .str
  | .d (.tup _) => some .tuple
  | .l _ => some .list
  | .k _ => some .dict
  | _ => none
theorem kit_all : ∀ t u : Ty, kitB t.nm u.nm = some (decide (u = t) || (decide (t = .bool) && decide (u = .int))) := by
  intro t u
  cases t <;> cases u <;> decide +kernel
theorem kit_non : ∀ u : Ty, kitB "NoneType" u.nm = some false := by
  intro u
  cases u <;> decide +kernel
theorem isTy_ok {t : Ty} {vx : Vw} {b : Bool} {c : Lb} {H : Hp} {x : V} (rx : VwR X.K c H vx x) (e : isTy t vx = some b) : ∃ T, TyX X.K H x (.type T) ∧ kitB T t.nm = some b := by
  cases vx with
  | d d =>
    cases d with
    | non => cases e; cases rx; exact ⟨_, .base .non, kit_non t⟩
    | bl _ => cases e; cases rx; exact ⟨_, .base (.bl _), by have := kit_all .bool t; simpa [Ty.nm] using this⟩
    | int _ => cases e; cases rx; exact ⟨_, .base (.int _), by have := kit_all .int t; simpa [Ty.nm] using this⟩
    | str _ => cases e; cases rx; exact ⟨_, .base (.str _), by have := kit_all .str t; simpa [Ty.nm] using this⟩
    | tup _ =>
      cases e
      cases rx with
      | tup h r => exact ⟨_, .base (.tup h), by have := kit_all .tuple t; simpa [Ty.nm] using this⟩
    | lst _ => cases e
    | dct _ => cases e
    | loc _ => cases e
  | l ds =>
    cases e
    obtain ⟨a, xs, rfl, h, r⟩ := rx
    have z : kitB "list" t.nm = some (decide (t = .list)) := by have := kit_all .list t; simpa [Ty.nm] using this
    rcases h with (h | ⟨o, h⟩) | ⟨o, its, n, h, hc, _⟩
    · exact ⟨_, .base (.lst h), z⟩
    · exact ⟨_, .base (.frz h), z⟩
    · exact ⟨_, .kList h hc, z⟩
  | k kvs =>
    cases e
    obtain ⟨a, rfl, h⟩ := rx
    have z : kitB "dict" t.nm = some (decide (t = .dict)) := by have := kit_all .dict t; simpa [Ty.nm] using this
    rcases h with ⟨kv, h, r⟩ | ⟨kv, h, r⟩
    · exact ⟨_, .base (.dK h), z⟩
    · exact ⟨_, .base (.dT h), z⟩
theorem good_t1 {K : PySem.W.Frag} {σ : L2.St} {H : Hp} {f : Vw → Option Bool} {Q : VK} {P : V → Hp → Prop} (h : TB K nv (t1 f d) σ H fun b H' => Q (.bl b) H') (s : ∀ c H1 x vx b, VwR K c H1 vx x → f vx = some b → Q (.bl b) H1 → P x H1) : TD K nv d σ H P := by
  obtain ⟨c, m, rel, g⟩ := h
  refine ⟨c, m, rel, g.bind fun o m1 c1 H1 e f1 rel1 g1 => ?_⟩
  intro x rx wx
  obtain ⟨b, e1, g2⟩ := of_some g1
  cases e2 : vw o m1 with
  | none => rw [e2] at e1; cases e1
  | some v =>
    rw [e2] at e1
    exact s c1 H1 x v b (vw_ok rel1 rx e2) e1 (g2 c1 H1 f1 rel1)
theorem pe_tyN {t : Str} {T : String} (B : Blt X t (.type T)) : PE X (.Name t p) (fun _ H Q => Q (.ty T) H) :=
  ⟨fun pins s σ H Q I h => ld_blt I B.g B.m B.v ⟨.ty T, H, I, rfl, h⟩ B.n B.d⟩
theorem pd_isi {t : Str} {ty : Ty} {p2 : Pos} (B : Blt X "isinstance" (.builtin "isinstance")) (Bt : Blt X t (.type ty.nm)) (ha : PD X nv a d) (hs : notStar a = true) : PD X nv (.Call (.Name "isinstance" p) [a, .Name t p2] [] pos) (eB (t1 (isTy ty) d)) := by
  have hA : PA X [a, .Name t p2] (tCons (TD X.K nv d) (tCons (fun _ H Q => Q (.ty ty.nm) H) tNil)) := pa_cons ha (pa_cons (pe_tyN Bt) pa_nil rfl) (nostar hs [.Name t p2] X.env)
  refine PE.conv (pe_callB call_isi B.g B.m B.v hA B.n B.d (nostar hs [.Name t p2] X.env) rfl) fun σ H Q h => ?_
  refine good_t1 (P := fun x H1 => rIsi X.K [x, .ty ty.nm] H1 Q) (good_eB h) fun c H1 x vx b rx e q => ?_
  obtain ⟨T, h1, h2⟩ := isTy_ok rx e
  exact ⟨x, .ty ty.nm, _, _, b, rfl, .ty _, h1, kit_ty h2, q⟩
theorem tyOfStr_ok {t : Str} {ty : Ty} (h : tyOfStr t = some ty) : bootBuiltins t = some (.type ty.nm) ∧ t ≠ "__name__" ∧ (t == ("__debug__" : Str)) = false := by
  unfold tyOfStr at h
  split at h
  · rename_i e; cases h; subst e; exact ⟨by decide +kernel, by decide, by decide⟩
  split at h
  · rename_i e; cases h; subst e; exact ⟨by decide +kernel, by decide, by decide⟩
  split at h
  · rename_i e; cases h; subst e; exact ⟨by decide +kernel, by decide, by decide⟩
  split at h
  · rename_i e; cases h; subst e; exact ⟨by decide +kernel, by decide, by decide⟩
  split at h
  · rename_i e; cases h; subst e; exact ⟨by decide +kernel, by decide, by decide⟩
  split at h
  · rename_i e; cases h; subst e; exact ⟨by decide +kernel, by decide, by decide⟩
  · cases h

/-! ### sorted: ints -/
theorem insI_perm (x : Int) : ∀ l : List Int, (insI x l).Perm (x :: l)
  | [] => List.Perm.refl _
  | y :: r => by
    unfold insI
    split
    · exact List.Perm.refl _
    · exact ((insI_perm x r).cons y).trans (List.Perm.swap x y r)
theorem sortI_perm : ∀ l : List Int, (sortI l).Perm l
  | [] => List.Perm.refl _
  | x :: r => (insI_perm x (sortI r)).trans ((sortI_perm r).cons x)
theorem insI_srt (x : Int) : ∀ {l : List Int}, l.Pairwise (· ≤ ·) → (insI x l).Pairwise (· ≤ ·)
  | [], _ => List.pairwise_singleton _ _
  | y :: r, h => by
    unfold insI
    have h1 := List.pairwise_cons.mp h
    split
    · rename_i q
      refine List.pairwise_cons.mpr ⟨fun z hz => ?_, h⟩
      rcases List.mem_cons.mp hz with e | e
      · omega
      · have := h1.1 z e; omega
    · rename_i q
      refine List.pairwise_cons.mpr ⟨fun z hz => ?_, insI_srt x h1.2⟩
      rcases List.mem_cons.mp ((insI_perm x r).mem_iff.mp hz) with e | e
      · omega
      · exact h1.1 z e
theorem sortI_srt : ∀ l : List Int, (sortI l).Pairwise (· ≤ ·)
  | [] => List.Pairwise.nil
  | x :: r => insI_srt x (sortI_srt r)
theorem sortI_one {l m : List Int} (h : m.Perm l) (s : m.Pairwise (· ≤ ·)) : m = sortI l :=
  List.Perm.eq_of_pairwise (fun a b _ _ h1 h2 => Int.le_antisymm h1 h2) s (sortI_srt l) (h.trans (sortI_perm l).symm)
end
end Kd

namespace Kd
open PySem PySem.Spec PyProof.Rows L2
section
variable {X : Cx} {pins : List (Addr × Obj)} {σ : L2.St} {H : Hp} {s : Shared} {c : Lb}
theorem reads_key {P : Program} {w : World} {h : Heap} {k : KK} {j : Key} {u : Value} (hk : kk1 k = some j) (hi : keyIs j u = true) : Reads h u k.p [] := by
  cases k <;> simp only [kk1] at hk <;> cases hk
  · obtain ⟨i, t, e1, e2⟩ | ⟨i, t, e1, e2⟩ := keyIs_shape hi
    · cases e1; subst e2; simp only [KK.p]; exact .int _ _
    · cases e1
  · obtain ⟨i, t, e1, e2⟩ | ⟨i, t, e1, e2⟩ := keyIs_shape hi
    · cases e1
    · cases e1; subst e2; simp only [KK.p]; exact .str _ _
theorem reads_kV {h : Heap} {k : KK} {j : Key} {u : Value} (hk : kk1 k = some j) (r : RelV (kV j) u) : Reads h u k.p [] := by
  cases k <;> simp only [kk1] at hk <;> cases hk
  · obtain ⟨t, rfl⟩ := (show ∃ t, u = Value.int _ t from r)
    simp only [KK.p]; exact .int _ _
  · obtain ⟨t, rfl⟩ := (show ∃ t, u = Value.str _ t from r)
    simp only [KK.p]; exact .str _ _
theorem reads_kVs {h : Heap} : ∀ {ks : List KK} {js : List Key} {us : List Value}, kks1 ks = some js → Vals (js.map kV) us → ReadsAll h us (KK.ps ks) []
  | [], _, _, hk, r => by
    cases hk
    cases r
    simp only [KK.ps]
    exact .nil
  | k :: ks, js, us, hk, r => by
    unfold kks1 at hk
    cases e1 : kk1 k with
    | none => rw [e1] at hk; cases hk
    | some a =>
      cases e2 : kks1 ks with
      | none => rw [e1, e2] at hk; cases hk
      | some b =>
        rw [e1, e2] at hk
        cases hk
        cases r with
        | cons r1 r2 =>
          simp only [KK.ps]
          exact ReadsAll.cons (as := []) (bs := []) (reads_kV e1 r1) (reads_kVs e2 r2)
mutual
theorem Rp.reads (I : Inv X pins σ H s) : ∀ (d : D) (x : V) (u : Value) (y : PyData), Rp X.K c H d x → RelV x u → d.py = some y → ∃ as, Reads s.heap u y as ∧ (noLst d = true → sysModules ∉ as)
  | .non, _, _, _, .non, r, h => by
    simp only [D.py] at h
    cases h
    cases r
    exact ⟨_, .none, fun _ => by simp⟩
  | .bl b, _, _, _, .bl _, r, h => by
    simp only [D.py] at h
    cases h
    cases r
    exact ⟨_, .bool b, fun _ => by simp⟩
  | .int b, _, _, _, .int _, r, h => by
    simp only [D.py] at h
    cases h
    obtain ⟨t, rfl⟩ := r
    exact ⟨_, .int b t, fun _ => by simp⟩
  | .str b, _, _, _, .str _, r, h => by
    simp only [D.py] at h
    cases h
    obtain ⟨t, rfl⟩ := r
    exact ⟨_, .str b t, fun _ => by simp⟩
  | .tup ds, _, _, _, .tup q p, r, h => by
    simp only [D.py, Option.map_eq_some_iff] at h
    obtain ⟨zs, h1, h2⟩ := h
    subst h2
    cases r
    obtain ⟨_, its, rv, o, ho, hc, n, hd⟩ := I.hok _ _ q
    obtain ⟨as, h3, h4⟩ := Rps.readsAll I ds _ its zs p rv h1
    exact ⟨_, .tuple ho hc hd (by simpa using h3), fun z => h4 (by simpa only [noLst] using z)⟩
  | .lst ds, _, _, _, .lst _ q p, r, h => by
    simp only [D.py, Option.map_eq_some_iff] at h
    obtain ⟨zs, h1, h2⟩ := h
    subst h2
    cases r
    obtain ⟨its, rv, ⟨o, n, ho, hc, _, hd⟩, _⟩ := I.list q
    obtain ⟨as, h3, h4⟩ := Rps.readsAll I ds _ its zs p rv h1
    exact ⟨_, .list ho hc hd (by simpa using h3), fun z => by simp [noLst] at z⟩
  | .dct kvs, _, _, _, .dctK (kv := kv) hz q p, r, h => by
    simp only [D.py, Option.map_eq_some_iff] at h
    obtain ⟨zs, h1, h2⟩ := h
    subst h2
    cases r
    obtain ⟨_, hs, vs, rv, o, es, ep, ho, hx, hd, _, pr, _⟩ := I.hok _ _ q
    obtain ⟨as, h3, h4, h5⟩ := RKs.readsAll I kvs kv vs es.toList zs p rv pr h1
    refine ⟨_, .dict ho hx.1 hd h3 h4, fun z => ?_⟩
    have hn := beq_eq_false_iff_ne.mp hs
    have h6 := h5 (by simpa only [noLst] using z)
    simp only [List.nil_append, List.cons_append, List.mem_cons, List.append_eq, not_or]
    exact ⟨fun e => hn e.symm, h6⟩
  | .dct kvs, _, _, _, .dctT (kv := kv) hz q p, r, h => by
    simp only [D.py, Option.map_eq_some_iff] at h
    obtain ⟨zs, h1, h2⟩ := h
    subst h2
    cases r
    obtain ⟨_, hs, xs, rv, o, es, ep, ho, hx, hd, he, _⟩ := I.hok _ _ q
    obtain ⟨as, h3, h4, h5⟩ := RTs.readsAll I kvs kv xs zs p rv h1
    refine ⟨_, .dict ho hx.1 hd (by rw [he]; exact h3) (by rw [he]; exact h4), fun z => ?_⟩
    have hn := beq_eq_false_iff_ne.mp hs
    have h6 := h5 (by simpa only [noLst] using z)
    simp only [List.nil_append, List.cons_append, List.mem_cons, List.append_eq, not_or]
    exact ⟨fun e => hn e.symm, h6⟩
  | .loc l, _, _, _, .loc _, _, h => by simp [D.py] at h
theorem Rps.readsAll (I : Inv X pins σ H s) : ∀ (ds : List D) (xs : List V) (us : List Value) (ys : List PyData), Rps X.K c H ds xs → Vals xs us → D.pys ds = some ys → ∃ as, ReadsAll s.heap us ys as ∧ (noLsts ds = true → sysModules ∉ as)
  | [], _, _, _, .nil, .nil, h => by
    simp only [D.pys] at h
    cases h
    exact ⟨_, .nil, fun _ => by simp⟩
  | d :: ds, _, _, _, .cons p q, .cons r1 r2, h => by
    simp only [D.pys] at h
    cases e1 : d.py with
    | none => rw [e1] at h; cases h
    | some a =>
      cases e2 : D.pys ds with
      | none => rw [e1, e2] at h; cases h
      | some b =>
        rw [e1, e2] at h
        cases h
        obtain ⟨as, h1, h2⟩ := Rp.reads I d _ _ a p r1 e1
        obtain ⟨bs, h3, h4⟩ := Rps.readsAll I ds _ _ b q r2 e2
        refine ⟨_, .cons h1 h3, fun z => ?_⟩
        simp only [noLsts, Bool.and_eq_true] at z
        rw [List.mem_append, not_or]
        exact ⟨h2 z.1, h4 z.2⟩
theorem RKs.readsAll (I : Inv X pins σ H s) : ∀ (kvs : Kvs) (kv : List (Key × V)) (vs : List (Key × Value)) (es : List DictEntry) (ys : List (PyData × PyData)), RKs X.K c H kvs kv → KV kv vs → Pairs (mixKind X.prog X.w) es vs → D.pyk kvs = some ys →
    ∃ as, ReadsAll s.heap (es.map (·.key)) (ys.map (·.1)) [] ∧ ReadsAll s.heap (es.map (·.val)) (ys.map (·.2)) as ∧ (noLstK kvs = true → sysModules ∉ as)
  | [], _, _, _, _, .nil, .nil, .nil, h => by
    simp only [D.pyk] at h
    cases h
    exact ⟨_, .nil, .nil, fun _ => by simp⟩
  | (k, d) :: kvs, _, _, _, _, .cons hk p q, .cons r1 r2, .cons i1 i2 i3, h => by
    simp only [D.pyk] at h
    cases e1 : d.py with
    | none => rw [e1] at h; cases h
    | some a =>
      cases e2 : D.pyk kvs with
      | none => rw [e1, e2] at h; cases h
      | some b =>
        rw [e1, e2] at h
        cases h
        obtain ⟨f1, f2⟩ := r1
        obtain ⟨as, h1, h2⟩ := Rp.reads I d _ _ a p f2 e1
        obtain ⟨bs, h3, h4, h5⟩ := RKs.readsAll I kvs _ _ _ b q r2 i3 e2
        have f1' : _ = _ := f1
        simp only at f1'
        rw [← f1'] at i1
        rw [← i2] at h1
        refine ⟨_, ReadsAll.cons (as := []) (bs := []) (reads_key (P := X.prog) (w := X.w) hk i1) h3, .cons h1 h4, fun z => ?_⟩
        simp only [noLstK, Bool.and_eq_true] at z
        rw [List.mem_append, not_or]
        exact ⟨h2 z.1, h5 z.2⟩
theorem RTs.readsAll (I : Inv X pins σ H s) : ∀ (kvs : Kvs) (kv : List (List Key × V)) (vs : List (List Key × Addr × Value)) (ys : List (PyData × PyData)), RTs X.K c H kvs kv →
    Paired (fun (p : List Key × V) (q : List Key × Addr × Value) => p.1 = q.1 ∧ H q.2.1 = some (.tup (p.1.map kV)) ∧ RelV p.2 q.2.2) kv vs → D.pyk kvs = some ys →
    ∃ as, ReadsAll s.heap ((vs.map (entryOfKey (tupleKind (mixKind X.prog X.w)))).map (·.key)) (ys.map (·.1)) [] ∧ ReadsAll s.heap ((vs.map (entryOfKey (tupleKind (mixKind X.prog X.w)))).map (·.val)) (ys.map (·.2)) as ∧ (noLstK kvs = true → sysModules ∉ as)
  | [], _, _, _, .nil, .nil, h => by
    simp only [D.pyk] at h
    cases h
    exact ⟨_, .nil, .nil, fun _ => by simp⟩
  | (k, d) :: kvs, _, _, _, .cons (j := j) hk p q, .cons r1 r2, h => by
    simp only [D.pyk] at h
    cases e1 : d.py with
    | none => rw [e1] at h; cases h
    | some a =>
      cases e2 : D.pyk kvs with
      | none => rw [e1, e2] at h; cases h
      | some b =>
        rw [e1, e2] at h
        cases h
        obtain ⟨f1, f2, f3⟩ := r1
        obtain ⟨as, h1, h2⟩ := Rp.reads I d _ _ a p f3 e1
        obtain ⟨bs, h3, h4, h5⟩ := RTs.readsAll I kvs _ _ b q r2 e2
        obtain ⟨_, its, rv, o, ho, hc, n, hd⟩ := I.hok _ _ f2
        refine ⟨_, ReadsAll.cons (as := []) (bs := []) ?_ h3, .cons h1 h4, fun z => ?_⟩
        · cases k <;> simp only [kkT] at hk <;> try cases hk
          simp only [KK.p]
          exact .tuple ho hc hd (by simpa using reads_kVs hk rv)
        · simp only [noLstK, Bool.and_eq_true] at z
          rw [List.mem_append, not_or]
          exact ⟨h2 z.1, h5 z.2⟩
end
theorem vw_reads (I : Inv X pins σ H s) {v : Vw} {x : V} {u : Value} {y : PyData} (r : VwR X.K c H v x) (rx : RelV x u) (h : v.D.py = some y) : ∃ as, Reads s.heap u y as ∧ (noLst v.D = true → sysModules ∉ as) := by
  cases v with
  | d d => exact Rp.reads I d x u y r rx h
  | l ds =>
    obtain ⟨a, xs, rfl, q, p⟩ := r
    have h' : (D.py (.lst ds)) = some y := h
    simp only [D.py, Option.map_eq_some_iff] at h'
    obtain ⟨zs, h1, h2⟩ := h'
    subst h2
    cases rx
    obtain ⟨its, rv, ⟨o, n, ho, hc, _, hd⟩, _⟩ := I.list q
    obtain ⟨as, h3, h4⟩ := Rps.readsAll I ds _ its zs p rv h1
    exact ⟨_, .list ho hc hd (by simpa using h3), fun z => by simp [Vw.D, noLst] at z⟩
  | k kvs =>
    obtain ⟨a, rfl, q⟩ := r
    have h' : (D.py (.dct kvs)) = some y := h
    simp only [D.py, Option.map_eq_some_iff] at h'
    obtain ⟨zs, h1, h2⟩ := h'
    subst h2
    cases rx
    rcases q with ⟨kv, q, p⟩ | ⟨kv, q, p⟩
    · obtain ⟨_, hs, vs, rv, o, es, ep, ho, hx, hd, _, pr, _⟩ := I.hok _ _ q
      obtain ⟨as, h3, h4, h5⟩ := RKs.readsAll I kvs kv vs es.toList zs p rv pr h1
      refine ⟨_, .dict ho hx.1 hd h3 h4, fun z => ?_⟩
      have hn := beq_eq_false_iff_ne.mp hs
      have h6 := h5 (by simpa only [Vw.D, noLst] using z)
      simp only [List.nil_append, List.cons_append, List.mem_cons, List.append_eq, not_or]
      exact ⟨fun e => hn e.symm, h6⟩
    · obtain ⟨_, hs, xs, rv, o, es, ep, ho, hx, hd, he, _⟩ := I.hok _ _ q
      obtain ⟨as, h3, h4, h5⟩ := RTs.readsAll I kvs kv xs zs p rv h1
      refine ⟨_, .dict ho hx.1 hd (by rw [he]; exact h3) (by rw [he]; exact h4), fun z => ?_⟩
      have hn := beq_eq_false_iff_ne.mp hs
      have h6 := h5 (by simpa only [Vw.D, noLst] using z)
      simp only [List.nil_append, List.cons_append, List.mem_cons, List.append_eq, not_or]
      exact ⟨fun e => hn e.symm, h6⟩
/-! ### repr -/
def rRepr (K : PySem.W.Frag) : List V → Hp → VK → Prop := fun xs H Q => ∃ x c v y, xs = [x] ∧ VwR K c H v x ∧ v.D.py = some y ∧ y.showable = true ∧ (noLst v.D || !y.hasDict) = true ∧ y.depth ≤ 64 ∧ y.shown.length ≤ sizeLine ∧ Q (.str y.shown) H
theorem cr_repr (hu : X.A.units + 70 < cLine) (hg : X.A.guards = some []) : CallR X (.builtin "repr") (rRepr X.K) := by
  intro pins s σ H xs us Q I r h
  obtain ⟨x, c, v, y, rfl, rv, hy, h1, h2, h3, h4, q⟩ := h
  obtain ⟨u, rfl, rx⟩ := vals1 r
  obtain ⟨as, R, hs⟩ := vw_reads I rv rx hy
  have hsm : y.hasDict = true → sysModules ∉ as := fun z => hs (by rw [z] at h2; simpa using h2)
  cases R with
  | none => exact PySem.P.repr_of_none ⟨.str _, H, I.tok _, ⟨_, rfl⟩, q⟩
  | bool b =>
    refine PySem.P.repr_of_bool ⟨.str _, H, I.tok _, ⟨_, rfl⟩, ?_⟩
    simpa only [PyData.shown] using q
  | int i t => exact PySem.P.repr_of_int (of_decide_eq_true (by simpa only [PyData.showable] using h1)) ⟨.str _, H, I.tok _, ⟨_, rfl⟩, by simpa only [PyData.shown] using q⟩
  | str i t =>
    simp only [PyData.shown] at h4 q
    exact PySem.P.repr_of_str ⟨.str _, H, I.tok _, ⟨_, rfl⟩, q⟩ h4
  | list a1 a2 a3 a4 => exact repr_of_reads' (.list a1 a2 a3 a4) h1 hsm hg (by omega) (fun _ _ e => e) (fun h' u tk k => ⟨.str _, H, I.kept k, ⟨_, rfl⟩, q⟩) h4
  | tuple a1 a2 a3 a4 => exact repr_of_reads' (.tuple a1 a2 a3 a4) h1 hsm hg (by omega) (fun _ _ e => e) (fun h' u tk k => ⟨.str _, H, I.kept k, ⟨_, rfl⟩, q⟩) h4
  | dict a1 a2 a3 a4 a5 => exact repr_of_reads' (.dict a1 a2 a3 a4 a5) h1 hsm hg (by omega) (fun _ _ e => e) (fun h' u tk k => ⟨.str _, H, I.kept k, ⟨_, rfl⟩, q⟩) h4
theorem cal_repr (hu : X.A.units + 70 < cLine) (hg : X.A.guards = some []) : Cal1 X (.builtin "repr") bRepr := by
  refine ⟨_, cr_repr hu hg, fun c m σ H x vx z Q rel rx e k => ?_⟩
  unfold bRepr at e
  split at e
  · rename_i y hy
    split at e
    · rename_i hh
      cases e
      simp only [Bool.and_eq_true, decide_eq_true_eq] at hh
      exact ⟨x, c, vx, y, rfl, rx, hy, hh.1.1.1, hh.1.1.2, hh.1.2, hh.2, kont_v k rel (.str _)⟩
    · cases e
  · cases e

/-! ### sorted -/
theorem rps_each {K : PySem.W.Frag} : ∀ {ds : List D} {xs : List V} {us : List Value}, Rps K c H ds xs → Vals xs us → PySem.W.EachIs (fun v d => ∃ x, RelV x v ∧ Rp K c H d x) us ds
  | _, _, _, .nil, .nil => .nil
  | _, _, _, .cons p q, .cons r t => .cons ⟨_, r, p⟩ (rps_each q t)
theorem each_rps {K : PySem.W.Frag} : ∀ {ds : List D} {us : List Value}, PySem.W.EachIs (fun v d => ∃ x, RelV x v ∧ Rp K c H d x) us ds → ∃ xs, Vals xs us ∧ Rps K c H ds xs
  | _, _, .nil => ⟨[], .nil, .nil⟩
  | _, _, .cons ⟨x, r, p⟩ t => by
    obtain ⟨xs, h1, h2⟩ := each_rps t
    exact ⟨x :: xs, .cons r h1, .cons p h2⟩
theorem encD_py {d : D} (h : d.py.isSome = true) : d.py = some (encD d) := by
  unfold encD
  cases e : d.py with
  | none => rw [e] at h; cases h
  | some y => rfl
theorem each_reads (I : Inv X pins σ H s) : ∀ {ds : List D} {xs : List V} {us : List Value}, Rps X.K c H ds xs → Vals xs us → (ds.all fun d => d.py.isSome) = true → PySem.W.EachIs (fun v d => ∃ as, Reads s.heap v (encD d) as) us ds
  | _, _, _, .nil, .nil, _ => .nil
  | _, _, _, .cons p q, .cons r t, h => by
    rw [List.all_cons, Bool.and_eq_true] at h
    obtain ⟨as, h1, _⟩ := Rp.reads I _ _ _ _ p r (encD_py h.1)
    exact .cons ⟨as, h1⟩ (each_reads I q t h.2)
def rSortD (K : PySem.W.Frag) : List V → Hp → VK → Prop := fun vs H Q => ∃ a c xs ds, vs = [V.ref a] ∧ SqL K H a xs ∧ Rps K c H ds xs ∧ sortOk ds = true ∧ ∀ p ys, H p = none → Rps K c H (sortD ds) ys → Q (.ref p) (upd H p (.lst ys))
theorem cr_sortD (hu : X.A.units + 70 < cLine) : CallR X (.builtin "sorted") (rSortD X.K) := by
  intro pins s σ H xs us Q I r h
  obtain ⟨a, c, xs, ds, rfl, hs, rp, ok, q⟩ := h
  obtain ⟨u, rfl, rx⟩ := vals1 r
  cases rx
  obtain ⟨its, rv, hl, hz⟩ := I.list hs
  unfold sortOk at ok
  simp only [Bool.and_eq_true, Bool.or_eq_true] at ok
  obtain ⟨⟨⟨ok1, ok2⟩, ok3⟩, ok4⟩ := ok
  have hal : PySem.W.AllAlike (ds.map encD) := fun d hd d' hd' => List.all_eq_true.mp (List.all_eq_true.mp ok2 d hd) d' hd'
  have hk : PySem.W.Sortable (ds.map encD) := by
    rcases ok3 with w | w
    · refine .inl fun d hd => ?_
      have z := List.all_eq_true.mp w d hd
      unfold isTupD at z
      split at z
      · exact ⟨_, _, rfl⟩
      · cases z
    · refine .inr fun d hd => ?_
      have z := List.all_eq_true.mp w d hd
      unfold isOthD at z
      split at z
      · cases z
      · cases z
      · rename_i n1 n2
        exact ⟨n2, n1⟩
  refine PySem.W.sorted_data (R := fun v d => ∃ x, RelV x v ∧ Rp X.K c H d x) hl.isList (rps_each rp rv) (each_reads I rp rv ok1) hal hk (by rw [rp.length]; exact hz) (fun b hb => ?_) fun out hlen he => ?_
  · have z := List.all_eq_true.mp ok4 (encD b) (List.mem_map_of_mem hb)
    have z' := of_decide_eq_true z
    omega
  · obtain ⟨ys, h1, h2⟩ := each_rps he
    obtain ⟨ep, he'⟩ := PyProof.Rows.sortedAll_at s.heap its out.toArray
    have hl2 : ys.length ≤ sizeLine := by
      rw [h1.length, hlen, rp.length]
      exact hz
    exact ⟨.ref _, upd H (s.heap.objs.size + 1) (.lst ys), I.laid (t' := s.toks) (fun _ _ => PyProof.Rows.sortedAll_old) (Nat.le_succ _) ⟨hl2, out, ep, h1, he'⟩, rfl, q _ _ (I.hok.fresh (Nat.le_succ _)) h2⟩
theorem cal_sorted (hu : X.A.units + 70 < cLine) : Cal1 X (.builtin "sorted") bSorted := by
  refine ⟨_, (cr_sortedI (X := X)).or (cr_sortD hu), fun c m σ H x vx z Q rel rx e k => ?_⟩
  unfold bSorted at e
  split at e
  · rename_i ds
    obtain ⟨a, xs, rfl, h, r⟩ := rx
    split at e
    · rename_i ns e2
      cases e
      have q := rps_asInts r e2
      subst q
      refine .inl ⟨a, ns, rfl, h, fun ns' p hp hs hn => ?_⟩
      have e3 := sortI_one hp hs
      subst e3
      exact kont_l k rel hn (Rps.ints _)
    · split at e
      · rename_i ok
        cases e
        exact .inr ⟨a, c, xs, ds, rfl, h, r, ok, fun p ys hp ry => kont_l k rel hp ry⟩
      · cases e
  · cases e
end
end Kd

namespace Kd
open PySem PySem.Spec PyProof.Rows L2
theorem base_plain {o : Expr} (h : isCall0 o = false) (m : Str) (env : Env) (wh : Sem Value) : attributeBase o m env wh = wh := by
  cases o <;> first | rfl | (simp [isCall0] at h)
theorem few_args {as : List Expr} (h : as.all notStar = true) (hl : as.length ≤ 2) (cpos : Pos) (env : Env) : ((backTo cpos (starEach as env)).all (fun x => !x.1) && (backToKw cpos (keywordEach [] env)).all (fun x => x.1.isSome)
      && decide (as.length + ([] : List Keyword).length + (if ([] : List Keyword).isEmpty then 0 else 1) < 30)) = true := by
  have e : ∀ as : List Expr, as.all notStar = true → (backTo cpos (starEach as env)).all (fun x => !x.1) = true := by
    intro as
    induction as with
    | nil => intro _; rfl
    | cons a r ih =>
      intro h
      rw [List.all_cons, Bool.and_eq_true] at h
      rw [nostar h.1]
      show (!false && (backTo cpos (starEach r env)).all fun x => !x.1) = true
      rw [ih h.2]; rfl
  rw [e as h]
  have : as.length + 0 + 0 < 30 := by omega
  show (true && true && decide (as.length + 0 + 0 < 30)) = true
  rw [decide_eq_true this]; rfl
section
variable {K : PySem.W.Frag} {c c1 : Lb} {H H1 : Hp} {m m' : M} {σ : L2.St} {nv : Nv}
/-- a mutation of a list, as it is done on the heap -/
theorem mutL_ok {o : Op} {x : V} {g : List D → Option (Op × List D)} {z : Op} (rel : Rel K c m σ H) (r : RpO K c H σ o x) (h : mutL o m g = .ok z m') :
    ∃ a ds xs ds', x = .ref a ∧ H a = some (.lst xs) ∧ Rps K c H ds xs ∧ g ds = some (z, ds') ∧ ∀ xs', Rps K c H ds' xs' → Rel K c m' σ (upd H a (.lst xs')) ∧ Fr c H c (upd H a (.lst xs')) := by
  unfold mutL at h
  split at h
  · rename_i i
    have hx : σ[i]? = some (some x) := r
    split at h
    · rename_i ds e
      split at h
      · rename_i y ys e2
        cases h
        obtain ⟨a, e1, ha, xs, hr, rp⟩ := rel.sl i _ e
        rw [hx] at e1; cases e1
        refine ⟨a, ds, xs, ys, rfl, hr, rp, e2, fun xs' rp' => ?_⟩
        have f : Fr c H c (upd H a (.lst xs')) := Fr.write (by rw [ha]; simp) (by rw [ha]; simp) hr (fun _ => by simp) (fun _ _ => by simp)
        exact ⟨rel.writeS ha hr (fun _ => by simp) (fun _ _ => by simp) ⟨a, hx, ha, xs', upd_same, rp'.mono f.toFw⟩, f⟩
      · cases h
    · cases h
  · rename_i l
    split at h
    · rename_i ds e
      split at h
      · rename_i y ys e2
        cases h
        obtain ⟨a, ha, xs, hr, rp⟩ := rel.ob l _ e
        cases r with
        | loc hc =>
          rename_i b
          have zz := rel.uq b a l hc ha
          subst zz
          refine ⟨b, ds, xs, ys, rfl, hr, rp, e2, fun xs' rp' => ?_⟩
          have f : Fr c H c (upd H b (.lst xs')) := Fr.write (by rw [ha]; simp) (by rw [ha]; simp) hr (fun _ => by simp) (fun _ _ => by simp)
          exact ⟨rel.writeL ha hr (fun _ => by simp) (fun _ _ => by simp) ⟨xs', upd_same, rp'.mono f.toFw⟩, f⟩
      · cases h
    · cases h
  · cases h
/-- .. of a dict -/
theorem mutD_ok {o : Op} {x : V} {g : Kvs → Option (Op × Kvs)} {z : Op} (rel : Rel K c m σ H) (r : RpO K c H σ o x) (h : mutD o m g = .ok z m') :
    ∃ a ds ds', x = .ref a ∧ DR K c H ds a ∧ g ds = some (z, ds') ∧ ∀ o', ((∃ kv, o' = .dK kv ∧ RKs K c H ds' kv) ∨ ∃ kv, o' = .dT kv ∧ RTs K c H ds' kv) → Rel K c m' σ (upd H a o') ∧ Fr c H c (upd H a o') := by
  have key : ∀ {a : Addr} {ds : Kvs} {o' : HO} {l : Lab}, DR K c H ds a → c a = some l → l ≠ .fz → l ≠ .out → Fr c H c (upd H a o') := fun {a ds o' l} hr ha n1 n2 => by
    rcases hr with ⟨kv, e, _⟩ | ⟨kv, e, _⟩
    · exact Fr.write (by rw [ha]; intro z; exact n1 (Option.some.inj z)) (by rw [ha]; intro z; exact n2 (Option.some.inj z)) e (fun _ => by simp) (fun _ _ => by simp)
    · exact Fr.write (by rw [ha]; intro z; exact n1 (Option.some.inj z)) (by rw [ha]; intro z; exact n2 (Option.some.inj z)) e (fun _ => by simp) (fun _ _ => by simp)
  have key2 : ∀ {a : Addr} {ds ds' : Kvs} {o' : HO}, Fr c H c (upd H a o') → ((∃ kv, o' = .dK kv ∧ RKs K c H ds' kv) ∨ ∃ kv, o' = .dT kv ∧ RTs K c H ds' kv) → DR K c (upd H a o') ds' a := fun {a ds ds' o'} f h => by
    rcases h with ⟨kv, rfl, r⟩ | ⟨kv, rfl, r⟩
    · exact .inl ⟨kv, upd_same, r.mono f.toFw⟩
    · exact .inr ⟨kv, upd_same, r.mono f.toFw⟩
  have key3 : ∀ {a : Addr} {ds : Kvs}, DR K c H ds a → ∃ o, H a = some o ∧ (∀ xs, o ≠ .tup xs) ∧ ∀ ob u, o ≠ .frz ob u := fun {a ds} h => by
    rcases h with ⟨kv, e, r⟩ | ⟨kv, e, r⟩
    · exact ⟨_, e, fun _ => by simp, fun _ _ => by simp⟩
    · exact ⟨_, e, fun _ => by simp, fun _ _ => by simp⟩
  unfold mutD at h
  split at h
  · rename_i i
    have hx : σ[i]? = some (some x) := r
    split at h
    · rename_i ds e
      split at h
      · rename_i y ys e2
        cases h
        obtain ⟨a, e1, ha, hr⟩ := rel.sl i _ e
        rw [hx] at e1; cases e1
        refine ⟨a, ds, ys, rfl, hr, e2, fun o' rp' => ?_⟩
        have f : Fr c H c (upd H a o') := key hr ha (by simp) (by simp)
        obtain ⟨ob, k1, k2, k3⟩ := key3 hr
        exact ⟨rel.writeS ha k1 k2 k3 ⟨a, hx, ha, key2 (ds := ds) f rp'⟩, f⟩
      · cases h
    · cases h
  · rename_i l
    split at h
    · rename_i ds e
      split at h
      · rename_i y ys e2
        cases h
        obtain ⟨a, ha, hr⟩ := rel.ob l _ e
        cases r with
        | loc hc =>
          rename_i b
          have zz := rel.uq b a l hc ha
          subst zz
          refine ⟨b, ds, ys, rfl, hr, e2, fun o' rp' => ?_⟩
          have f : Fr c H c (upd H b o') := key hr ha (by simp) (by simp)
          obtain ⟨ob, k1, k2, k3⟩ := key3 hr
          exact ⟨rel.writeL ha k1 k2 k3 (key2 (ds := ds) f rp'), f⟩
      · cases h
    · cases h
  · cases h
/-- what a rule for a method that changes a list has to say -/
def SndM (K : PySem.W.Frag) (f : List D → List D → Option (Op × List D)) (r : V → List V → Hp → VK → Prop) : Prop :=
  ∀ c H a xs ds ys yd z ds' Q, H a = some (.lst xs) → Rps K c H ds xs → Rps K c H yd ys → f yd ds = some (z, ds') → (∀ w xs', (∃ d, z = .v d ∧ Rp K c H d w) → Rps K c H ds' xs' → Q w (upd H a (.lst xs'))) → r (.ref a) ys H Q
/-- .. that only looks -/
def SndQ (K : PySem.W.Frag) (f : Vw → List D → Option Op) (r : V → List V → Hp → VK → Prop) : Prop :=
  ∀ c m σ H x vx ys yd z Q, Rel K c m σ H → VwR K c H vx x → Rps K c H yd ys → f vx yd = some z → Kont K c m σ H z Q → r x ys H Q
theorem isL_some {o : Option Vw} (h : isL o = true) : ∃ ds, o = some (.l ds) := by
  unfold isL at h
  split at h
  · exact ⟨_, rfl⟩
  · cases h
theorem isK_some {o : Option Vw} (h : isK o = true) : ∃ ds, o = some (.k ds) := by
  unfold isK at h
  split at h
  · exact ⟨_, rfl⟩
  · cases h
theorem own_v {o : Op} {x : V} {a : Addr} {d : D} (h : o = .v d) (z : OwnA o x a) : False := by subst h; exact z
theorem good_mut {f : List D → List D → Option (Op × List D)} {r : V → List V → Hp → VK → Prop} {d : DE} {ds : List DE} {Q : VK} (s : SndM K f r) (h : TD K nv (eMutL f d ds) σ H Q) :
    TD K nv d σ H fun x H1 => tyV K "list" x H1 ∧ TL K nv (eList ds) σ H1 fun xs H2 => r x xs H2 Q := by
  obtain ⟨c, m, rel, g⟩ := h
  refine ⟨c, m, rel, g.bind fun o m1 c1 H1 e f1 rel1 g1 => ?_⟩
  intro x rx wx
  split at g1
  · rename_i hl
    obtain ⟨es, hl⟩ := isL_some hl
    obtain ⟨a, xs, rfl, q1, q2⟩ := vw_ok rel1 rx hl
    refine ⟨.inl ⟨rfl, xs, q1⟩, c1, m1, rel1, (Good.mono f1 g1).bind fun ys m2 c2 H2 e2 f2 rel2 g2 => ?_⟩
    intro zs rzs
    cases e3 : mutL o m2 (f ys) with
    | ok z m3 =>
      rw [e3] at g2
      obtain ⟨a', es', xs', ds', k1, k2, k3, k4, k5⟩ := mutL_ok rel2 (rx.mono f2) e3
      cases k1
      refine s c2 H2 a xs' es' zs ys z ds' Q k2 k3 rzs k4 fun w ws ⟨dd, hz, rw'⟩ rws => ?_
      obtain ⟨k6, k7⟩ := k5 ws rws
      subst hz
      exact (g2 : ∀ c' H', Fr c1 H1 c' H' → Rel K c' m3 σ H' → NE K c σ Q (.v dd) c' H') c2 _ (f2.trans k7) k6 w (rw'.mono k7.toFw) fun _ z => z.elim
    | ex _ _ _ => rw [e3] at g2; exact g2.elim
    | no => rw [e3] at g2; exact g2.elim
  · exact g1.elim
theorem good_meth {f : Vw → List D → Option Op} {r : V → List V → Hp → VK → Prop} {d : DE} {ds : List DE} {Q : VK} (s : SndQ K f r) (h : TD K nv (eMeth isK f d ds) σ H Q) :
    TD K nv d σ H fun x H1 => tyV K "dict" x H1 ∧ TL K nv (eList ds) σ H1 fun xs H2 => r x xs H2 Q := by
  obtain ⟨c, m, rel, g⟩ := h
  refine ⟨c, m, rel, g.bind fun o m1 c1 H1 e f1 rel1 g1 => ?_⟩
  intro x rx wx
  split at g1
  · rename_i hl
    obtain ⟨es, hl⟩ := isK_some hl
    obtain ⟨a, rfl, q1⟩ := vw_ok rel1 rx hl
    refine ⟨?_, c1, m1, rel1, (Good.mono f1 g1).bind fun ys m2 c2 H2 e2 f2 rel2 g2 => ?_⟩
    · refine .inr (.inr (.inl ⟨rfl, ?_⟩))
      rcases q1 with ⟨kv, e, _⟩ | ⟨kv, e, _⟩
      · exact .inl ⟨kv, e⟩
      · exact .inr ⟨kv, e⟩
    intro zs rzs
    obtain ⟨z, e3, g3⟩ := of_some g2
    cases e4 : vw o m2 with
    | none => rw [e4] at e3; cases e3
    | some v =>
      rw [e4] at e3
      refine s c2 m2 σ H2 (.ref a) v zs ys z Q rel2 (vw_ok rel2 (rx.mono f2) e4) rzs e3 ?_
      exact fun c' H' w fr rel' r' k => g3 c' H' (f2.trans fr) rel' w r' fun a e q => k a e (f2.out a (f1.out a q).1).1
  · exact g1.elim
theorem snd_append : SndM K lAppend rAppend := by
  intro c H a xs ds ys yd z ds' Q e r ry h q
  unfold lAppend at h
  split at h
  · rename_i y
    split at h
    · rename_i hz
      cases h
      cases ry with
      | cons p t =>
        cases t
        exact ⟨a, xs, _, rfl, rfl, e, by rw [← r.length]; exact hz, q _ _ ⟨_, rfl, .non⟩ (r.append (.cons p .nil))⟩
    · cases h
  · cases h
theorem snd_pop : SndM K lPop fun x vs H Q => rPop x vs H Q ∨ rPopAt x vs H Q := by
  intro c H a xs ds ys yd z ds' Q e r ry h q
  unfold lPop at h
  split at h
  · cases ry
    rw [Option.map_eq_some_iff] at h
    obtain ⟨y, h1, h2⟩ := h
    cases h2
    obtain ⟨w, h3, h4⟩ := r.get h1
    exact .inl ⟨a, xs, w, rfl, rfl, e, by rw [← r.length]; exact h3, q _ _ ⟨_, rfl, h4⟩ r.dropLast⟩
  · rename_i i
    split at h
    · rename_i hi
      rw [Bool.and_eq_true, geB_iff, leB_iff] at hi
      have a1 : (2 : Int) ^ 63 = 9223372036854775808 := by decide
      have hi : -(2 : Int) ^ 63 ≤ i ∧ i < 2 ^ 63 := by rw [a1]; omega
      split at h
      · rename_i k hk
        rw [Option.map_eq_some_iff] at h
        obtain ⟨y, h1, h2⟩ := h
        cases h2
        obtain ⟨w, h3, h4⟩ := r.get h1
        cases ry with
        | cons p t =>
          cases t
          cases p
          exact .inr ⟨a, xs, i, k, w, rfl, rfl, e, hi.1, hi.2, by rw [← r.length]; exact hk, h3, q _ _ ⟨_, rfl, h4⟩ (r.erase k)⟩
      · cases h
    · cases h
  · cases h
end
/-- d.get(k, x) -/
def rGet2 : V → List V → Hp → VK → Prop := fun x ys H Q => ∃ a y z o, x = .ref a ∧ ys = [y, z] ∧ DAsk H a y o ∧ Q (o.getD z) H
section
variable {X : Cx} {nv : Nv} {o e : Expr} {as : List Expr} {d : DE} {ds : List DE} {apos cpos : Pos}
theorem mt_get2 (hu : X.A.units + 1 < cLine) : MtR X "dict.get" rGet2 := by
  intro pins s σ H x ys v us Q I rx rs h
  obtain ⟨a, y, z, r, rfl, rfl, dk, q⟩ := h
  cases rx
  obtain ⟨u1, u2, rfl, r1, r2⟩ := vals2 rs
  obtain ⟨H', zz⟩ := dk.run (P := fun _ s => wpAny (model X.prog X.w) X.A (call (.builtin "dict.get") (.ref a :: [u1, u2])) (EP X pins σ Q) X.xe s) I fun H' I' g back => d_get2 hu I' g r1 r2 fun w' s' I2 rw' => ⟨_, H, back s' I2, rw', q⟩
  exact zz
theorem snd_get2 : SndQ X.K mGet2 rGet2 := by
  intro c m σ H x vx ys yd z Q rel rx ry h k
  unfold mGet2 at h
  split at h
  · rename_i kvs kd dd
    obtain ⟨a, rfl, r⟩ := rx
    cases hk : kd.kk with
    | none => rw [hk] at h; cases h
    | some j =>
      rw [hk] at h
      simp only at h
      split at h
      · rename_i ok
        cases h
        cases ry with
        | cons p t =>
          cases t with
          | cons p2 t2 =>
            cases t2
            rcases dr_ask r p hk ok with ⟨h1, h2⟩ | ⟨d0, x0, h1, h2, h3⟩
            · rw [h1] at k
              exact ⟨a, _, _, none, rfl, rfl, h2, kont_v k rel p2⟩
            · rw [h1] at k
              exact ⟨a, _, _, some x0, rfl, rfl, .inl h2, kont_v k rel h3⟩
      · cases h
  · cases h
theorem MtM.to {id : String} {r : V → List V → Hp → VK → Prop} (h : MtM X id r) : MtR X id r := h
theorem pd_bm {T id : String} {name : Str} {r : V → List V → Hp → VK → Prop} {dd : DE} (pa : PlainAttrs T) (slot : Slot T name id) (hty : typeOf (.builtin id) = pure (.type "method_descriptor")) (hm : MtR X id r) (ho : PD X nv o d)
    (hs : as.all notStar = true) (hl : as.length ≤ 2) (ha : PA X as (TL X.K nv (eList ds))) (hal : as.length = ds.length) (hline : (apos.endLine == cpos.line) = true) (hb : isCall0 o = false)
    (hq : ∀ σ H Q, TD X.K nv dd σ H Q → TD X.K nv d σ H fun x H1 => tyV X.K T x H1 ∧ TL X.K nv (eList ds) σ H1 fun xs H2 => r x xs H2 Q) : PD X nv (.Call (.Attribute o name apos) as [] cpos) dd := by
  cases as with
  | nil =>
    have ed : ds = [] := List.eq_nil_of_length_eq_zero hal.symm
    subst ed
    refine PE.conv (pe_bm0 pa slot hty hm ho (base_plain hb _ _ _) hline) fun σ H Q h => (hq σ H Q h).mono fun x H1 ⟨h1, h2⟩ => ⟨h1, ?_⟩
    obtain ⟨c, m, rel, g⟩ := h2
    exact g c H1 (Fr.refl _ _) rel [] .nil
  | cons a rest =>
    have hs' := hs
    rw [List.all_cons, Bool.and_eq_true] at hs'
    exact PE.conv (pe_bm pa slot hty hm ho ha (base_plain hb _ _ _) (few_args hs hl cpos X.env) hline (nostar hs'.1 rest X.env) (stars_plain hs'.2 cpos X.env)) hq
end
end Kd

namespace Kd
open PySem PySem.Spec PyProof.Rows L2
section
variable {K : PySem.W.Frag} {c c1 c2 : Lb} {H H1 H2 : Hp} {m m' : M} {σ : L2.St} {nv : Nv} {p : Addr}
/-- what was not there is written later -/
theorem Fr.over (f : Fr c H c2 H2) (hc : c p = none) (hp : H p = none) (o : HO) : Fr c H c2 (upd H2 p o) := by
  have ne : ∀ b z, c b = some z → b ≠ p := fun b z e q => by subst q; rw [hc] at e; cases e
  have ne2 : ∀ b z, H b = some z → b ≠ p := fun b z e q => by subst q; rw [hp] at e; cases e
  refine ⟨⟨fun b e => ?_, fun b l e => f.lc b l e, fun b xs e => ?_, fun b o u e => ?_⟩, fun b e => ?_⟩
  · rw [upd_ne (ne b _ e)]; exact f.fz b e
  · rw [upd_ne (ne2 b _ e)]; exact f.tup b xs e
  · rw [upd_ne (ne2 b _ e)]; exact f.frz b o u e
  · rw [upd_ne (ne b _ e)]; exact f.out b e
theorem Rel.over (r : Rel K c m σ H) {o' : HO} (h1 : c p = some .out) (e : H p = some o') (n1 : ∀ xs, o' ≠ .tup xs) (n2 : ∀ ob u, o' ≠ .frz ob u) (o : HO) : Fw c H c (upd H p o) ∧ Rel K c m σ (upd H p o) := by
  have f : Fw c H c (upd H p o) := by
    refine ⟨fun b h => ⟨h, upd_ne fun z => by subst z; rw [h1] at h; cases h⟩, fun b l h => h, fun b xs h => ?_, fun b ob u h => ?_⟩
    · rw [upd_ne fun z => by subst z; rw [e] at h; exact n1 xs (Option.some.inj h)]; exact h
    · rw [upd_ne fun z => by subst z; rw [e] at h; exact n2 ob u (Option.some.inj h)]; exact h
  refine ⟨f, r.step f (fun b i h => ⟨h, upd_ne fun z => by subst z; rw [h1] at h; cases h⟩) (fun b l h => upd_ne fun z => by subst z; rw [h1] at h; cases h) (fun b l h => h) fun b h => ?_⟩
  by_cases z : b = p
  · subst z; rw [upd_same]; simp
  · rw [upd_ne z]; exact r.lv b h
/-- a fresh list, dict, known to others from now on -/
theorem good_share {d : DE} {Q : VK} (h : TD K nv (eShare d) σ H Q) : TD K nv d σ H Q := by
  obtain ⟨c, m, rel, g⟩ := h
  refine ⟨c, m, rel, g.bind fun o m1 c1 H1 e f1 rel1 g1 => ?_⟩
  intro x rx wx
  have key : ∀ {a : Addr} {ob : Ob}, c1 a = some .out → c a ≠ some .out → H1 a ≠ none → ObR K c1 H1 ob a →
      Good K c H σ (NE K c σ Q) (R.ok (.v (.loc m1.S.length)) { m1 with S := m1.S ++ [ob] }) → Q (.ref a) H1 := fun {a ob} ha hca hne hr g2 => by
    have f2 : Fr c1 H1 (rlb c1 a (.lc m1.S.length)) H1 → True := fun _ => trivial
    have f : Fr c H (rlb c1 a (.lc m1.S.length)) H1 := Fr.relab f1 (fun l => by rw [ha]; simp) (by rw [ha]; simp) hca
    exact (g2 : ∀ c' H', Fr c H c' H' → Rel K c' { m1 with S := m1.S ++ [ob] } σ H' → NE K c σ Q (.v (.loc m1.S.length)) c' H') _ H1 f (rel1.share ha hne hr) _ (.loc rlb_same) fun _ z => z.elim
  cases o with
  | nl xs =>
    obtain ⟨a, rfl, ha, hr⟩ := rx
    exact key ha (wx a rfl) hr.ne (ob := .lst xs) hr g1
  | nd xs =>
    obtain ⟨a, rfl, ha, hr⟩ := rx
    exact key ha (wx a rfl) hr.ne (ob := .dct xs) hr g1
  | v _ => exact g1.elim
  | sl _ => exact g1.elim
/-! ### {k: v, ..} -/
/-- the pairs as values -/
inductive PR (K : PySem.W.Frag) (c : Lb) (H : Hp) : Kvs → List (V × V) → Prop
  | nil : PR K c H [] []
  | cons {k : D} {j : KK} {d : D} {x y : V} {r : Kvs} {s : List (V × V)} : k.kk = some j → Rp K c H k x → Rp K c H d y → PR K c H r s → PR K c H ((j, d) :: r) ((x, y) :: s)
theorem PR.mono (f : Fw c H c1 H1) {r : Kvs} {s : List (V × V)} (h : PR K c H r s) : PR K c1 H1 r s := by
  induction h with
  | nil => exact .nil
  | cons a b d _ ih => exact .cons a (b.mono f) (d.mono f) ih
theorem pr_rk {r : Kvs} {s : List (V × V)} (h : PR K c H r s) (fl : r.all (fun kv => kv.1.flat1) = true) : ∃ kv : List (Key × V), RKs K c H r kv ∧ s = kv.map fun z => (kV z.1, z.2) := by
  induction h with
  | nil => exact ⟨[], .nil, rfl⟩
  | @cons k j d x y r s hk p q t ih =>
    rw [List.all_cons, Bool.and_eq_true] at fl
    obtain ⟨kv, h1, h2⟩ := ih fl.2
    have z := fl.1
    rw [← kk1_flat] at z
    obtain ⟨i, hi⟩ := Option.isSome_iff_exists.mp z
    have e := (rp_key k p hk).1 i hi
    exact ⟨(i, y) :: kv, .cons hi q h1, by rw [h2, e]; rfl⟩
theorem rk_merge {more : Kvs} {kv2 : List (Key × V)} (h : RKs K c H more kv2) : ∀ {kvs : Kvs} {kv : List (Key × V)}, RKs K c H kvs kv → RKs K c H (mergeD kvs more) (mergeK kv kv2) := by
  intro kvs kv r
  have aux : ∀ (more : Kvs) (kv2 : List (Key × V)) (kvs : Kvs) (kv : List (Key × V)), RKs K c H more kv2 → RKs K c H kvs kv → RKs K c H (mergeD kvs more) (mergeK kv kv2) := by
    intro more
    induction more with
    | nil => intro kv2 kvs kv h r; cases h; exact r
    | cons p more ih =>
      intro kv2 kvs kv h r
      cases h with
      | @cons _ j _ x _ kv2 hk q t =>
        show RKs K c H (mergeD (putD kvs _ _) more) (mergeK (putK kv j x) kv2)
        exact ih _ _ _ t (rk_put hk q r)
  exact aux more kv2 kvs kv h r
def trsOf (K : PySem.W.Frag) (nv : Nv) (ds : List (DE × DE)) : List (TE × TE) := ds.map fun z => (TD K nv z.1, TD K nv z.2)
/-- one step, seen from an earlier state -/
theorem good_step {α β : Type} {c0 : Lb} {H0 : Hp} {σ0 : L2.St} {N : β → Lb → Hp → Prop} {N' : α → Lb → Hp → Prop} {k : α → M → R β} {r : R α} (h : Good K c0 H0 σ0 N (r.bind k))
    (q : ∀ a m' c' H', r = .ok a m' → Fr c H c' H' → Rel K c' m' σ H' → Good K c0 H0 σ0 N (k a m') → N' a c' H') : Good K c H σ N' r := by
  cases r with
  | ok a m' => exact fun c' H' f rel => q a m' c' H' rfl f rel h
  | ex _ _ _ => exact h.elim
  | no => exact h.elim
theorem step_eF {β : Type} {c0 : Lb} {H0 : Hp} {σ0 : L2.St} {N : β → Lb → Hp → Prop} {k : D → M → R β} {d : DE} {P : V → Hp → Prop} (rel : Rel K c m σ H) (h : Good K c0 H0 σ0 N ((eF d nv m).bind k))
    (q : ∀ z x m' c' H', Fr c H c' H' → Rel K c' m' σ H' → Rp K c' H' z x → Good K c0 H0 σ0 N (k z m') → P x H') : TD K nv d σ H P :=
  good_eF ⟨c, m, rel, good_step h fun a m' c' H' e f r g x rx => q a x m' c' H' f r rx g⟩
theorem good_kvs {c0 : Lb} {H0 : Hp} {N : Op → Lb → Hp → Prop} : ∀ (ds : List (DE × DE)) {k : Kvs → M → R Op} {P : List (V × V) → Hp → Prop} {c : Lb} {H : Hp} {m : M}, Fr c0 H0 c H → Rel K c m σ H → Good K c0 H0 σ N ((eKvs ds nv m).bind k) →
    (∀ c1 H1 m1 ps xys, Fr c H c1 H1 → Rel K c1 m1 σ H1 → Good K c0 H0 σ N (k ps m1) → PR K c1 H1 ps xys → P xys H1) → tPairs (trsOf K nv ds) σ H P
  | [], k, P, c, H, m, f0, rel, g, q => q c H m [] [] (Fr.refl _ _) rel g .nil
  | (dk, dv) :: ds, k, P, c, H, m, f0, rel, g, q => by
    have g' : Good K c0 H0 σ N (((eF dk nv m).bind fun x m1 => (eF dv nv m1).bind fun y m2 => (eKvs ds nv m2).bind fun kvs m3 => match x.kk with
        | some j => Kd.R.ok ((j, y) :: kvs) m3
        | none => Kd.R.no).bind k) := g
    rw [R.assoc] at g'
    show TD K nv dk σ H fun x H1 => TD K nv dv σ H1 fun y H2 => tPairs (trsOf K nv ds) σ H2 fun ps H3 => P ((x, y) :: ps) H3
    refine step_eF rel g' fun z x m1 c1 H1 f1 rel1 rx g1 => ?_
    rw [R.assoc] at g1
    refine step_eF rel1 g1 fun z2 y m2 c2 H2 f2 rel2 ry g2 => ?_
    rw [R.assoc] at g2
    refine good_kvs ds ((f0.trans f1).trans f2) rel2 g2 fun c3 H3 m3 ps xys f3 rel3 g3 pr => ?_
    cases hk : z.kk with
    | none => rw [hk] at g3; exact g3.elim
    | some j =>
      rw [hk] at g3
      exact q c3 H3 m3 _ _ ((f1.trans f2).trans f3) rel3 g3 (.cons hk ((rx.mono f2.toFw).mono f3.toFw) (ry.mono f3.toFw) pr)
theorem good_disp {ds : List (DE × DE)} {Q : VK} (h : TD K nv (eDct ds) σ H Q) : tDisp (trsOf K nv ds) σ H Q := by
  obtain ⟨c, m, rel, g⟩ := h
  intro p hp
  have hc := rel.free hp
  have f0 : Fr c H (rlb c p .out) (upd H p (.dK [])) := Fr.new hc hp
  have rel0 := rel.new (o := .dK []) (l := .out) hp (fun _ => by simp)
  refine good_kvs ds f0 rel0 g fun c1 H1 m1 ps xys f1 rel1 g1 pr => ?_
  have hout : c1 p = some .out ∧ H1 p = some (.dK []) := by
    obtain ⟨e1, e2⟩ := f1.out p rlb_same
    exact ⟨e1, e2.trans upd_same⟩
  refine ⟨hout.2, ?_⟩
  split at g1
  · rename_i hh
    obtain ⟨kv, h1, h2⟩ := pr_rk pr hh.2
    obtain ⟨fw, rel2⟩ := rel1.over hout.1 hout.2 (fun _ => by simp) (fun _ _ => by simp) (.dK (mergeK [] kv))
    refine ⟨kv, h2, by rw [← h1.length]; exact hh.1, ?_⟩
    refine (g1 : ∀ c' H', Fr c H c' H' → Rel K c' m1 σ H' → NE K c σ Q (.nd (mergeD [] ps)) c' H') c1 _ ((f0.trans f1).over hc hp _) rel2 _ ⟨p, rfl, hout.1, .inl ⟨_, upd_same, (rk_merge h1 .nil).mono fw⟩⟩ fun a e => ?_
    have e' : V.ref p = V.ref a := e
    cases e'
    rw [hc]; simp
  · exact g1.elim
end
/-! ### dict(zip(a, b)) -/
inductive ZK : List V → List V → List (Key × V) → Prop
  | nl {ys : List V} : ZK [] ys []
  | nr {xs : List V} : ZK xs [] []
  | cons {k : Key} {y : V} {xs ys : List V} {kv : List (Key × V)} : ZK xs ys kv → ZK (kV k :: xs) (y :: ys) ((k, y) :: kv)
inductive ZT (H : Hp) : List V → List V → List (List Key × V) → Prop
  | nl {ys : List V} : ZT H [] ys []
  | nr {xs : List V} : ZT H xs [] []
  | cons {k : List Key} {b : Addr} {y : V} {xs ys : List V} {kv : List (List Key × V)} : H b = some (.tup (k.map kV)) → ZT H xs ys kv → ZT H (.ref b :: xs) (y :: ys) ((k, y) :: kv)
theorem zk_have {P : Program} {w : World} {xs ys : List V} {kv : List (Key × V)} (z : ZK xs ys kv) : ∀ {us ws : List Value}, Vals xs us → Vals ys ws →
    ∃ vs, KV kv vs ∧ vs.length = min us.length ws.length ∧ ∀ (i : Nat) (key v : Value), us[i]? = some key ∧ ws[i]? = some v → ∃ k, vs[i]? = some (k, v) ∧ (mixKind P w).is k key = true := by
  induction z with
  | nl => intro us ws r1 r2; cases r1; exact ⟨[], .nil, by simp, fun i key v h => by simp at h⟩
  | nr => intro us ws r1 r2; cases r2; exact ⟨[], .nil, by simp, fun i key v h => by simp at h⟩
  | cons z ih =>
    intro us ws r1 r2
    cases r1 with
    | cons p1 q1 =>
      cases r2 with
      | cons p2 q2 =>
        obtain ⟨vs, h1, h2, h3⟩ := ih q1 q2
        refine ⟨(_, _) :: vs, .cons ⟨rfl, p2⟩ h1, by simp only [List.length_cons, h2]; omega, fun i key v h => ?_⟩
        cases i with
        | zero =>
          obtain ⟨e1, e2⟩ := h
          simp only [List.getElem?_cons_zero, Option.some.injEq] at e1 e2
          subst e1 e2
          exact ⟨_, rfl, kV_is p1⟩
        | succ i => exact h3 i key v (by simpa using h)
theorem zt_have {H : Hp} {xs ys : List V} {kv : List (List Key × V)} (z : ZT H xs ys kv) : ∀ {us ws : List Value}, Vals xs us → Vals ys ws →
    ∃ vs, KT H kv vs ∧ vs.length = min us.length ws.length ∧ ∀ (i : Nat) (key v : Value), us[i]? = some key ∧ ws[i]? = some v → ∃ k b, vs[i]? = some (k, b, v) ∧ key = Value.ref b := by
  induction z with
  | nl => intro us ws r1 r2; cases r1; exact ⟨[], .nil, by simp, fun i key v h => by simp at h⟩
  | nr => intro us ws r1 r2; cases r2; exact ⟨[], .nil, by simp, fun i key v h => by simp at h⟩
  | cons hb z ih =>
    intro us ws r1 r2
    cases r1 with
    | cons p1 q1 =>
      cases r2 with
      | cons p2 q2 =>
        obtain ⟨vs, h1, h2, h3⟩ := ih q1 q2
        refine ⟨(_, _, _) :: vs, .cons ⟨rfl, hb, p2⟩ h1, by simp only [List.length_cons, h2]; omega, fun i key v h => ?_⟩
        cases i with
        | zero =>
          obtain ⟨e1, e2⟩ := h
          simp only [List.getElem?_cons_zero, Option.some.injEq] at e1 e2
          subst e1 e2
          exact ⟨_, _, rfl, p1⟩
        | succ i => exact h3 i key v (by simpa using h)
def mergeT (kvs more : List (List Key × V)) : List (List Key × V) := more.foldl (fun acc kv => putK acc kv.1 kv.2) kvs
theorem kt_merge {H : Hp} {more : List (List Key × V)} {rs : List (List Key × Addr × Value)} (r : KT H more rs) : ∀ {kvs : List (List Key × V)} {vs : List (List Key × Addr × Value)}, KT H kvs vs → KT H (mergeT kvs more) (PySem.storedAllH vs rs) := by
  have aux : ∀ (more : List (List Key × V)) (rs : List (List Key × Addr × Value)) (kvs : List (List Key × V)) (vs : List (List Key × Addr × Value)), KT H more rs → KT H kvs vs → KT H (mergeT kvs more) (PySem.storedAllH vs rs) := by
    intro more
    induction more with
    | nil => intro rs kvs vs r q; cases r; exact q
    | cons p more ih =>
      intro rs kvs vs r q
      cases r with
      | @cons _ g _ rs' h t =>
        obtain ⟨e1, e2, e3⟩ := h
        have z := q.put p.1 e2 e3
        show KT H (mergeT (putK kvs p.1 p.2) more) (PySem.storedAllH (storedH vs g.1 g.2.1 g.2.2) rs')
        rw [← e1]
        exact ih _ _ _ t z
  exact fun {kvs vs} q => aux more rs kvs vs r q
theorem length_mergeT : ∀ (more kvs : List (List Key × V)), (mergeT kvs more).length ≤ kvs.length + more.length
  | [], kvs => by show kvs.length ≤ kvs.length + 0; omega
  | p :: r, kvs => by
    have h1 := length_mergeT r (putK kvs p.1 p.2)
    have h2 := length_putK kvs p.1 p.2
    show (mergeT (putK kvs p.1 p.2) r).length ≤ _
    rw [List.length_cons]; omega
section
variable {X : Cx} {nv : Nv} {a b : Expr} {d d' : DE} {p q pos zpos : Pos}
def rDctZ (K : PySem.W.Frag) (vs : List V) (H : Hp) (Q : VK) : Prop := ∃ a b xs ys, vs = [.ref a, .ref b] ∧ SqL K H a xs ∧ SqL K H b ys ∧
  ((∃ kv, ZK xs ys kv ∧ ∀ p, H p = none → Q (.ref p) (upd H p (.dK (mergeK [] kv)))) ∨ ∃ kv, ZT H xs ys kv ∧ ∀ p, H p = none → Q (.ref p) (upd H p (.dT (mergeT [] kv))))
theorem cr_dictZip (hc : X.calm = true) (hu : X.A.units + 10 < cLine) {pins : List (Addr × Obj)} {σ : L2.St} {H : Hp} {s : Shared} {vs : List V} {us : List Value} {Q : VK} (I : Inv X pins σ H s) (r : Vals vs us) (h : rDctZ X.K vs H Q) :
    wpAny (model X.prog X.w) X.A (call (.type "zip") us) (fun z s1 => wpAny (model X.prog X.w) X.A (call (.type "dict") [z]) (EP X pins σ Q) X.xe s1) X.xe s := by
  obtain ⟨a, b, xs, ys, rfl, hx, hy, h⟩ := h
  obtain ⟨u1, u2, rfl, r1, r2⟩ := vals2 r
  cases r1
  cases r2
  obtain ⟨its, rv, p1, hz1⟩ := I.list hx
  obtain ⟨its2, rv2, p2, hz2⟩ := I.list hy
  refine call_zip_2 p1.isList p2.isList fun h' hz hTI hTO h1 h2 hsz hk => ?_
  have D := PySem.W.ktu_apart s.heap.objs.size a b p1.lt p2.lt
  have PA := PySem.PairArg.zip (prog := X.prog) (w := X.w) _ _ _ _ _ a b D its.toArray its2.toArray
  have ok : IsZip h' (s.heap.objs.size + 4) (s.heap.objs.size + 2) (s.heap.objs.size + 3) .none ∧ PySem.IsPair h' (s.heap.objs.size + 2) (.ref s.heap.objs.size) (.ref (s.heap.objs.size + 1)) ∧ (∃ a b, PySem.IsPair h' (s.heap.objs.size + 3) a b) ∧
      h'.IsListIter s.heap.objs.size a 0 ∧ h'.IsListIter (s.heap.objs.size + 1) b 0 ∧ h'.IsList a its.toArray ∧ h'.IsList b its2.toArray :=
    ⟨hz, hTI, ⟨_, _, hTO⟩, h1, h2, p1.isList.at fun o e => hk _ o e, p2.isList.at fun o e => hk _ o e⟩
  have hn : min its.toArray.size its2.toArray.size ≤ sizeLine := by
    rw [List.size_toArray, List.size_toArray, ← rv.length]
    omega
  have old : ∀ (b : Addr) (o : Obj), s.heap.get? b = some o → b ∉ [s.heap.objs.size + 4, s.heap.objs.size + 3, s.heap.objs.size, s.heap.objs.size + 1] := fun b o e hm => by
    have lt : b < s.heap.objs.size := Heap.lt_size e
    simp only [List.mem_cons, List.not_mem_nil, or_false] at hm
    rcases hm with z | z | z | z
    · rw [z] at lt; exact absurd lt (Nat.not_lt.mpr (Nat.le_add_right _ _))
    · rw [z] at lt; exact absurd lt (Nat.not_lt.mpr (Nat.le_add_right _ _))
    · rw [z] at lt; exact absurd lt (Nat.lt_irrefl _)
    · rw [z] at lt; exact absurd lt (Nat.not_lt.mpr (Nat.le_add_right _ _))
  have hm : (h'.objs.size == sysModules) = false := beq_eq_false_iff_ne.mpr (by have h1 : sysModules < s.heap.objs.size := I.big; rw [hsz]; exact Nat.ne_of_gt (Nat.lt_of_lt_of_le h1 (Nat.le_add_right _ _)))
  rcases h with ⟨kv, zk, q⟩ | ⟨kv, zt, q⟩
  · obtain ⟨ws, k1, k2, k3⟩ := zk_have (P := X.prog) (w := X.w) zk rv rv2
    refine PySem.call_dict_pairs (s := { s with heap := h' }) PA (I.ok.hd hc) ok (knd := mixKind X.prog X.w) (kvs := ws) ⟨by rw [k2]; simp, fun i key v hh => k3 i key v (by simpa using hh)⟩ hn fun h'' tk hd hk2 => ?_
    refine ⟨.ref h'.objs.size, upd H h'.objs.size (.dK (mergeK [] kv)), I.laid (t' := tk) (fun b o e => hk2 b o (old b o e) (hk b o e)) (by omega) ?_, rfl, q _ (I.hok.fresh (by omega))⟩
    refine ⟨?_, hm, merged [] ws, KV.merge k1 .nil, hd⟩
    have := length_mergeK kv []
    have e := k1.length
    rw [k2] at e
    simp only [List.size_toArray] at hn
    simp only [List.length_nil] at this
    omega
  · obtain ⟨ws, k1, k2, k3⟩ := zt_have zt rv rv2
    have stay : PySem.KeysStay (tupleKind (mixKind X.prog X.w)) h' h'.objs.size [s.heap.objs.size + 4, s.heap.objs.size + 3, s.heap.objs.size, s.heap.objs.size + 1] ws := by
      intro h3 hh x hx
      have key : ∀ (kv : List (List Key × V)) (ws : List (List Key × Addr × Value)), KT H kv ws → ∀ x ∈ ws, H x.2.1 = some (.tup (x.1.map kV)) := by
        intro kv
        induction kv with
        | nil => intro ws r x hx; cases r; cases hx
        | cons p kv ih =>
          intro ws r x hx
          cases r with
          | cons h t =>
            rcases List.mem_cons.mp hx with e | e
            · subst e
              rw [← h.1]; exact h.2.1
            · exact ih _ t x e
      have e := key kv ws k1 x hx
      have := key_of (P := X.prog) (w := X.w) I.hok e
      obtain ⟨o, items, n, t1, t2, t3, t4⟩ := this
      exact ⟨o, items, n, hh _ _ (Nat.ne_of_lt (by rw [hsz]; exact Nat.lt_of_lt_of_le (Heap.lt_size t1) (Nat.le_add_right _ _))) (old _ _ t1) (hk _ _ t1), t2, t3, t4⟩
    refine PySem.call_dict_pairsH (s := { s with heap := h' }) PA (I.ok.hd hc) (by show X.A.units + 1 + 1 < cLine; omega) ok (knd := tupleKind (mixKind X.prog X.w)) (ps := ws) ⟨by rw [k2]; simp, fun i key v hh => k3 i key v (by simpa using hh)⟩ stay hn fun h'' tk hd hk2 => ?_
    refine ⟨.ref h'.objs.size, upd H h'.objs.size (.dT (mergeT [] kv)), I.laid (t' := tk) (fun b o e => hk2 b o (old b o e) (hk b o e)) (by omega) ?_, rfl, q _ (I.hok.fresh (by omega))⟩
    have kk : KT H (mergeT [] kv) (PySem.storedAllH [] ws) := kt_merge k1 .nil
    obtain ⟨o, es, ep, t1, t2, t3, t4, t5, t6⟩ := hd
    refine ⟨?_, hm, PySem.storedAllH [] ws, kk.keeps fun b ys e => ?_, o, es, ep, t1, t2, t3, t4, t6⟩
    · have := length_mergeT kv []
      have e := Paired.length k1
      rw [k2] at e
      simp only [List.size_toArray] at hn
      simp only [List.length_nil] at this
      omega
    · rw [upd_ne]
      · exact e
      · intro z
        subst z
        have h1 := I.hok.lt e
        rw [hsz] at h1
        exact absurd h1 (Nat.not_lt.mpr (Nat.le_add_right _ _))
theorem zipK_k {K : PySem.W.Frag} {c : Lb} {H : Hp} : ∀ {ds es : List D} {xs ys : List V} {kvs : Kvs}, Rps K c H ds xs → Rps K c H es ys → zipK ds es = some kvs → kvs.all (fun z => z.1.flat1) = true → ∃ kv, ZK xs ys kv ∧ RKs K c H kvs kv
  | [], _, _, _, _, .nil, _, h, _ => by cases h; exact ⟨[], .nl, .nil⟩
  | d :: ds, [], _, _, _, _, .nil, h, _ => by cases h; exact ⟨[], .nr, .nil⟩
  | d :: ds, e :: es, _, _, _, .cons p q, .cons p2 q2, h, fl => by
    unfold zipK at h
    split at h
    · rename_i j kvs h1 h2
      cases h
      rw [List.all_cons, Bool.and_eq_true] at fl
      obtain ⟨kv, z1, z2⟩ := zipK_k q q2 h2 fl.2
      have f1 := fl.1
      rw [← kk1_flat] at f1
      obtain ⟨i, hi⟩ := Option.isSome_iff_exists.mp f1
      have e := (rp_key d p h1).1 i hi
      subst e
      exact ⟨(i, _) :: kv, .cons z1, .cons hi p2 z2⟩
    · cases h
theorem zipK_t {K : PySem.W.Frag} {c : Lb} {H : Hp} : ∀ {ds es : List D} {xs ys : List V} {kvs : Kvs}, Rps K c H ds xs → Rps K c H es ys → zipK ds es = some kvs → kvs.all (fun z => z.1.flatT) = true → ∃ kv, ZT H xs ys kv ∧ RTs K c H kvs kv
  | [], _, _, _, _, .nil, _, h, _ => by cases h; exact ⟨[], .nl, .nil⟩
  | d :: ds, [], _, _, _, _, .nil, h, _ => by cases h; exact ⟨[], .nr, .nil⟩
  | d :: ds, e :: es, _, _, _, .cons p q, .cons p2 q2, h, fl => by
    unfold zipK at h
    split at h
    · rename_i j kvs h1 h2
      cases h
      rw [List.all_cons, Bool.and_eq_true] at fl
      obtain ⟨kv, z1, z2⟩ := zipK_t q q2 h2 fl.2
      have f1 := fl.1
      rw [← kkT_flat] at f1
      obtain ⟨i, hi⟩ := Option.isSome_iff_exists.mp f1
      obtain ⟨b, e, hb⟩ := (rp_key d p h1).2 i hi
      subst e
      exact ⟨(i, _) :: kv, .cons hb z1, .cons hi p2 z2⟩
    · cases h
theorem rt_merge {K : PySem.W.Frag} {c : Lb} {H : Hp} : ∀ (more : Kvs) (kv2 : List (List Key × V)) (kvs : Kvs) (kv : List (List Key × V)), RTs K c H more kv2 → RTs K c H kvs kv → RTs K c H (mergeD kvs more) (mergeT kv kv2) := by
  intro more
  induction more with
  | nil => intro kv2 kvs kv h r; cases h; exact r
  | cons p more ih =>
    intro kv2 kvs kv h r
    cases h with
    | @cons _ j _ x _ kv2 hk q t =>
      show RTs K c H (mergeD (putD kvs _ _) more) (mergeT (putK kv j x) kv2)
      exact ih _ _ _ t (rt_put hk q r)
theorem good_dctZ {K : PySem.W.Frag} {σ : L2.St} {H : Hp} {Q : VK} (h : TD K nv (eDctZ d d') σ H Q) : TD K nv d σ H fun x H1 => TD K nv d' σ H1 fun y H2 => rDctZ K [x, y] H2 Q := by
  obtain ⟨c, m, rel, g⟩ := h
  refine step_eF rel g fun z x m1 c1 H1 f1 rel1 rx g1 => ?_
  refine step_eF rel1 g1 fun z2 y m2 c2 H2 f2 rel2 ry g2 => ?_
  have rx2 := rx.mono f2.toFw
  have f := f1.trans f2
  split at g2
  · rename_i xs ys
    split at g2
    · rename_i kvs hz
      split at g2
      · rename_i hk
        have k : Kont K c2 m2 σ H2 (.nd (mergeD [] kvs)) Q := kont_of f g2
        cases rx2 with
        | lst hc1 q1 r1 =>
          cases ry with
          | lst hc2 q2 r2 =>
            refine ⟨_, _, _, _, rfl, q1, q2, ?_⟩
            rcases (Bool.or_eq_true _ _).mp hk with fl | fl
            · obtain ⟨kv, k1, k2⟩ := zipK_k r1 r2 hz fl
              exact .inl ⟨kv, k1, fun p hp => kont_d k rel2 hp (.inl ⟨_, rfl, rk_merge k2 .nil⟩)⟩
            · obtain ⟨kv, k1, k2⟩ := zipK_t r1 r2 hz fl
              exact .inr ⟨kv, k1, fun p hp => kont_d k rel2 hp (.inr ⟨_, rfl, rt_merge _ _ _ _ k2 .nil⟩)⟩
      · exact g2.elim
    · exact g2.elim
  · exact g2.elim
theorem pd_dctZ (hc : X.calm = true) (hu : X.A.units + 10 < cLine) (Bd : Blt X "dict" (.type "dict")) (Bz : Blt X "zip" (.type "zip")) (ha : PD X nv a d) (hb : PD X nv b d') (hs : notStar a = true) (hs2 : notStar b = true) :
    PD X nv (.Call (.Name "dict" p) [.Call (.Name "zip" q) [a, b] [] zpos] [] pos) (eDctZ d d') := by
  have hA : PA X [a, b] (tCons (TD X.K nv d) (tCons (TD X.K nv d') tNil)) := pa_cons ha (pa_cons hb pa_nil (plain1 hs2 X.env)) (nostar hs [b] X.env)
  have hp : (backTo zpos (starEach [b] X.env)).any (·.1) = false := by rw [plain1 hs2]; rfl
  refine ⟨fun pins s σ H Q I h => wpAny_Call_Name_kw (ld_blt I Bd.g Bd.m Bd.v ?_ Bd.n Bd.d)⟩
  refine PyProof.Rows.callWith_type1 (e := .Call (.Name "zip" q) [a, b] [] zpos) (rest := []) ?_ rfl rfl
  show wpAny _ _ (spliced ((false, eval (.Call (.Name "zip" q) [a, b] [] zpos) X.env) :: [])) _ _ s
  refine Calls.spliced_cons ?_
  refine wpAny_Call_Name_kw (ld_blt I Bz.g Bz.m Bz.v ?_ Bz.n Bz.d)
  refine PyProof.Rows.callWith_type1 (thn (hA.run zpos pins s σ H (fun vs H2 => rDctZ X.K vs H2 Q) I (good_dctZ h)) fun us s1 ⟨vs, H1, I1, r1, q1⟩ => ?_) (nostar hs [b] X.env) hp
  exact thn (cr_dictZip hc hu I1 r1 q1) fun z s2 hh => Calls.spliced_nil hh
/-! ### list(range(..)) -/
theorem rg_rps {K : PySem.W.Frag} {c : Lb} {H : Hp} (lo : Int) (n : Nat) : Rps K c H (rngD lo n) ((List.range n).map fun i => V.int (lo + (i : Nat))) := by
  unfold rngD
  generalize List.range n = l
  induction l with
  | nil => exact .nil
  | cons a r ih => exact .cons (.int _) ih
theorem pd_lst1 (hc : X.calm = true) (Bl : Blt X "list" (.type "list")) (Br : Blt X "range" (.type "range")) (ha : PD X nv a d) (hs : notStar a = true) : PD X nv (.Call (.Name "list" p) [.Call (.Name "range" q) [a] [] zpos] [] pos) (eLstI (iRng1 d)) := by
  refine PE.conv (pe_listRg hc Bl.g Bl.m (prg_1 Br.g Br.m ha (plain1 hs X.env)) rfl) fun σ H Q ⟨c, m, rel, g⟩ => ?_
  have g' : Good X.K c H σ (NE X.K c σ Q) ((d nv m).bind fun o m1 => (match o with
    | .v (.int j) => if (rngOk j) = true then Kd.R.ok (rngD 0 j.toNat) m1 else Kd.R.no
    | _ => Kd.R.no).bind fun xs m1 => if xs.length ≤ sizeLine then Kd.R.ok (.nl xs) m1 else Kd.R.no) := by
    rw [← R.assoc]
    exact g
  refine ⟨c, m, rel, g'.bind fun o m1 c1 H1 e1 f1 rel1 g1 => ?_⟩
  intro x rx wx
  split at g1
  · rename_i j
    split at g1
    · rename_i hj
      rw [Kd.R.bind_ok] at g1
      split at g1
      · rename_i hl
        cases rx
        unfold rngOk at hj
        rw [Bool.and_eq_true, geB_iff, leB_iff] at hj
        have a1 : (2 : Int) ^ 62 = 4611686018427387904 := by decide
        have hj : -(2 : Int) ^ 62 ≤ j ∧ j < 2 ^ 62 := by rw [a1]; omega
        have hlen : (rngD 0 j.toNat).length = j.toNat := by simp [rngD]
        have e2 : (j - 0).toNat = j.toNat := by rw [Int.sub_zero]
        refine ⟨j, rfl, ⟨by omega, by omega, hj.1, hj.2, ?_⟩, fun t ht => ?_⟩
        · rw [e2, ← hlen]; rw [sizeLine_eq] at hl; omega
        · have hv : rgV 0 j = (List.range j.toNat).map fun i => V.int (0 + (i : Nat)) := by unfold rgV; rw [e2]
          rw [hv]
          exact kont_l (kont_of f1 g1) rel1 ht (rg_rps 0 j.toNat)
      · exact g1.elim
    · exact g1.elim
  · exact g1.elim
end
end Kd

namespace Kd
open PySem PySem.Spec PyProof.Rows L2
section
variable {prog : Program} {w : World} {A : Around} {E : Value → Shared → Prop} {s : Shared}
set_option maxHeartbeats 1000000 in
theorem meets_enum1 {v : Value} {o : Obj} {P : Heap → Prop} (B : Begins v o P) : Meets (Builtin.«enumerate.__new__» ⟨[.type "enumerate", v], []⟩) (fun _ R s => P s.heap ∧
      R (.ok (.ret (.ref (s.heap.push o).objs.size))) { s with heap := (s.heap.push o).push { cls := .type "enumerate", data := .fields #[.none, .bool false, .ref s.heap.objs.size, rawInt 0, .none, .none] } }) :=
  .of_wp fun prog w A R s h => by
    obtain ⟨hp, gn, dr, tk, oo⟩ := s; obtain ⟨h1, h⟩ := h
    have hsub := sub_enumerate
    have walkIt : ∀ {A' : Around} {E : Value → Shared → Prop} {Q : Value → Shared → Prop}, Q (.ref hp.objs.size) ⟨hp.push o, gn, dr, tk, oo⟩ → wpAny (model prog w) A' (pyIter v) Q E ⟨hp, gn, dr, tk, oo⟩ :=
      fun q => B.iter prog w _ _ ⟨hp, gn, dr, tk, oo⟩ _ h1 q
    wp_walk using walkIt
    refine wpAny_stack_any fun st => wpAny_pure ?_
    split
    · rename_i c _ _ _ _ _
      cases (c == Value.type "enumerate")
      · wp_walk using walkIt
        exact ⟨_, rfl, h⟩
      · wp_walk using walkIt
        exact ⟨_, rfl, h⟩
    · wp_walk using walkIt
      exact ⟨_, rfl, h⟩
theorem enum1_begins {v : Value} {o : Obj} {P : Heap → Prop} {Q : Value → Shared → Prop} (B : Begins v o P) (h1 : P s.heap)
    (h : ∀ h', IsEnum h' (s.heap.objs.size + 1) s.heap.objs.size 0 .none → h'.get? s.heap.objs.size = some o → (∀ b o, s.heap.get? b = some o → h'.get? b = some o) → Q (.ref (s.heap.objs.size + 1)) { s with heap := h' }) :
    wpAny (model prog w) A (call (.type "enumerate") [v]) Q E s := by
  refine callType_new F.called_enumerate (by decide) (F.typeCall_enumerate_1 _) (F.newCall_enumerate_1 _) (fun obj => F.args_object_init_2 obj _) F.entry_enumerate_new (meets_enum1 B) ⟨h1, ?_⟩
  have hz : (s.heap.push o).objs.size = s.heap.objs.size + 1 := Heap.size_push ..
  show _ ∧ _
  rw [hz]
  have he : IsEnum ((s.heap.push o).push { cls := .type "enumerate", data := .fields #[.none, .bool false, .ref s.heap.objs.size, rawInt 0, .none, .none] }) (s.heap.objs.size + 1) s.heap.objs.size 0 .none := by
    have q := Heap.get?_push_size (s.heap.push o) (o := { cls := .type "enumerate", data := .fields #[.none, .bool false, .ref s.heap.objs.size, rawInt 0, .none, .none] }) rfl
    rw [hz] at q
    exact q
  exact ⟨⟨_, he, rfl⟩, h _ he (Heap.get?_push_of_some _ (Heap.get?_push_size _ B.free)) fun b o x => Heap.get?_push_of_some _ (Heap.get?_push_of_some _ x)⟩
end
/-- enumerate of the tuple at a -/
def IteT (K : PySem.W.Frag) (a : Addr) : It :=
  ⟨fun i H => ∃ (xs : List V) (x : V), SqT K H a xs ∧ xs[i]? = some x, fun i H v H' => ∃ T x, v = .ref T ∧ H T = none ∧ H' = upd H T (.tup [.int (i : Nat), x]) ∧ ∀ xs, SqT K H a xs → xs[i]? = some x, fun i H => ∃ xs : List V, SqT K H a xs ∧ xs.length = i⟩
theorem cls_ne {h : Heap} {a b : Addr} {o u : Obj} {m n : String} (e : h.get? a = some o) (e' : h.get? b = some u) (c : o.cls = .type m) (c' : u.cls = .type n) (hne : m ≠ n) : a ≠ b := fun z => by
  subst z
  rw [e] at e'
  cases e'
  rw [c] at c'
  exact hne (Value.type.inj c')
theorem turn_enumT {P : Program} {w : World} {K : PySem.W.Frag} {elts : List Expr} {kk : Nat} {tpos : Pos} (a e it : Addr) :
    Turn P w K (.Tuple elts kk tpos) (IteT K a) [e, it] e (fun i h => (∃ old, IsEnum h e it ((i : Nat) : Int) old) ∧ h.IsTupleIter it a i ∧ e ≠ it) where
  mem := by simp
  obj := fun i h st b hb => by
    obtain ⟨⟨old, he⟩, ⟨o, ho, hc, hd⟩, _⟩ := st
    rcases List.mem_cons.mp hb with z | z
    · rw [z]; exact ⟨_, he, fun v q => nomatch q⟩
    · rw [List.mem_singleton.mp z]; exact ⟨o, ho, fun v q => by rw [hd] at q; cases q⟩
  keep := fun i h h' st k => let ⟨⟨old, he⟩, hi, hne⟩ := st; ⟨⟨old, k e (by simp) _ he⟩, hi.at fun o q => k it (by simp) o q, hne⟩
  item := by
    intro X hP hw hK hc i pins s σ H E I hf st hg
    subst hP hw hK
    obtain ⟨⟨old, he⟩, hit, hne⟩ := st
    obtain ⟨xs, x, hq, hx⟩ := hg
    obtain ⟨its, rv, pt, hz⟩ := I.tuple hq
    obtain ⟨u, hu, ru⟩ := rv.get hx
    have hel : e < s.heap.objs.size := Heap.lt_size he
    obtain ⟨oi, hoi, hci, hdi⟩ := id hit
    obtain ⟨ot, hot, hct, nt, hdt⟩ := id pt
    have ne1 : a ≠ it := cls_ne hot hoi hct hci (by decide)
    have ne2 : a ≠ e := cls_ne hot he hct rfl (by decide)
    have D := Draws.tuple (prog := X.prog) (w := X.w) (A := X.A.in1) (I.ok.hd hc) it a ne1 its.toArray
    have hlt : i < its.toArray.size := (List.getElem?_eq_some_iff.mp hu).1
    refine wpAny_pyNext_enum_itemD D he ⟨hit, pt⟩ hlt hne (by simp only [List.mem_cons, List.not_mem_nil, or_false, not_or]; exact ⟨hne, fun z => ne2 z.symm⟩) fun y h' tk hy ho hst hT hsz hk => ?_
    have ey : y = u := by
      have e2 : its.toArray[i]? = some u := by simpa using hu
      rw [e2] at hy
      exact (Option.some.inj hy).symm
    subst ey
    refine ⟨_, rfl, wpAny_letOwnedTupleGo_enum (s := { s with heap := h', toks := tk + 1 }) ho fun h'' he' sb => ?_⟩
    have hT2 : h''.get? s.heap.objs.size = some { cls := .type "tuple", data := .seq #[.int i tk, y] } := (sb.2 _ (Nat.ne_of_gt hel)).trans hT
    have new : ObjOk X.prog X.w (upd H s.heap.objs.size (.tup [.int (i : Nat), x])) h'' s.heap.objs.size (.tup [.int (i : Nat), x]) :=
      ⟨by show 2 ≤ sizeLine; decide, [.int i tk, y], .cons ⟨_, rfl⟩ (.cons ru .nil), ⟨_, hT2, rfl, _, rfl⟩⟩
    have I1 : Inv X pins σ (upd H s.heap.objs.size (.tup [.int (i : Nat), x])) { s with heap := h'', toks := tk + 1 } :=
      I.turnedNew (ch := [e, it]) (fun b ob hb q => (sb.2 b (fun z => hb (by simp [z]))).trans (hk b ob (fun z => hb (by simp [z])) (fun z => hb (by simp [z])) q)) hf (Nat.le_refl _) new
    refine ⟨.ref s.heap.objs.size, _, I1, rfl, ⟨_, x, rfl, I.hok.fresh (Nat.le_refl _), rfl, fun ys hy2 => by rw [I.tuple_inj hy2 hq]; exact hx⟩, ⟨⟨y, ?_⟩, hst.1.at fun o q => (sb.2 it (Ne.symm hne)).trans q, hne⟩, fun b hb => ?_⟩
    · have e1 : ((i + 1 : Nat) : Int) = (i : Int) + 1 := by omega
      rw [e1]; exact he'
    · have hb' : b < s.heap.objs.size := by
        rcases List.mem_cons.mp hb with z | z
        · rw [z]; exact hel
        · rw [List.mem_singleton.mp z]; exact Heap.lt_size hoi
      rw [upd_ne (Nat.ne_of_lt hb')]
      exact (hf b hb).1
  done := by
    intro X hP hw hK hc i pins s σ H E I hf st hg
    subst hP hw hK
    obtain ⟨⟨old, he⟩, hit, hne⟩ := st
    obtain ⟨xs, hq, hx⟩ := hg
    obtain ⟨its, rv, pt, hz⟩ := I.tuple hq
    obtain ⟨f0, f1, f2, f3, f4, f5⟩ := hf it (by simp)
    obtain ⟨oi, hoi, hci, hdi⟩ := id hit
    obtain ⟨ot, hot, hct, nt, hdt⟩ := id pt
    have ne1 : a ≠ it := cls_ne hot hoi hct hci (by decide)
    have D := Draws.tuple (prog := X.prog) (w := X.w) (A := X.A.in1) (I.ok.hd hc) it a ne1 its.toArray
    have hl : its.toArray.size = i := by rw [List.size_toArray, ← rv.length]; exact hx
    exact wpAny_pyNext_enum_endD D he ⟨by rw [hl]; exact hit, pt⟩ fun h' eb => ⟨rfl, I.turned (t' := s.toks) (fun b o hb q => eb b o hb q) f0 f1 f3 f4 f5⟩
  self := fun A i s Q E st h => let ⟨⟨_, he⟩, _⟩ := st; wpAny_pyIter_enum he h
/-- J goes through what stands for ds, from the state c, H on -/
structure Yl (K : PySem.W.Frag) (c : Lb) (H : Hp) (ds : List D) (J : It) : Prop where
  go : ∀ i d c' H', ds[i]? = some d → Fw c H c' H' → J.go i H'
  yld : ∀ i d c' H' x H2, ds[i]? = some d → Fw c H c' H' → J.yld i H' x H2 → (H2 = H' ∧ Rp K c' H' d x) ∨ ∃ T vs es, x = .ref T ∧ H' T = none ∧ H2 = upd H' T (.tup vs) ∧ d = .tup es ∧ Rps K c' H' es vs
  stop : ∀ c' H', Fw c H c' H' → J.stop ds.length H'
theorem Yl.step {K : PySem.W.Frag} {c c' : Lb} {H H' H2 : Hp} {ds : List D} {J : It} {i : Nat} {d : D} {x : V} {m : M} {σ : L2.St} (y : Yl K c H ds J) (e : ds[i]? = some d) (f : Fw c H c' H') (h : J.yld i H' x H2) (rel : Rel K c' m σ H') :
    Fr c' H' c' H2 ∧ Rel K c' m σ H2 ∧ Rp K c' H2 d x := by
  rcases y.yld i d c' H' x H2 e f h with ⟨e1, r⟩ | ⟨T, vs, es, e1, hT, e2, e3, r⟩
  · subst e1; exact ⟨Fr.refl _ _, rel, r⟩
  · subst e1 e2 e3
    have hc := rel.free hT
    have f2 : Fr c' H' c' (upd H' T (.tup vs)) := Fr.newT hc hT
    exact ⟨f2, rel.newT hT, .tup upd_same (r.mono f2.toFw)⟩
def NI (K : PySem.W.Frag) (R : It → Hp → Prop) : List D → Lb → Hp → Prop := fun ds c' H' => ∀ J, Yl K c' H' ds J → R J H'
def TDI (K : PySem.W.Frag) (nv : Nv) (it : DI) : TI := fun σ H R => ∃ c m, Rel K c m σ H ∧ Good K c H σ (NI K R) (it nv m)
section
variable {K : PySem.W.Frag} {c : Lb} {H : Hp} {ds : List D} {xs : List V} {a : Addr}
theorem yl_get (r : Rps K c H ds xs) {i : Nat} {d : D} (e : ds[i]? = some d) {c' : Lb} {H' : Hp} (f : Fw c H c' H') : ∃ x, xs[i]? = some x ∧ Rp K c' H' d x := by
  obtain ⟨x, h1, h2⟩ := r.get e
  exact ⟨x, h1, h2.mono f⟩
theorem yl_list (hc : c a = some .fz) (q : SqL K H a xs) (r : Rps K c H ds xs) : Yl K c H ds (Itl K a) where
  go := fun i d c' H' e f => let ⟨x, h, _⟩ := yl_get r e f; ⟨xs, x, f.rdL hc q, h⟩
  yld := fun i d c' H' x H2 e f h => by
    obtain ⟨y, h1, h2⟩ := yl_get r e f
    have h3 := h.2 xs (f.rdL hc q)
    rw [h1] at h3; cases h3
    exact .inl ⟨h.1, h2⟩
  stop := fun c' H' f => ⟨xs, f.rdL hc q, by rw [r.length]; exact Nat.le_refl _⟩
theorem yl_tup (q : SqT K H a xs) (r : Rps K c H ds xs) : Yl K c H ds (Itt K a) where
  go := fun i d c' H' e f => let ⟨x, h, _⟩ := yl_get r e f; ⟨xs, x, f.sqT q, h⟩
  yld := fun i d c' H' x H2 e f h => by
    obtain ⟨y, h1, h2⟩ := yl_get r e f
    have h3 := h.2 xs (f.sqT q)
    rw [h1] at h3; cases h3
    exact .inl ⟨h.1, h2⟩
  stop := fun c' H' f => ⟨xs, f.sqT q, by rw [r.length]; exact Nat.le_refl _⟩
theorem yl_rng (lo : Int) (n : Nat) : Yl K c H (rngD lo n) (Itr lo n) where
  go := fun i d c' H' e f => by
    have q := (List.getElem?_eq_some_iff.mp e).1
    show i < n
    simpa [rngD] using q
  yld := fun i d c' H' x H2 e f h => by
    obtain ⟨h1, h2⟩ := h
    refine .inl ⟨h1, ?_⟩
    subst h2
    have e' : (List.range n)[i]?.map (fun (i : Nat) => D.int (lo + (i : Nat))) = some d := by rw [← List.getElem?_map]; exact e
    rw [Option.map_eq_some_iff] at e'
    obtain ⟨k, e1, e2⟩ := e'
    subst e2
    have hk : k = i := by
      have := List.getElem?_eq_some_iff.mp e1
      obtain ⟨h3, h4⟩ := this
      simpa using h4.symm
    subst hk
    exact .int _
  stop := fun c' H' f => by show n ≤ _; simp [rngD]
theorem enumD_get : ∀ {ds : List D} {k i : Nat} {d : D}, (enumD k ds)[i]? = some d → ∃ e, ds[i]? = some e ∧ d = .tup [.int ((k + i : Nat) : Int), e]
  | [], _, _, _, h => by simp [enumD] at h
  | x :: r, k, 0, d, h => by
    simp only [enumD, List.getElem?_cons_zero, Option.some.injEq] at h
    exact ⟨x, rfl, by rw [← h]; rfl⟩
  | x :: r, k, i + 1, d, h => by
    simp only [enumD, List.getElem?_cons_succ] at h
    obtain ⟨e, h1, h2⟩ := enumD_get h
    refine ⟨e, by simpa using h1, ?_⟩
    rw [h2]
    have : k + 1 + i = k + (i + 1) := by omega
    rw [this]
theorem enumD_len : ∀ (ds : List D) (k : Nat), (enumD k ds).length = ds.length
  | [], _ => rfl
  | _ :: r, k => by simp [enumD, enumD_len r]
theorem yl_enumL (hc : c a = some .fz) (q : SqL K H a xs) (r : Rps K c H ds xs) : Yl K c H (enumD 0 ds) (Ite K a) where
  go := fun i d c' H' e f => by
    obtain ⟨e0, h1, h2⟩ := enumD_get e
    obtain ⟨x, h, _⟩ := yl_get r h1 f
    exact ⟨xs, x, f.rdL hc q, h⟩
  yld := fun i d c' H' x H2 e f h => by
    obtain ⟨e0, h1, h2⟩ := enumD_get e
    obtain ⟨y, h3, h4⟩ := yl_get r h1 f
    obtain ⟨T, z, g1, g2, g3, g4⟩ := h
    have g5 := g4 xs (f.rdL hc q)
    rw [h3] at g5; cases g5
    subst h2
    exact .inr ⟨T, _, _, g1, g2, g3, rfl, by rw [Nat.zero_add]; exact .cons (.int _) (.cons h4 .nil)⟩
  stop := fun c' H' f => ⟨xs, f.rdL hc q, by rw [enumD_len, r.length]; exact Nat.le_refl _⟩
theorem yl_enumT (q : SqT K H a xs) (r : Rps K c H ds xs) : Yl K c H (enumD 0 ds) (IteT K a) where
  go := fun i d c' H' e f => by
    obtain ⟨e0, h1, h2⟩ := enumD_get e
    obtain ⟨x, h, _⟩ := yl_get r h1 f
    exact ⟨xs, x, f.sqT q, h⟩
  yld := fun i d c' H' x H2 e f h => by
    obtain ⟨e0, h1, h2⟩ := enumD_get e
    obtain ⟨y, h3, h4⟩ := yl_get r h1 f
    obtain ⟨T, z, g1, g2, g3, g4⟩ := h
    have g5 := g4 xs (f.sqT q)
    rw [h3] at g5; cases g5
    subst h2
    exact .inr ⟨T, _, _, g1, g2, g3, rfl, by rw [Nat.zero_add]; exact .cons (.int _) (.cons h4 .nil)⟩
  stop := fun c' H' f => ⟨xs, f.sqT q, by rw [enumD_len, r.length]⟩
theorem zipD_get : ∀ {ds es : List D} {i : Nat} {d : D}, (zipD ds es)[i]? = some d → ∃ x y, ds[i]? = some x ∧ es[i]? = some y ∧ d = .tup [x, y]
  | [], _, _, _, h => by simp [zipD] at h
  | _ :: _, [], _, _, h => by simp [zipD] at h
  | x :: r, y :: s, 0, d, h => by
    simp only [zipD, List.getElem?_cons_zero, Option.some.injEq] at h
    exact ⟨x, y, rfl, rfl, h.symm⟩
  | x :: r, y :: s, i + 1, d, h => by
    simp only [zipD, List.getElem?_cons_succ] at h
    obtain ⟨u, v, h1, h2, h3⟩ := zipD_get h
    exact ⟨u, v, by simpa using h1, by simpa using h2, h3⟩
theorem zipD_len : ∀ (ds es : List D), (zipD ds es).length = min ds.length es.length
  | [], _ => by simp [zipD]
  | _ :: _, [] => by simp [zipD]
  | _ :: r, _ :: s => by simp only [zipD, List.length_cons, zipD_len r s]; omega
theorem yl_zipL {b : Addr} {es : List D} {ys : List V} (hc : c a = some .fz) (hc2 : c b = some .fz) (q : SqL K H a xs) (q2 : SqL K H b ys) (r : Rps K c H ds xs) (r2 : Rps K c H es ys) : Yl K c H (zipD ds es) (Itz K a b) where
  go := fun i d c' H' e f => by
    obtain ⟨u, v, h1, h2, _⟩ := zipD_get e
    obtain ⟨x, h3, _⟩ := yl_get r h1 f
    obtain ⟨y, h4, _⟩ := yl_get r2 h2 f
    exact ⟨xs, ys, x, y, f.rdL hc q, f.rdL hc2 q2, h3, h4⟩
  yld := fun i d c' H' x H2 e f h => by
    obtain ⟨u, v, h1, h2, h3⟩ := zipD_get e
    obtain ⟨x, h4, h5⟩ := yl_get r h1 f
    obtain ⟨y, h6, h7⟩ := yl_get r2 h2 f
    obtain ⟨T, x', y', g1, g2, g3, g4, g5⟩ := h
    have k1 := g4 xs (f.rdL hc q)
    have k2 := g5 ys (f.rdL hc2 q2)
    rw [h4] at k1; cases k1
    rw [h6] at k2; cases k2
    subst h3
    exact .inr ⟨T, _, _, g1, g2, g3, rfl, .cons h5 (.cons h7 .nil)⟩
  stop := fun c' H' f => ⟨xs, ys, f.rdL hc q, f.rdL hc2 q2, by rw [zipD_len, r.length, r2.length]; omega⟩
theorem yl_zipT {b : Addr} {es : List D} {ys : List V} (q : SqT K H a xs) (q2 : SqT K H b ys) (r : Rps K c H ds xs) (r2 : Rps K c H es ys) : Yl K c H (zipD ds es) (RZ.ItzT K a b) where
  go := fun i d c' H' e f => by
    obtain ⟨u, v, h1, h2, _⟩ := zipD_get e
    obtain ⟨x, h3, _⟩ := yl_get r h1 f
    obtain ⟨y, h4, _⟩ := yl_get r2 h2 f
    exact ⟨xs, ys, x, y, f.sqT q, f.sqT q2, h3, h4⟩
  yld := fun i d c' H' x H2 e f h => by
    obtain ⟨u, v, h1, h2, h3⟩ := zipD_get e
    obtain ⟨x, h4, h5⟩ := yl_get r h1 f
    obtain ⟨y, h6, h7⟩ := yl_get r2 h2 f
    obtain ⟨T, x', y', g1, g2, g3, g4, g5⟩ := h
    have k1 := g4 xs (f.sqT q)
    have k2 := g5 ys (f.sqT q2)
    rw [h4] at k1; cases k1
    rw [h6] at k2; cases k2
    subst h3
    exact .inr ⟨T, _, _, g1, g2, g3, rfl, .cons h5 (.cons h7 .nil)⟩
  stop := fun c' H' f => ⟨xs, ys, f.sqT q, f.sqT q2, by rw [zipD_len, r.length, r2.length]; omega⟩
end
section
variable {X : Cx} {nv : Nv} {tg e e2 : Expr} {d d' : DE} {p pos tpos : Pos} {elts : List Expr} {kk : Nat}
/-- a list or a tuple walked -/
theorem pi_seq {te : TE} (he : PE X e te) : PI X tg e fun σ H R => te σ H fun x H1 => ∃ a, x = .ref a ∧ ((∃ xs, SqL X.K H1 a xs ∧ R (Itl X.K a) H1) ∨ ∃ xs, SqT X.K H1 a xs ∧ R (Itt X.K a) H1) := by
  refine ⟨fun pins s σ H R I h => thn (he.run pins s σ H _ I h) fun v s1 ⟨x, H1, I1, r1, a, ex, q⟩ => ?_⟩
  subst ex
  cases r1
  have fresh1 : ∀ b ∈ [s1.heap.objs.size], FpOk X pins H1 b := fun b hb => by
    rw [List.mem_singleton.mp hb]
    exact I1.fpOk (Nat.le_refl _) (I1.hok.fresh (Nat.le_refl _))
  rcases q with ⟨xs, hq, q⟩ | ⟨xs, hq, q⟩
  · obtain ⟨its, rv, pl, hz⟩ := I1.list hq
    exact wpAny_pyIter_list pl.isList ⟨s1.heap.objs.size, [s1.heap.objs.size], _, _, H1, rfl, I1.kept (t' := s1.toks) fun b o e => Heap.get?_push_of_some _ e, turn_list a _, ⟨_, Heap.get?_push_size _ rfl, rfl, rfl⟩, fresh1, q⟩
  · obtain ⟨its, rv, pt, hz⟩ := I1.tuple hq
    exact wpAny_pyIter_tuple (show s1.heap.IsTuple a its.toArray from pt) ⟨s1.heap.objs.size, [s1.heap.objs.size], _, _, H1, rfl, I1.kept (t' := s1.toks) fun b o e => Heap.get?_push_of_some _ e, turn_tuple a _, ⟨_, Heap.get?_push_size _ rfl, rfl, rfl⟩, fresh1, q⟩
theorem pd_seq (ha : PD X nv e d) : PI X tg e (TDI X.K nv (iSeq d)) := by
  refine ⟨fun pins s σ H R I ⟨c, m, rel, g⟩ => (pi_seq (tg := tg) ha).run pins s σ H R I ?_⟩
  refine step_eF rel g fun z x m1 c1 H1 f1 rel1 rx g1 => ?_
  obtain ⟨ds, e1, g2⟩ := of_some g1
  cases z <;> simp only [frozen] at e1 <;> cases e1
  · cases rx with
    | tup hT r => exact ⟨_, rfl, .inr ⟨_, SqT.of hT, g2 c1 H1 f1 rel1 _ (yl_tup (SqT.of hT) r)⟩⟩
  · cases rx with
    | lst hc hL r => exact ⟨_, rfl, .inl ⟨_, hL, g2 c1 H1 f1 rel1 _ (yl_list hc hL r)⟩⟩
theorem pd_rng1 (B : Blt X "range" (.type "range")) (ha : PD X nv e d) (hs : notStar e = true) : PI X tg (.Call (.Name "range" p) [e] [] pos) (TDI X.K nv (Kd.iRng1 d)) := by
  have hA : PA X [e] (tCons (TD X.K nv d) tNil) := pa_cons ha pa_nil (plain1 hs X.env)
  refine ⟨fun pins s σ H R I ⟨c, m, rel, g⟩ => (pi_range1 (tg := tg) B.g B.m hA (plain1 hs X.env)).run pins s σ H R I ?_⟩
  refine ⟨c, m, rel, Good.bind g fun o m1 c1 H1 e1 f1 rel1 g1 => ?_⟩
  intro x rx wx
  split at g1
  · rename_i j
    split at g1
    · rename_i hj
      cases rx
      unfold rngOk at hj
      rw [Bool.and_eq_true, geB_iff, leB_iff] at hj
      have a1 : (2 : Int) ^ 62 = 4611686018427387904 := by decide
      have hj : -(2 : Int) ^ 62 ≤ j ∧ j < 2 ^ 62 := by rw [a1]; omega
      exact ⟨j, rfl, hj.1, hj.2, g1 c1 H1 f1 rel1 _ (yl_rng 0 j.toNat)⟩
    · exact g1.elim
  · exact g1.elim
theorem pd_rng2 (B : Blt X "range" (.type "range")) (ha : PD X nv e d) (hb : PD X nv e2 d') (hs : notStar e = true) (hs2 : notStar e2 = true) : PI X tg (.Call (.Name "range" p) [e, e2] [] pos) (TDI X.K nv (Kd.iRng2 d d')) := by
  have hA : PA X [e, e2] (tCons (TD X.K nv d) (tCons (TD X.K nv d') tNil)) := pa_cons ha (pa_cons hb pa_nil (plain1 hs2 X.env)) (nostar hs [e2] X.env)
  refine ⟨fun pins s σ H R I ⟨c, m, rel, g⟩ => (pi_range2 (tg := tg) B.g B.m hA (by rw [nostar hs, plain1 hs2]; rfl) (plain1 hs2 X.env)).run pins s σ H R I ?_⟩
  refine ⟨c, m, rel, Good.bind g fun o m1 c1 H1 e1 f1 rel1 g1 => ?_⟩
  intro x rx wx
  refine ⟨c1, m1, rel1, good_step g1 fun o2 m2 c2 H2 e2 f2 rel2 g2 => ?_⟩
  intro y ry wy
  split at g2
  · rename_i i j
    split at g2
    · rename_i hj
      have rx' : Rp X.K c2 H2 (.int i) x := Rp.mono f2.toFw rx
      cases rx'
      cases ry
      unfold rngOk at hj
      simp only [Bool.and_eq_true, geB_iff, leB_iff] at hj
      have a1 : (2 : Int) ^ 62 = 4611686018427387904 := by decide
      have hj : ((-(2 : Int) ^ 62 ≤ i ∧ i < 2 ^ 62) ∧ -(2 : Int) ^ 62 ≤ j ∧ j < 2 ^ 62) := by rw [a1]; omega
      exact ⟨i, j, rfl, ⟨hj.1.1, hj.1.2, hj.2.1, hj.2.2⟩, g2 c2 H2 (f1.trans f2) rel2 _ (yl_rng i (j - i).toNat)⟩
    · exact g2.elim
  · exact g2.elim
/-- enumerate -/
theorem pi_enumS {ta : TA} (B : Blt X "enumerate" (.type "enumerate")) (ha : PA X [e] ta) (hs : starEach [e] X.env = (false, eval e X.env) :: starEach [] X.env) :
    PI X (.Tuple elts kk tpos) (.Call (.Name "enumerate" p) [e] [] pos) fun σ H R => ta σ H fun vs H1 => ∃ a, vs = [.ref a] ∧ ((∃ xs, SqL X.K H1 a xs ∧ R (Ite X.K a) H1) ∨ ∃ xs, SqT X.K H1 a xs ∧ R (IteT X.K a) H1) := by
  refine ⟨fun pins s σ H R I h => Call_ (ld_blt I B.g B.m B.v (PyProof.Rows.callWith_type1 (thn (ha.run pos pins s σ H _ I h) fun us s1 ⟨vs, H1, I1, r1, a, ex, q⟩ => ?_) hs rfl) B.n B.d)⟩
  subst ex
  obtain ⟨u, rfl, r⟩ := vals1 r1
  cases r
  have fresh2 : ∀ b ∈ [s1.heap.objs.size + 1, s1.heap.objs.size], FpOk X pins H1 b := fun b hb => by
    have hle : s1.heap.objs.size ≤ b := by
      rcases List.mem_cons.mp hb with z | z
      · rw [z]; exact Nat.le_add_right _ _
      · rw [List.mem_singleton.mp z]; exact Nat.le_refl _
    exact I1.fpOk hle (I1.hok.fresh hle)
  rcases q with ⟨xs, hq, q⟩ | ⟨xs, hq, q⟩
  · obtain ⟨its, rv, pl, hz⟩ := I1.list hq
    refine enum1_begins (begins_list a its.toArray) pl.isList fun h' he hi hk => wpAny_pyIter_enum he ?_
    exact ⟨s1.heap.objs.size + 1, [s1.heap.objs.size + 1, s1.heap.objs.size], _, _, H1, rfl, I1.kept (t' := s1.toks) hk, turn_enum a (s1.heap.objs.size + 1) s1.heap.objs.size, ⟨⟨.none, he⟩, ⟨_, hi, rfl, rfl⟩, Nat.succ_ne_self _⟩, fresh2, q⟩
  · obtain ⟨its, rv, pt, hz⟩ := I1.tuple hq
    refine enum1_begins (begins_tuple a its.toArray) pt fun h' he hi hk => wpAny_pyIter_enum he ?_
    exact ⟨s1.heap.objs.size + 1, [s1.heap.objs.size + 1, s1.heap.objs.size], _, _, H1, rfl, I1.kept (t' := s1.toks) hk, turn_enumT a (s1.heap.objs.size + 1) s1.heap.objs.size, ⟨⟨.none, he⟩, ⟨_, hi, rfl, rfl⟩, Nat.succ_ne_self _⟩, fresh2, q⟩
theorem pd_enum (B : Blt X "enumerate" (.type "enumerate")) (ha : PD X nv e d) (hs : notStar e = true) : PI X (.Tuple elts kk tpos) (.Call (.Name "enumerate" p) [e] [] pos) (TDI X.K nv (Kd.iEnum d)) := by
  have hA : PA X [e] (tCons (TD X.K nv d) tNil) := pa_cons ha pa_nil (plain1 hs X.env)
  refine ⟨fun pins s σ H R I ⟨c, m, rel, g⟩ => (pi_enumS B hA (plain1 hs X.env)).run pins s σ H R I ?_⟩
  refine step_eF rel g fun z x m1 c1 H1 f1 rel1 rx g1 => ?_
  obtain ⟨ds, e1, g2⟩ := of_some g1
  cases z <;> simp only [frozen] at e1 <;> cases e1
  · cases rx with
    | tup hT r => exact ⟨_, rfl, .inr ⟨_, SqT.of hT, g2 c1 H1 f1 rel1 _ (yl_enumT (SqT.of hT) r)⟩⟩
  · cases rx with
    | lst hc hL r => exact ⟨_, rfl, .inl ⟨_, hL, g2 c1 H1 f1 rel1 _ (yl_enumL hc hL r)⟩⟩
theorem good_zipI {K : PySem.W.Frag} {σ : L2.St} {H : Hp} {R : It → Hp → Prop} (h : TDI K nv (Kd.iZip d d') σ H R) : TD K nv d σ H fun x H1 => TD K nv d' σ H1 fun y H2 =>
    ∃ a b xs ys, [x, y] = [V.ref a, V.ref b] ∧ ((SqL K H2 a xs ∧ SqL K H2 b ys ∧ R (Itz K a b) H2) ∨ (SqT K H2 a xs ∧ SqT K H2 b ys ∧ R (RZ.ItzT K a b) H2)) := by
  obtain ⟨c, m, rel, g⟩ := h
  refine step_eF rel g fun z x m1 c1 H1 f1 rel1 rx g1 => ?_
  refine step_eF rel1 g1 fun z2 y m2 c2 H2 f2 rel2 ry g2 => ?_
  obtain ⟨ds, e1, g3⟩ := of_some g2
  have rx2 := rx.mono f2.toFw
  have f := f1.trans f2
  unfold zipO at e1
  split at e1
  · cases e1
    cases rx2 with
    | tup h1 r1 =>
      cases ry with
      | tup h2 r2 => exact ⟨_, _, _, _, rfl, .inr ⟨SqT.of h1, SqT.of h2, g3 c2 H2 f rel2 _ (yl_zipT (SqT.of h1) (SqT.of h2) r1 r2)⟩⟩
  · cases e1
    cases rx2 with
    | lst hc1 h1 r1 =>
      cases ry with
      | lst hc2 h2 r2 => exact ⟨_, _, _, _, rfl, .inl ⟨h1, h2, g3 c2 H2 f rel2 _ (yl_zipL hc1 hc2 h1 h2 r1 r2)⟩⟩
  · cases e1
theorem pd_zip (B : Blt X "zip" (.type "zip")) (ha : PD X nv e d) (hb : PD X nv e2 d') (hs : notStar e = true) (hs2 : notStar e2 = true) : PI X (.Tuple elts kk tpos) (.Call (.Name "zip" p) [e, e2] [] pos) (TDI X.K nv (Kd.iZip d d')) := by
  have hA : PA X [e, e2] (tCons (TD X.K nv d) (tCons (TD X.K nv d') tNil)) := pa_cons ha (pa_cons hb pa_nil (plain1 hs2 X.env)) (nostar hs [e2] X.env)
  refine ⟨fun pins s σ H R I h => (RZ.pi_zipA B.g B.m hA (nostar hs [e2] X.env) (by rw [plain1 hs2]; rfl)).run pins s σ H R I ?_⟩
  exact good_zipI h
end
end Kd

namespace Kd
open PySem PySem.Spec PyProof.Rows L2
theorem wipe_in (σ : L2.St) {i : Nat} (v : Option V) : ∀ {own : List Nat}, i ∈ own → wipe (σ.set i v) own = wipe σ own
  | [], h => by cases h
  | j :: own, h => by
    unfold wipe
    by_cases hi : i ∈ own
    · rw [wipe_in σ v hi]
    · have e : i = j := by
        rcases List.mem_cons.mp h with z | z
        · exact z
        · exact absurd z hi
      subst e
      have key : ∀ own : List Nat, (wipe (σ.set i v) own).set i none = (wipe σ own).set i none := by
        intro own
        induction own with
        | nil => unfold wipe; rw [List.set_set]
        | cons k own ih =>
          unfold wipe
          by_cases hk : k = i
          · subst hk; rw [List.set_set, List.set_set]; exact ih
          · rw [List.set_comm _ _ hk, ih, List.set_comm _ _ (Ne.symm hk)]
      exact key own
theorem wipe_idem (σ : L2.St) : ∀ own : List Nat, wipe (wipe σ own) own = wipe σ own := by
  have key : ∀ (own all : List Nat) (τ : L2.St), (∀ i ∈ own, i ∈ all) → wipe (wipe τ own) all = wipe τ all := by
    intro own
    induction own with
    | nil => intro all τ _; rfl
    | cons i own ih =>
      intro all τ h
      show wipe ((wipe τ own).set i none) all = _
      rw [wipe_in _ none (h i (List.mem_cons_self ..)), ih all τ fun j hj => h j (List.mem_cons_of_mem _ hj)]
  exact fun own => key own own σ fun _ h => h
theorem wipeS_len (r : List Sl) : ∀ own : List Nat, (wipeS r own).length = r.length
  | [] => rfl
  | i :: own => by unfold wipeS; rw [List.length_set, wipeS_len r own]
theorem wipeS_get (r : List Sl) {j : Nat} {s : Sl} : ∀ {own : List Nat}, (wipeS r own)[j]? = some s → (s = .un) ∨ (j ∉ own ∧ r[j]? = some s)
  | [], h => .inr ⟨by simp, h⟩
  | i :: own, h => by
    unfold wipeS at h
    rcases set_get h with ⟨_, e⟩ | ⟨ne, h⟩
    · exact .inl e
    · rcases wipeS_get r h with e | ⟨n, e⟩
      · exact .inl e
      · exact .inr ⟨by simp only [List.mem_cons, not_or]; exact ⟨ne, n⟩, e⟩
theorem wipeS_out (r : List Sl) {j : Nat} : ∀ {own : List Nat}, j ∉ own → (wipeS r own)[j]? = r[j]?
  | [], _ => rfl
  | i :: own, h => by
    simp only [List.mem_cons, not_or] at h
    unfold wipeS
    rw [List.getElem?_set_ne (Ne.symm h.1), wipeS_out r h.2]
theorem backS_len (r0 r : List Sl) : ∀ own : List Nat, (backS r0 r own).length = r.length
  | [] => rfl
  | i :: own => by unfold backS; rw [List.length_set, backS_len r0 r own]
theorem backS_get (r0 r : List Sl) {j : Nat} {s : Sl} : ∀ {own : List Nat}, (backS r0 r own)[j]? = some s → s = keptS r0[j]? ∨ (j ∉ own ∧ r[j]? = some s)
  | [], h => .inr ⟨by simp, h⟩
  | i :: own, h => by
    unfold backS at h
    rcases set_get h with ⟨e0, e⟩ | ⟨ne, h⟩
    · subst e0; exact .inl e
    · rcases backS_get r0 r h with e | ⟨n, e⟩
      · exact .inl e
      · exact .inr ⟨by simp only [List.mem_cons, not_or]; exact ⟨ne, n⟩, e⟩
section
variable {K : PySem.W.Frag} {c c1 : Lb} {H H1 : Hp} {m m1 : M} {σ : L2.St} {nv : Nv}
theorem Rel.wipe (r : Rel K c m σ H) (own : List Nat) : Rel K c (wipeM own m) (L2.wipe σ own) H where
  sl := fun i s e => by
    rcases wipeS_get m.r e with z | ⟨n, e⟩
    · subst z; trivial
    · rw [wipe_out n]; exact r.sl i s e
  ob := r.ob
  uq := r.uq
  lt := r.lt
  lv := r.lv
  len := by show (wipeS m.r own).length = _; rw [wipeS_len, wipe_length]; exact r.len
theorem Rel.back {own : List Nat} (r : Rel K c (wipeM own m) (L2.wipe σ own) H) (r1 : Rel K c1 m1 σ H1) (f : Fw c1 H1 c H) : Rel K c { m with r := backS m1.r m.r own } σ H where
  sl := fun i s e => by
    rcases backS_get m1.r m.r e with z | ⟨n, e⟩
    · cases e2 : m1.r[i]? with
      | none => rw [e2] at z; subst z; trivial
      | some s0 =>
        rw [e2] at z
        cases s0 with
        | val d =>
          subst z
          obtain ⟨x, h1, h2⟩ := r1.sl i _ e2
          exact ⟨x, h1, h2.mono f⟩
        | un => subst z; trivial
        | ol _ => subst z; trivial
        | od _ => subst z; trivial
    · have e' : (wipeM own m).r[i]? = some s := by
        show (wipeS m.r own)[i]? = some s
        rw [wipeS_out m.r n]; exact e
      have q := r.sl i s e'
      rw [wipe_out n] at q
      exact q
  ob := r.ob
  uq := r.uq
  lt := r.lt
  lv := r.lv
  len := by
    have h := r.len
    show (backS m1.r m.r own).length = _
    rw [backS_len]
    have e1 : (wipeM own m).r.length = m.r.length := wipeS_len m.r own
    rw [e1, wipe_length] at h
    exact h
/-- a target's reading -/
def TGP (K : PySem.W.Frag) (p : Pat) : TG := fun v σ H Q => ∃ c m d m', Rel K c m σ H ∧ Rp K c H d v ∧ p.set d m = some m' ∧ ∀ σ', Rel K c m' σ' H → (∀ own, (∀ i ∈ patIs p, i ∈ own) → L2.wipe σ' own = L2.wipe σ own) → Q σ' H
def TGPs (K : PySem.W.Frag) (ps : List Pat) : TGs := fun vs σ H Q => ∃ c m ds m', Rel K c m σ H ∧ Rps K c H ds vs ∧ Pat.sets ps ds m = some m' ∧ ∀ σ', Rel K c m' σ' H → (∀ own, (∀ i ∈ patsIs ps, i ∈ own) → L2.wipe σ' own = L2.wipe σ own) → Q σ' H
end
section
variable {X : Cx} {nv : Nv}
theorem PG.conv {e : Expr} {t t' : TG} (h : PG X e t) (k : ∀ v σ H Q, t' v σ H Q → t v σ H Q) : PG X e t' := ⟨fun pins s σ H v u Q I r w => h.run pins s σ H v u Q I r (k v σ H Q w)⟩
theorem PGs.conv {e : List Expr} {t t' : TGs} (h : PGs X e t) (k : ∀ v σ H Q, t' v σ H Q → t v σ H Q) : PGs X e t' := ⟨fun pins s σ H v u Q I r w => h.run pins s σ H v u Q I r (k v σ H Q w)⟩
theorem PG.or {e : Expr} {t t' : TG} (h : PG X e t) (h' : PG X e t') : PG X e fun v σ H Q => t v σ H Q ∨ t' v σ H Q := ⟨fun pins s σ H v u Q I r w => by
  rcases w with w | w
  · exact h.run pins s σ H v u Q I r w
  · exact h'.run pins s σ H v u Q I r w⟩
theorem gp_name {i : Nat} {x : Str} {pos : Pos} (hN : X.N.Nodup) (hi : X.N[i]? = some x) (hx : Loc X.env.scope x) (hf : X.fn x = true ∨ X.env.scope.names.lookup x = some .local) : PG X (.Name x pos) (TGP X.K (.n i)) := by
  refine PG.conv (pg_name hN hi hx hf) fun v σ H Q ⟨c, m, d, m', rel, r, e, q⟩ => ?_
  simp only [Pat.set, Option.some.injEq] at e
  subst e
  exact q _ (rel.put ⟨v, rfl, r⟩) fun own h => wipe_in σ _ (h i (by simp [patIs]))
theorem gp_nil : PGs X [] (TGPs X.K []) := PGs.conv pgs_nil fun vs σ H Q ⟨c, m, ds, m', rel, r, e, q⟩ => by
  cases r with
  | nil =>
    simp only [Pat.sets, Option.some.injEq] at e
    subst e
    exact ⟨rfl, q σ rel fun _ _ => rfl⟩
  | cons _ _ => simp [Pat.sets] at e
theorem gp_cons {e : Expr} {es : List Expr} {p : Pat} {ps : List Pat} (h1 : PG X e (TGP X.K p)) (h2 : PGs X es (TGPs X.K ps)) (hs : (assignEach (e :: es) X.env).map (·.2) = assign e X.env :: (assignEach es X.env).map (·.2)) : PGs X (e :: es) (TGPs X.K (p :: ps)) := by
  refine PGs.conv (pgs_cons h1 h2 hs) fun vs σ H Q ⟨c, m, ds, m', rel, r, e, q⟩ => ?_
  cases r with
  | nil => simp [Pat.sets] at e
  | @cons d ds x xs r1 r2 =>
    simp only [Pat.sets] at e
    cases e1 : p.set d m with
    | none => rw [e1] at e; cases e
    | some m1 =>
      rw [e1] at e
      refine ⟨x, xs, rfl, c, m, d, m1, rel, r1, e1, fun σ' rel' hw => ?_⟩
      refine ⟨c, m1, ds, m', rel', r2, e, fun σ2 rel2 hw2 => q σ2 rel2 fun own ho => ?_⟩
      rw [hw2 own fun i hi => ho i (by simp only [patsIs, List.mem_append]; exact .inr hi), hw own fun i hi => ho i (by simp only [patsIs, List.mem_append]; exact .inl hi)]
theorem gp_tup {es : List Expr} {k : Nat} {pos : Pos} {ps : List Pat} (hc : X.calm = true) (h : PGs X es (TGPs X.K ps)) (hn : (assignEach es X.env).length = ps.length) (hst : (assignEach es X.env).findIdx? (·.1) = none) : PG X (.Tuple es k pos) (TGP X.K (.t ps)) := by
  refine PG.conv (PG.or (pg_tup hc h hn hst) (pg_unl hc h hn hst)) fun v σ H Q ⟨c, m, d, m', rel, r, e, q⟩ => ?_
  have len : ∀ {ps : List Pat} {ds : List D} {m m' : M}, Pat.sets ps ds m = some m' → ds.length = ps.length := by
    intro ps
    induction ps with
    | nil => intro ds m m' e; cases ds with | nil => rfl | cons _ _ => simp [Pat.sets] at e
    | cons p ps ih =>
      intro ds m m' e
      cases ds with
      | nil => simp [Pat.sets] at e
      | cons d ds =>
        simp only [Pat.sets] at e
        cases e1 : p.set d m with
        | none => rw [e1] at e; cases e
        | some m1 => rw [e1] at e; rw [List.length_cons, List.length_cons, ih e]
  simp only [Pat.set] at e
  cases e1 : vwD m.S d with
  | none => rw [e1] at e; simp at e
  | some w =>
    rw [e1] at e
    have vr := vwD_ok rel r e1
    have q' : ∀ {ds : List D} {xs : List V}, Rps X.K c H ds xs → Pat.sets ps ds m = some m' → TGPs X.K ps xs σ H Q := fun {ds xs} r2 e2 =>
      ⟨c, m, ds, m', rel, r2, e2, fun σ' rel' hw => q σ' rel' fun own ho => hw own fun i hi => ho i (by simpa only [patIs] using hi)⟩
    cases w with
    | l ds =>
      obtain ⟨a, xs, rfl, h1, h2⟩ := vr
      exact .inr ⟨a, xs, rfl, h1, by rw [← h2.length]; exact len e, q' h2 e⟩
    | k kvs => simp at e
    | d dd =>
      cases dd with
      | tup ds =>
        cases vr with
        | tup h1 h2 => exact .inl ⟨_, _, rfl, SqT.of h1, by rw [← h2.length]; exact len e, q' h2 e⟩
      | _ => simp at e
end
/-! ### comprehensions -/
theorem good_comp {K : PySem.W.Frag} {nv : Nv} {it : DI} {p : Pat} {cc : DT} {e : DE} {own : List Nat} {σ : L2.St} {H0 : Hp} {Q : VK} (hp : ∀ i ∈ patIs p, i ∈ own) (h : TD K nv (eComp it p cc e own) σ H0 Q) :
    tLc (TDI K nv it) (TGP K p) (TB K nv cc) (TD K nv e) own σ H0 Q := by
  obtain ⟨c0, m0, rel0, g⟩ := h
  refine ⟨c0, m0, rel0, Good.bind g fun ds m1 c1 H1 e1 f1 rel1 g1 => ?_⟩
  intro J yl D hD
  have hcD := rel1.free hD
  have f1' : Fr c1 H1 (rlb c1 D .out) (upd H1 D (.lst [])) := Fr.new hcD hD
  have rel1' := rel1.new (o := .lst []) (l := .out) hD (fun _ => by simp)
  refine ⟨fun i n H => ∃ c mm acc av, i ≤ ds.length ∧ n = ds.length - i ∧ Fr c1 H1 c H ∧ c D = some .out ∧ Rel K c (wipeM own mm) (L2.wipe σ own) H ∧ H D = some (.lst av) ∧ Rps K c H acc av ∧
    Good K c0 H0 σ (NE K c0 σ Q) ((compL own p cc (eF e) nv (ds.drop i) mm acc).bind fun ys m2 => .ok (.nl ys) { m2 with r := backS m1.r m2.r own }), ⟨ds.length, ?_⟩, ?_⟩
  · exact ⟨_, m1, [], [], Nat.zero_le _, rfl, f1', rlb_same, rel1'.wipe own, upd_same, .nil, g1⟩
  · rintro i n H ⟨c, mm, acc, av, hi, rfl, fc, hout, rel, hDv, racc, gg⟩
    by_cases hlt : i < ds.length
    · obtain ⟨d, hd⟩ : ∃ d, ds[i]? = some d := ⟨ds[i], List.getElem?_eq_getElem hlt⟩
      have hdrop : ds.drop i = d :: ds.drop (i + 1) := by
        rw [List.drop_eq_getElem_cons hlt]
        rw [List.getElem?_eq_getElem hlt] at hd
        rw [Option.some.inj hd]
      rw [hdrop] at gg
      refine .inr ⟨yl.go i d c H hd fc.toFw, fun H' => ∃ c mm acc av, i + 1 ≤ ds.length ∧ Fr c1 H1 c H' ∧ c D = some .out ∧ Rel K c (wipeM own mm) (L2.wipe σ own) H' ∧ H' D = some (.lst av) ∧ Rps K c H' acc av ∧
        Good K c0 H0 σ (NE K c0 σ Q) ((compL own p cc (eF e) nv (ds.drop (i + 1)) mm acc).bind fun ys m2 => .ok (.nl ys) { m2 with r := backS m1.r m2.r own }), ?_, ?_⟩
      · rintro H' ⟨c', mm', acc', av', k1, k2⟩
        exact ⟨ds.length - (i + 1), by omega, c', mm', acc', av', k1, rfl, k2⟩
      · intro x H2 hy
        obtain ⟨f2, rel2, rx⟩ := yl.step hd fc.toFw hy rel
        unfold compL at gg
        cases es : p.set d (wipeM own mm) with
        | none => rw [es] at gg; exact gg.elim
        | some m2 =>
          rw [es] at gg
          simp only at gg
          rw [R.assoc] at gg
          refine ⟨c, wipeM own mm, d, m2, rel2, rx, es, fun σ2 rel3 hw => ⟨(hw own hp).trans (wipe_idem σ own), ?_⟩⟩
          have hwσ : L2.wipe σ2 own = L2.wipe σ own := (hw own hp).trans (wipe_idem σ own)
          refine ⟨c, m2, rel3, good_step gg fun b m3 c3 H3 e3 f3 rel4 g4 => ?_⟩
          have fc3 : Fr c1 H1 c3 H3 := (fc.trans f2).trans f3
          have out3 : c3 D = some .out ∧ H3 D = some (.lst av) := by
            obtain ⟨z1, z2⟩ := (f2.trans f3).out D hout
            exact ⟨z1, z2.trans hDv⟩
          cases b with
          | false =>
            simp only [Bool.false_eq_true, if_false] at g4
            unfold NB
            simp only [Bool.false_eq_true, if_false]
            refine ⟨c3, m3, acc, av, hlt, fc3, out3.1, ?_, out3.2, (racc.mono f2.toFw).mono f3.toFw, g4⟩
            have q := rel4.wipe own
            rw [hwσ] at q
            exact q
          | true =>
            simp only [if_true] at g4
            unfold NB
            simp only [if_true]
            rw [R.assoc] at g4
            refine step_eF rel4 g4 fun z y m5 c5 H5 f5 rel5 ry g5 => ?_
            have out5 : c5 D = some .out ∧ H5 D = some (.lst av) := by
              obtain ⟨z1, z2⟩ := f5.out D out3.1
              exact ⟨z1, z2.trans out3.2⟩
            have racc5 := ((racc.mono f2.toFw).mono f3.toFw).mono f5.toFw
            split at g5
            · rename_i hz
              have q := rel5.wipe own
              rw [hwσ] at q
              obtain ⟨fw, q2⟩ := q.over out5.1 out5.2 (fun _ => by simp) (fun _ _ => by simp) (.lst (av ++ [y]))
              exact ⟨av, out5.2, by rw [← racc.length]; exact hz, c5, m5, acc ++ [z], av ++ [y], hlt, (fc3.trans f5).over hcD hD _, out5.1, q2, upd_same, (racc5.append (.cons ry .nil)).mono fw, g5⟩
            · exact g5.elim
    · have ei : i = ds.length := by omega
      subst ei
      rw [List.drop_length] at gg
      refine .inl ⟨yl.stop c H fc.toFw, ?_⟩
      have gg' : ∀ c' H', Fr c0 H0 c' H' → Rel K c' { mm with r := backS m1.r mm.r own } σ H' → NE K c0 σ Q (.nl acc) c' H' := gg
      refine gg' c H (f1.trans fc) (rel.back rel1 fc.toFw) (.ref D) ⟨D, rfl, hout, av, hDv, racc⟩ fun a ea z => ?_
      have ea' : V.ref D = V.ref a := ea
      cases ea'
      have := (f1.out D z).1
      rw [hcD] at this
      cases this
end Kd

namespace Kd
open PySem PySem.Spec PyProof.Rows L2
/-- what is wanted of a statement's result, from a state on -/
def GoodF (K : PySem.W.Frag) (c : Lb) (H : Hp) (D : Ends) : R Fl → Prop
  | .ok .nx m' => ∀ c' H' σ', Fr c H c' H' → Rel K c' m' σ' H' → D.nx σ' H'
  | .ok .bk m' => ∀ c' H' σ', Fr c H c' H' → Rel K c' m' σ' H' → D.bk σ' H'
  | .ok .ct m' => ∀ c' H' σ', Fr c H c' H' → Rel K c' m' σ' H' → D.ct σ' H'
  | .ok (.rt o) m' => ∀ c' H' x, Fr c H c' H' → RelS K c' m'.S H' → RpO K c' H' [] o x → (∀ a, OwnA o x a → c a ≠ some .out) → D.rt x H'
  | .ex _ _ _ => False
  | .no => False
def TDS (K : PySem.W.Frag) (nv : Nv) (d : DS) : TS := fun D σ H => ∃ c m, Rel K c m σ H ∧ GoodF K c H D (d nv m)
section
variable {K : PySem.W.Frag} {c c' c0 : Lb} {H H' H0 : Hp} {m m' : M} {σ σ' : L2.St} {nv : Nv} {D D' : Ends}
theorem GoodF.mono (f : Fr c H c' H') : ∀ {r : R Fl}, GoodF K c H D r → GoodF K c' H' D r
  | .ok .nx _, h => fun c2 H2 σ2 f2 rel => h c2 H2 σ2 (f.trans f2) rel
  | .ok .bk _, h => fun c2 H2 σ2 f2 rel => h c2 H2 σ2 (f.trans f2) rel
  | .ok .ct _, h => fun c2 H2 σ2 f2 rel => h c2 H2 σ2 (f.trans f2) rel
  | .ok (.rt o) _, h => fun c2 H2 x f2 rel r w => h c2 H2 x (f.trans f2) rel r fun a e z => w a e (f.out a z).1
  | .ex _ _ _, h => h
  | .no, h => h
theorem step_F {α : Type} {N' : α → Lb → Hp → Prop} {k : α → M → R Fl} {r : R α} (h : GoodF K c0 H0 D (r.bind k)) (q : ∀ a m' c' H', r = .ok a m' → Fr c H c' H' → Rel K c' m' σ H' → GoodF K c0 H0 D (k a m') → N' a c' H') : Good K c H σ N' r := by
  cases r with
  | ok a m' => exact fun c' H' f rel => q a m' c' H' rfl f rel h
  | ex _ _ _ => exact h.elim
  | no => exact h.elim
theorem stepF_eF {k : Kd.D → M → R Fl} {d : DE} {P : V → Hp → Prop} (rel : Rel K c m σ H) (h : GoodF K c0 H0 D' ((eF d nv m).bind k))
    (q : ∀ z x m' c' H', Fr c H c' H' → Rel K c' m' σ H' → Rp K c' H' z x → GoodF K c0 H0 D' (k z m') → P x H') : TD K nv d σ H P :=
  good_eF ⟨c, m, rel, step_F h fun a m' c' H' e f r g x rx => q a x m' c' H' f r rx g⟩
/-- a sequence -/
theorem good_seq {a : DS} {r : List DS} (h : TDS K nv (sSeq (a :: r)) D σ H) : tSeq (TDS K nv a) (TDS K nv (sSeq r)) D σ H := by
  obtain ⟨c, m, rel, g⟩ := h
  refine ⟨c, m, rel, ?_⟩
  unfold sSeq at g
  cases e : a nv m with
  | ok fl m1 =>
    rw [e] at g
    cases fl with
    | nx => exact fun c' H' σ' f rel' => ⟨c', m1, rel', GoodF.mono f g⟩
    | rt o => exact g
    | bk => exact g
    | ct => exact g
  | ex _ _ _ => rw [e] at g; exact g.elim
  | no => rw [e] at g; exact g.elim
theorem good_skip (h : TDS K nv sSkip D σ H) : tNext D σ H := by
  obtain ⟨c, m, rel, g⟩ := h
  exact (g : ∀ c' H' σ', Fr c H c' H' → Rel K c' m σ' H' → D.nx σ' H') c H σ (Fr.refl _ _) rel
theorem good_sAsg {i : Nat} {d : DE} (h : TDS K nv (sAsg i d) D σ H) : tAsg (TD K nv d) (gName i) D σ H := by
  obtain ⟨c, m, rel, g⟩ := h
  refine ⟨c, m, rel, step_F g fun o m1 c1 H1 e f1 rel1 g1 => ?_⟩
  intro x rx wx
  cases e2 : setSl i o m1 with
  | none => rw [e2] at g1; exact g1.elim
  | some m2 =>
    rw [e2] at g1
    obtain ⟨c2, f2, rel2⟩ := setSl_ok f1 rel1 rx wx e2
    exact (g1 : ∀ c' H' σ', Fr c H c' H' → Rel K c' m2 σ' H' → D.nx σ' H') c2 H1 _ f2 rel2
theorem good_sExp {d : DE} (h : TDS K nv (sExp d) D σ H) : tDrop (TD K nv d) D σ H := by
  obtain ⟨c, m, rel, g⟩ := h
  exact ⟨c, m, rel, step_F g fun o m1 c1 H1 e f1 rel1 g1 x rx wx => g1 c1 H1 σ f1 rel1⟩
theorem Rel.relabS (r : RelS K c S H) {a : Addr} {l : Lab} (h1 : ∀ l, c a ≠ some (.lc l)) (h3 : c a ≠ some .fz ∨ l = .fz) (h4 : H a ≠ none) (hl : ∀ j, l ≠ .lc j) : RelS K (rlb c a l) S H := by
  have f : Fw c H (rlb c a l) H := by
    rcases h3 with h3 | h3
    · exact Fw.relab h1 h3
    · subst h3; exact Fw.freeze h1
  have un : ∀ b j, rlb c a l b = some (.lc j) → c b = some (.lc j) := fun b j e => by
    by_cases z : b = a
    · subst z; rw [rlb_same] at e; exact absurd (Option.some.inj e) (hl j)
    · rw [rlb_ne z] at e; exact e
  refine ⟨fun i o e => ?_, fun a' b' i e1 e2 => r.uq a' b' i (un _ _ e1) (un _ _ e2), fun b i e => r.lt b i (un _ _ e), fun b e => ?_⟩
  · obtain ⟨b, k1, k2⟩ := r.ob i o e
    exact ⟨b, f.lc b i k1, k2.mono f rfl⟩
  · by_cases z : b = a
    · subst z; exact h4
    · rw [rlb_ne z] at e; exact r.lv b e
theorem good_sRet {d : DE} (h : TDS K nv (sRet d) D σ H) : tRet (TD K nv d) D σ H := by
  obtain ⟨c, m, rel, g⟩ := h
  refine ⟨c, m, rel, step_F g fun o m1 c1 H1 e f1 rel1 g1 => ?_⟩
  intro x rx wx
  cases o with
  | v dd => exact g1 c1 H1 x f1 rel1.toS rx fun a z => z.elim
  | nl xs => exact g1 c1 H1 x f1 rel1.toS rx wx
  | nd xs => exact g1 c1 H1 x f1 rel1.toS rx wx
  | sl i =>
    have hx : σ[i]? = some (some x) := rx
    simp only at g1
    split at g1
    · rename_i dd e2
      obtain ⟨y, h1, h2⟩ := rel1.sl i _ e2
      rw [hx] at h1; cases h1
      exact g1 c1 H1 x f1 rel1.toS h2 fun a z => z.elim
    · rename_i ds e2
      obtain ⟨a, h1, ha, hr⟩ := rel1.sl i _ e2
      rw [hx] at h1; cases h1
      have n1 : ∀ l, c1 a ≠ some (.lc l) := fun l => by rw [ha]; simp
      have n2 : c1 a ≠ some .fz := by rw [ha]; simp
      have n3 : c a ≠ some .out := fun z => by rw [(f1.out a z).1] at ha; cases ha
      have f2 : Fr c H (rlb c1 a .out) H1 := Fr.relab f1 n1 n2 n3
      refine g1 _ H1 _ f2 (Rel.relabS rel1.toS n1 (.inl n2) hr.ne (fun _ => by simp)) ⟨a, rfl, rlb_same, hr.mono (Fw.relab n1 n2) rfl⟩ fun b z => ?_
      have z' : V.ref a = V.ref b := z
      cases z'
      exact n3
    · rename_i ds e2
      obtain ⟨a, h1, ha, hr⟩ := rel1.sl i _ e2
      rw [hx] at h1; cases h1
      have n1 : ∀ l, c1 a ≠ some (.lc l) := fun l => by rw [ha]; simp
      have n2 : c1 a ≠ some .fz := by rw [ha]; simp
      have n3 : c a ≠ some .out := fun z => by rw [(f1.out a z).1] at ha; cases ha
      have f2 : Fr c H (rlb c1 a .out) H1 := Fr.relab f1 n1 n2 n3
      refine g1 _ H1 _ f2 (Rel.relabS rel1.toS n1 (.inl n2) hr.ne (fun _ => by simp)) ⟨a, rfl, rlb_same, hr.mono (Fw.relab n1 n2) rfl⟩ fun b z => ?_
      have z' : V.ref a = V.ref b := z
      cases z'
      exact n3
    · exact g1.elim
theorem good_sIf {t : DT} {a b : DS} (h : TDS K nv (sIf t a b) D σ H) : tIfS (TB K nv t) (TDS K nv a) (TDS K nv b) D σ H := by
  obtain ⟨c, m, rel, g⟩ := h
  refine ⟨c, m, rel, step_F g fun v m1 c1 H1 e f1 rel1 g1 => ?_⟩
  unfold NB
  cases v with
  | true => exact ⟨c1, m1, rel1, GoodF.mono f1 g1⟩
  | false => exact ⟨c1, m1, rel1, GoodF.mono f1 g1⟩
/-- for -/
theorem good_sFor {p : Pat} {it : DI} {b : DS} (h : TDS K nv (sFor p it b) D σ H) : tFor (TDI K nv it) (TGP K p) (TDS K nv b) D σ H := by
  obtain ⟨c0, m0, rel0, g⟩ := h
  refine ⟨c0, m0, rel0, step_F g fun ds m1 c1 H1 e1 f1 rel1 g1 => ?_⟩
  intro J yl
  refine ⟨fun i n σ H => ∃ c mm, i ≤ ds.length ∧ n = ds.length - i ∧ Fr c1 H1 c H ∧ Rel K c mm σ H ∧ GoodF K c H D (forL p b nv (ds.drop i) mm), ⟨ds.length, c1, m1, Nat.zero_le _, rfl, Fr.refl _ _, rel1, GoodF.mono f1 g1⟩, ?_⟩
  rintro i n σ H ⟨c, mm, hi, rfl, fc, rel, gg⟩
  by_cases hlt : i < ds.length
  · obtain ⟨d, hd⟩ : ∃ d, ds[i]? = some d := ⟨ds[i], List.getElem?_eq_getElem hlt⟩
    have hdrop : ds.drop i = d :: ds.drop (i + 1) := by
      rw [List.drop_eq_getElem_cons hlt]
      rw [List.getElem?_eq_getElem hlt] at hd
      rw [Option.some.inj hd]
    rw [hdrop] at gg
    refine .inr ⟨yl.go i d c H hd fc.toFw, fun σ' H' => ∃ c mm, Fr c1 H1 c H' ∧ Rel K c mm σ' H' ∧ GoodF K c H' D (forL p b nv (ds.drop (i + 1)) mm), ?_, ?_⟩
    · rintro σ' H' ⟨c', mm', k1, k2, k3⟩
      exact ⟨ds.length - (i + 1), by omega, c', mm', hlt, rfl, k1, k2, k3⟩
    · intro x H2 hy
      obtain ⟨f2, rel2, rx⟩ := yl.step hd fc.toFw hy rel
      unfold forL at gg
      cases es : p.set d mm with
      | none => rw [es] at gg; exact gg.elim
      | some m2 =>
        rw [es] at gg
        simp only at gg
        refine ⟨c, mm, d, m2, rel2, rx, es, fun σ2 rel3 _ => ⟨c, m2, rel3, ?_⟩⟩
        have gg' := GoodF.mono f2 gg
        cases e2 : b nv m2 with
        | ok fl m3 =>
          rw [e2] at gg'
          cases fl with
          | nx => exact fun c' H' σ' f rel' => ⟨c', m3, (fc.trans f2).trans f, rel', GoodF.mono f gg'⟩
          | ct => exact fun c' H' σ' f rel' => ⟨c', m3, (fc.trans f2).trans f, rel', GoodF.mono f gg'⟩
          | bk => exact gg'
          | rt o => exact gg'
        | ex _ _ _ => rw [e2] at gg'; exact gg'.elim
        | no => rw [e2] at gg'; exact gg'.elim
  · have ei : i = ds.length := by omega
    subst ei
    rw [List.drop_length] at gg
    exact .inl ⟨yl.stop c H fc.toFw, (gg : ∀ c' H' σ', Fr c H c' H' → Rel K c' mm σ' H' → D.nx σ' H') c H σ (Fr.refl _ _) rel⟩
/-- while -/
theorem good_sWhile {t : DT} {b : DS} (h : TDS K nv (sWhile t b) D σ H) : tWhile (TB K nv t) (TDS K nv b) D σ H := by
  obtain ⟨c0, m0, rel0, g⟩ := h
  refine ⟨fun n σ H => ∃ c mm, Rel K c mm σ H ∧ GoodF K c H D (whileL t b nv n mm), ⟨nv.wf, c0, m0, rel0, g⟩, ?_⟩
  rintro n σ H ⟨c, mm, rel, gg⟩
  cases n with
  | zero => exact gg.elim
  | succ n =>
    unfold whileL at gg
    refine ⟨c, mm, rel, step_F gg fun v m1 c1 H1 e f1 rel1 g1 => ?_⟩
    unfold NB
    cases v with
    | false =>
      simp only [Bool.false_eq_true, if_false] at g1 ⊢
      exact (g1 : ∀ c' H' σ', Fr c H c' H' → Rel K c' m1 σ' H' → D.nx σ' H') c1 H1 σ f1 rel1
    | true =>
      simp only [if_true] at g1 ⊢
      refine ⟨fun σ' H' => ∃ c mm, Rel K c mm σ' H' ∧ GoodF K c H' D (whileL t b nv n mm), fun σ' H' ⟨c', mm', k1, k2⟩ => ⟨n, by omega, c', mm', k1, k2⟩, c1, m1, rel1, ?_⟩
      have gg' := GoodF.mono f1 g1
      cases e2 : b nv m1 with
      | ok fl m3 =>
        rw [e2] at gg'
        cases fl with
        | nx => exact fun c' H' σ' f rel' => ⟨c', m3, rel', GoodF.mono f gg'⟩
        | ct => exact fun c' H' σ' f rel' => ⟨c', m3, rel', GoodF.mono f gg'⟩
        | bk => exact gg'
        | rt o => exact gg'
      | ex _ _ _ => rw [e2] at gg'; exact gg'.elim
      | no => rw [e2] at gg'; exact gg'.elim
/-- (a, b, ..) = e -/
theorem good_sUn {p : Pat} {d : DE} (h : TDS K nv (sUn p d) D σ H) : tAsg (TD K nv d) (TGP K p) D σ H := by
  obtain ⟨c, m, rel, g⟩ := h
  refine stepF_eF rel g fun z x m1 c1 H1 f1 rel1 rx g1 => ?_
  cases e : p.set z m1 with
  | none => rw [e] at g1; exact g1.elim
  | some m2 =>
    rw [e] at g1
    exact ⟨c1, m1, z, m2, rel1, rx, e, fun σ' rel' _ => (g1 : ∀ c' H' σ', Fr c H c' H' → Rel K c' m2 σ' H' → D.nx σ' H') c1 H1 σ' f1 rel'⟩
end
end Kd

namespace Kd
open PySem PySem.Spec PyProof.Rows L2
theorem swap_two {x y : Str} {p q pt pt2 : Pos} {k k2 : Nat} {a b : Expr} {env : Env} (hb : env.blockKind = .function) (hx : env.kindOf x = some .local) (hy : env.kindOf y = some .local) (hl : (q.line == p.line) = true) (hxy : x ≠ y)
    (h1 : [a, b].all (foldedForSure 8) = false) (h2 : [a, b].all (constantsAlone 8) = false) (h3 : notStar a = true) (h4 : notStar b = true) :
    swappedStores [.Tuple [.Name x p, .Name y q] k pt] (.Tuple [a, b] k2 pt2) env = pure (some [x, y]) := by
  have hp : (Expr.Name x p).pos = p := rfl
  have hl' : q.line = p.line := by simpa using hl
  unfold swappedStores
  simp only [hb, h1, h2, List.any_cons, List.any_nil]
  simp [hx, hy, hl', hp, hxy, Ne.symm hxy, List.eraseDups_cons]
  intro h
  exfalso
  rcases h with h | h
  · cases a <;> first | (simp [notStar] at h3; done) | (simp at h; done)
  · cases b <;> first | (simp [notStar] at h4; done) | (simp at h; done)
theorem swap_none {x y : Str} {p q pt pt2 : Pos} {k k2 : Nat} {a b : Expr} {env : Env} (hn : env.kindOf x ≠ some .local ∨ env.kindOf y ≠ some .local) :
    swappedStores [.Tuple [.Name x p, .Name y q] k pt] (.Tuple [a, b] k2 pt2) env = pure none := by
  have hp : (Expr.Name x p).pos = p := rfl
  unfold swappedStores
  simp only [List.any_cons, List.any_nil]
  rcases hn with hn | hn
  · by_cases hy : env.kindOf y = some .local ∧ q.line = p.line
    · simp [hn, hp, hy]
    · have e : (if env.kindOf y = some .local ∧ q.line = p.line then some y else none) = none := if_neg hy
      simp [hn, hp, e]
  · by_cases hx : env.kindOf x = some .local
    · simp [hn, hp, hx]
    · simp [hn, hp, hx]
section
variable {K : PySem.W.Frag} {c c1 c' c0 : Lb} {H H1 H' H0 : Hp} {m m' : M} {σ σ' : L2.St} {nv : Nv}
theorem fzS_ok {o o' : Op} {x : V} (f : Fr c H c1 H1) (rel : Rel K c1 m σ H1) (r : RpO K c1 H1 σ o x) (w : ∀ a, OwnA o x a → c a ≠ some .out) (h : fzS o m = .ok o' m') :
    ∃ c2, Fr c H c2 H1 ∧ Rel K c2 m' σ H1 ∧ RpO K c2 H1 σ o' x ∧ (∀ a, OwnA o' x a → c a ≠ some .out ∧ c2 a = some .out) ∧ ∀ i, o' ≠ .sl i := by
  cases o with
  | v d => cases h; exact ⟨c1, f, rel, r, fun a z => z.elim, fun _ => by simp⟩
  | nl ds =>
    cases h
    obtain ⟨a, e, ha, hr⟩ := r
    exact ⟨c1, f, rel, ⟨a, e, ha, hr⟩, fun b z => ⟨w b z, by have z' : x = .ref b := z; rw [e] at z'; cases z'; exact ha⟩, fun _ => by simp⟩
  | nd ds =>
    cases h
    obtain ⟨a, e, ha, hr⟩ := r
    exact ⟨c1, f, rel, ⟨a, e, ha, hr⟩, fun b z => ⟨w b z, by have z' : x = .ref b := z; rw [e] at z'; cases z'; exact ha⟩, fun _ => by simp⟩
  | sl i =>
    unfold fzS at h
    simp only at h
    cases e : fz (.sl i) m with
    | ok d m1 =>
      rw [e] at h
      cases h
      obtain ⟨c2, f2, rel2, r2⟩ := fz_ok f rel r w e
      exact ⟨c2, f2, rel2, r2, fun a z => z.elim, fun _ => by simp⟩
    | ex _ _ _ => rw [e] at h; cases h
    | no => rw [e] at h; cases h
/-- what is fresh, or frozen, is stored -/
theorem setSl_ok2 {o : Op} {x : V} {i : Nat} (f : Fr c H c1 H1) (rel : Rel K c1 m σ H1) (r : RpO K c1 H1 σ o x) (w : ∀ a, OwnA o x a → c a ≠ some .out) (ns : ∀ i, o ≠ .sl i) (h : setSl i o m = some m') :
    ∃ c2, Fr c H c2 H1 ∧ Rel K c2 m' (σ.set i (some x)) H1 ∧ Fw c1 H1 c2 H1 ∧ ∀ b, ¬ OwnA o x b → c2 b = c1 b := by
  cases o with
  | v d => cases h; exact ⟨c1, f, rel.put ⟨x, rfl, r⟩, Fw.refl _ _, fun _ _ => rfl⟩
  | nl ds =>
    cases h
    obtain ⟨a, rfl, ha, hr⟩ := r
    have n1 : ∀ l, c1 a ≠ some (.lc l) := fun l => by rw [ha]; simp
    have n2 : c1 a ≠ some .fz := by rw [ha]; simp
    have f2 : Fw c1 H1 (rlb c1 a (.sl i)) H1 := Fw.relab n1 n2
    exact ⟨rlb c1 a (.sl i), Fr.relab f n1 n2 (w a rfl), (rel.relab n1 (fun i => by rw [ha]; simp) (.inl n2) hr.ne (fun _ => by simp)).put ⟨a, rfl, rlb_same, hr.mono f2 rfl⟩, f2, fun b hb => rlb_ne fun z => hb (by subst z; rfl)⟩
  | nd ds =>
    cases h
    obtain ⟨a, rfl, ha, hr⟩ := r
    have n1 : ∀ l, c1 a ≠ some (.lc l) := fun l => by rw [ha]; simp
    have n2 : c1 a ≠ some .fz := by rw [ha]; simp
    have f2 : Fw c1 H1 (rlb c1 a (.sl i)) H1 := Fw.relab n1 n2
    exact ⟨rlb c1 a (.sl i), Fr.relab f n1 n2 (w a rfl), (rel.relab n1 (fun i => by rw [ha]; simp) (.inl n2) hr.ne (fun _ => by simp)).put ⟨a, rfl, rlb_same, hr.mono f2 rfl⟩, f2, fun b hb => rlb_ne fun z => hb (by subst z; rfl)⟩
  | sl j => exact absurd rfl (ns j)
theorem good_sPar2 {i j : Nat} {a b : DE} {Dn : Ends} (h : TDS K nv (sPar2 i j a b) Dn σ H) :
    TD K nv a σ H fun v H1 => TD K nv b σ H1 fun w H2 => Dn.nx ((σ.set i (some v)).set j (some w)) H2 ∧ ∀ p t, H2 p = none → Dn.nx ((σ.set i (some v)).set j (some w)) (upd H2 p (.tup t)) := by
  obtain ⟨c, m, rel, g⟩ := h
  refine ⟨c, m, rel, step_F g fun o m1 c1 H1 e1 f1 rel1 g1 => ?_⟩
  intro x rx wx
  cases e2 : fzS o m1 with
  | ok o' m2 =>
    rw [e2] at g1
    simp only [Kd.R.bind_ok] at g1
    obtain ⟨c2, f2, rel2, rx2, wx2, ns2⟩ := fzS_ok f1 rel1 rx wx e2
    refine ⟨c2, m2, rel2, step_F g1 fun p m3 c3 H3 e3 f3 rel3 g3 => ?_⟩
    intro y ry wy
    cases e4 : fzS p m3 with
    | ok p' m4 =>
      rw [e4] at g3
      simp only [Kd.R.bind_ok] at g3
      obtain ⟨c4, f4, rel4, ry4, wy4, ns4⟩ := fzS_ok f3 rel3 ry wy e4
      have f24 := f2.trans f4
      have rx4 := rx2.mono f4
      cases e5 : setSl i o' m4 with
      | none => rw [e5] at g3; exact g3.elim
      | some m5 =>
        rw [e5] at g3
        simp only [Option.bind_some] at g3
        cases e6 : setSl j p' m5 with
        | none => rw [e6] at g3; exact g3.elim
        | some m6 =>
          rw [e6] at g3
          obtain ⟨c5, f5, rel5, fw5, k5⟩ := setSl_ok2 f24 rel4 rx4 (fun a z => (wx2 a z).1) ns2 e5
          have apart : ∀ a, OwnA p' y a → ¬ OwnA o' x a := fun a z z2 => (wy4 a z).1 (wx2 a z2).2
          have ry5 : RpO K c5 H3 (σ.set i (some x)) p' y := by
            cases p' with
            | v d => exact Rp.mono fw5 ry4
            | nl ds => obtain ⟨q, e, hq, hr⟩ := ry4; exact ⟨q, e, by rw [k5 q (apart q e)]; exact hq, hr.mono fw5 rfl⟩
            | nd ds => obtain ⟨q, e, hq, hr⟩ := ry4; exact ⟨q, e, by rw [k5 q (apart q e)]; exact hq, hr.mono fw5 rfl⟩
            | sl k => exact absurd rfl (ns4 k)
          have wc : ∀ a, OwnA p' y a → c a ≠ some .out := fun a z e => (wy4 a z).1 (f2.out a e).1
          obtain ⟨c6, f6, rel6, _, _⟩ := setSl_ok2 f5 rel5 ry5 wc ns4 e6
          have g' : ∀ c' H' σ', Fr c H c' H' → Rel K c' m6 σ' H' → Dn.nx σ' H' := g3
          exact ⟨g' c6 H3 _ f6 rel6, fun q t hq => g' c6 _ _ (f6.trans (Fr.newT (rel6.free hq) hq)) (rel6.newT hq)⟩
    | ex _ _ _ => rw [e4] at g3; exact g3.elim
    | no => rw [e4] at g3; exact g3.elim
  | ex _ _ _ => rw [e2] at g1; exact g1.elim
  | no => rw [e2] at g1; exact g1.elim
end
/-! ### o[k] = e -/
/-- the heap behind a dict's store, the empty dict as one of the key's kind -/
def DPutA (H : Hp) (a : Addr) (y v : V) (H' : Hp) : Prop := DPut H a y v H' ∨ (H a = some (.dK []) ∧ DPut (upd H a (.dT [])) a y v H') ∨ (H a = some (.dT []) ∧ DPut (upd H a (.dK [])) a y v H')
def rSetA : TSet := fun o i v H P => rSetL o i v H P ∨ ∃ a H', o = .ref a ∧ DPutA H a i v H' ∧ P H'
section
variable {X : Cx} {nv : Nv}
theorem set_any (hu : X.A.units + 1 < cLine) : PSet X rSetA := by
  intro pins s σ H o i v ov iv u Q I ro ri rv h
  rcases h with h | ⟨a, H', rfl, h, q⟩
  · exact set_list pins s σ H o i v ov iv u Q I ro ri rv h
  · cases ro
    rcases h with h | ⟨e, h⟩ | ⟨e, h⟩
    · exact d_setItem hu I h ri rv fun s' I' => ⟨H', I', q⟩
    · exact d_setItem hu (flipT I e) h ri rv fun s' I' => ⟨H', I', q⟩
    · exact d_setItem hu (flipK I e) h ri rv fun s' I' => ⟨H', I', q⟩
/-- the dict's key of its kind: what the store does -/
theorem dr_put {K : PySem.W.Frag} {c : Lb} {H : Hp} {kvs : Kvs} {a : Addr} {k : Kd.D} {j : KK} {y v : V} {d : Kd.D} (r : DR K c H kvs a) (p : Rp K c H k y) (pv : Rp K c H d v) (hk : k.kk = some j) (ok : okKey kvs j = true) (hz : kvs.length < sizeLine) :
    ∃ o', DPutA H a y v (upd H a o') ∧ ((∃ kv, o' = .dK kv ∧ RKs K c H (putD kvs j d) kv) ∨ ∃ kv, o' = .dT kv ∧ RTs K c H (putD kvs j d) kv) := by
  obtain ⟨q1, q2⟩ := rp_key k p hk
  have kind : j.flat1 = true ∨ j.flatT = true := by
    unfold okKey at ok
    rcases (Bool.or_eq_true _ _).mp ok with w | w
    · rw [Bool.and_eq_true] at w; exact .inl w.1
    · rw [Bool.and_eq_true] at w; exact .inr w.1
  rcases r with ⟨kv, e, r⟩ | ⟨kv, e, r⟩
  · rcases kind with h1 | h1
    · rw [← kk1_flat] at h1
      obtain ⟨i, hi⟩ := Option.isSome_iff_exists.mp h1
      have ey := q1 i hi
      subst ey
      exact ⟨_, .inl (DPut.k e (by rw [← r.length]; exact hz)), .inl ⟨_, rfl, rk_put hi pv r⟩⟩
    · have hT := h1
      rw [← kkT_flat] at hT
      obtain ⟨i, hi⟩ := Option.isSome_iff_exists.mp hT
      obtain ⟨b, ey, eb⟩ := q2 i hi
      subst ey
      cases r with
      | nil =>
        have ne : b ≠ a := fun z => by subst z; rw [e] at eb; cases eb
        have z := DPut.t (H := upd H a (.dT [])) (a := a) (b := b) (kvs := []) (k := i) (v := v) upd_same (by rw [upd_ne ne]; exact eb) hz
        rw [upd_upd] at z
        exact ⟨_, .inr (.inl ⟨e, z⟩), .inr ⟨_, rfl, rt_put hi pv .nil⟩⟩
      | cons h p' r' =>
        have z1 := rk_flat (RKs.cons h p' r')
        unfold okKey at ok
        rcases (Bool.or_eq_true _ _).mp ok with w | w
        · rw [Bool.and_eq_true] at w
          exact (flat_not w.1 h1).elim
        · rw [Bool.and_eq_true] at w
          have z2 := w.2
          rw [List.all_cons, Bool.and_eq_true] at z1 z2
          exact (flat_not z1.1 z2.1).elim
  · rcases kind with h1 | h1
    · have hK := h1
      rw [← kk1_flat] at hK
      obtain ⟨i, hi⟩ := Option.isSome_iff_exists.mp hK
      have ey := q1 i hi
      subst ey
      cases r with
      | nil =>
        have z := DPut.k (H := upd H a (.dK [])) (a := a) (kvs := []) (k := i) (v := v) upd_same hz
        rw [upd_upd] at z
        exact ⟨_, .inr (.inr ⟨e, z⟩), .inl ⟨_, rfl, rk_put hi pv .nil⟩⟩
      | cons h p' r' =>
        have z1 := rt_flat (RTs.cons h p' r')
        unfold okKey at ok
        rcases (Bool.or_eq_true _ _).mp ok with w | w
        · rw [Bool.and_eq_true] at w
          have z2 := w.2
          rw [List.all_cons, Bool.and_eq_true] at z1 z2
          exact (flat_not z2.1 z1.1).elim
        · rw [Bool.and_eq_true] at w
          exact (flat_not h1 w.1).elim
    · rw [← kkT_flat] at h1
      obtain ⟨i, hi⟩ := Option.isSome_iff_exists.mp h1
      obtain ⟨b, ey, eb⟩ := q2 i hi
      subst ey
      exact ⟨_, .inl (DPut.t e eb (by rw [← r.length]; exact hz)), .inr ⟨_, rfl, rt_put hi pv r⟩⟩
theorem good_sSet {K : PySem.W.Frag} {σ : L2.St} {H : Hp} {o k e : DE} {Dn : Ends} (h : TDS K nv (sSet o k e) Dn σ H) : tAsg (TD K nv e) (gSub (TD K nv o) (TD K nv k) rSetA) Dn σ H := by
  obtain ⟨c, m, rel, g⟩ := h
  refine stepF_eF rel g fun dv v m1 c1 H1 f1 rel1 rv g1 => ?_
  refine ⟨c1, m1, rel1, step_F g1 fun op m2 c2 H2 e2 f2 rel2 g2 => ?_⟩
  intro x rx wx
  refine stepF_eF rel2 g2 fun dk y m3 c3 H3 f3 rel3 ry g3 => ?_
  have rx3 := rx.mono f3
  have rv3 := (rv.mono f2.toFw).mono f3.toFw
  have f := (f1.trans f2).trans f3
  split at g3
  · rename_i xs0 hv
    cases e4 : mutL op m3 (setL dk dv) with
    | ok z m4 =>
      rw [e4] at g3
      obtain ⟨a, ds, xs, ds', rfl, q1, q2, q3, q4⟩ := mutL_ok rel3 rx3 e4
      unfold setL at q3
      split at q3
      · rename_i i
        split at q3
        · rename_i j hj
          cases q3
          cases ry
          obtain ⟨rel4, f4⟩ := q4 (xs.set j v) (q2.set rv3 j)
          exact .inl ⟨a, xs, i, j, rfl, rfl, q1, by rw [← q2.length]; exact hj, (g3 : ∀ c' H' σ', Fr c H c' H' → Rel K c' m4 σ' H' → Dn.nx σ' H') c3 _ σ (f.trans f4) rel4⟩
        · cases q3
      · cases q3
    | ex _ _ _ => rw [e4] at g3; exact g3.elim
    | no => rw [e4] at g3; exact g3.elim
  · rename_i kvs0 hv
    cases e4 : mutD op m3 (setK dk dv) with
    | ok z m4 =>
      rw [e4] at g3
      obtain ⟨a, ds, ds', rfl, q1, q3, q4⟩ := mutD_ok rel3 rx3 e4
      unfold setK at q3
      split at q3
      · rename_i j hj
        split at q3
        · rename_i hz
          cases q3
          obtain ⟨o', k1, k2⟩ := dr_put q1 ry rv3 hj hz.2 hz.1
          obtain ⟨rel4, f4⟩ := q4 o' k2
          exact .inr ⟨a, _, rfl, k1, (g3 : ∀ c' H' σ', Fr c H c' H' → Rel K c' m4 σ' H' → Dn.nx σ' H') c3 _ σ (f.trans f4) rel4⟩
        · cases q3
      · cases q3
    | ex _ _ _ => rw [e4] at g3; exact g3.elim
    | no => rw [e4] at g3; exact g3.elim
  · exact g3.elim
end
end Kd

namespace Kd
open PySem PySem.Spec PyProof.Rows L2 HT
section
variable {prog : Program} {w : World} {A : Around} {E : Value → Shared → Prop} {s : Shared}
theorem rev_adjust (n : Nat) : Builtin.Slice.sliceAdjust none none (-1) (n : Int) = ((n : Int) - 1, -1) := by
  unfold Builtin.Slice.sliceAdjust
  simp
theorem rev_places (n : Nat) : Builtin.Slice.slicePlaces ((n : Int) - 1) (-1) (-1) = n := by
  unfold Builtin.Slice.slicePlaces
  rw [if_neg (by decide)]
  by_cases h : (n : Int) - 1 > -1
  · rw [if_pos h]
    have : ((n : Int) - 1 - -1 - 1) / (- -1) + 1 = n := by
      rw [Int.neg_neg, Int.ediv_one]; omega
    rw [this]; simp
  · rw [if_neg h]
    have : n = 0 := by omega
    subst this; rfl
theorem fm_congr {α β : Type} {f g : α → Option β} : ∀ {l : List α}, (∀ x ∈ l, f x = g x) → l.filterMap f = l.filterMap g
  | [], _ => rfl
  | x :: l, h => by
    rw [List.filterMap_cons, List.filterMap_cons, h x (List.mem_cons_self ..), fm_congr fun y hy => h y (List.mem_cons_of_mem _ hy)]
theorem rev_pick (xs : Array Value) : ((List.range xs.size).filterMap fun (k : Nat) => xs[((xs.size : Int) - 1 + (k : Int) * (-1)).toNat]?).toArray = xs.toList.reverse.toArray := by
  have e : (List.range xs.size).filterMap (fun (k : Nat) => xs[((xs.size : Int) - 1 + (k : Int) * (-1)).toNat]?) = ((List.range xs.size).map fun k => xs.size - 1 - k).filterMap (xs[·]?) := by
    rw [List.filterMap_map]
    refine fm_congr fun k hk => ?_
    have hk' : k < xs.size := List.mem_range.mp hk
    have : ((xs.size : Int) - 1 + (k : Int) * (-1)).toNat = xs.size - 1 - k := by omega
    show xs[((xs.size : Int) - 1 + (k : Int) * (-1)).toNat]? = xs[xs.size - 1 - k]?
    rw [this]
  rw [e, PySem.W.krv_range, List.filterMap_reverse, PySem.W.krv_all]
theorem rev_applied {sl : Addr} {n : Nat} {u : Tok} {Q : Int × Int × Nat → Shared → Prop} (hs : s.heap.IsSliceOf sl .none .none (.int (-1) u)) (h : Q ((n : Int) - 1, -1, n) s) :
    wpAny (model prog w) A (Builtin.Slice.sliceApplied (.ref sl) (pure (n : Int))) Q E s := by
  obtain ⟨os, hos, hcs, hds⟩ := id hs
  unfold Builtin.Slice.sliceApplied Builtin.Slice.sliceFields
  refine wpAny_bind (wpAny_bind (wpAny_field hos hds (x := .none) rfl (wpAny_bind (wpAny_field hos hds (x := .none) rfl (wpAny_bind (wpAny_field hos hds (x := .int (-1) u) rfl (wpAny_pure ?_)))))))
  refine wpAny_bind (slicePart_int ?_)
  show wpAny _ _ (if (((-1) : Int) == 0) = true then _ else _) _ _ s
  rw [if_neg (by decide)]
  refine wpAny_bind (slicePart_none (wpAny_bind (slicePart_none (wpAny_bind (wpAny_pure ?_)))))
  show wpAny _ _ (match Builtin.Slice.sliceAdjust none none (-1) (n : Int) with | (lo, hi) => pure (lo, (-1 : Int), Builtin.Slice.slicePlaces lo hi (-1))) _ _ s
  rw [rev_adjust n]
  show wpAny _ _ (pure (((n : Int) - 1), (-1 : Int), Builtin.Slice.slicePlaces ((n : Int) - 1) (-1) (-1))) _ _ s
  rw [rev_places]
  exact wpAny_pure h
theorem getItem_tuple_rev {t sl : Addr} {items : Array Value} {u : Tok} {Q : Value → Shared → Prop} (ht : IsTup s.heap t items) (hs : s.heap.IsSliceOf sl .none .none (.int (-1) u))
    (h : Q (.ref s.heap.objs.size) { s with heap := s.heap.push { cls := .type "tuple", data := .seq items.toList.reverse.toArray } }) (hsz : items.size ≤ sizeLine) : wpAny (model prog w) A (getItem (.ref t) (.ref sl)) Q E s := by
  have hz : sizeOk (.seq items.toList.reverse.toArray) := by
    show items.toList.reverse.toArray.size ≤ sizeLine
    rw [List.size_toArray, List.length_reverse, Array.length_toList]
    exact hsz
  obtain ⟨os, hos, hcs, hds⟩ := id hs
  have hT2 : s.TypeIs (.ref sl) "slice" := ⟨os, hos, hcs⟩
  unfold getItem
  try with_reducible refine wpAny_holding ?_
  first | refine wpAny_bind (wpAny_pure ?_) | skip
  refine wpAny_bind (wpAny_sequenceKey ht.typeIs (by decide) ?_)
  refine wpAny_bind (wpAny_callSpecial?_slot (name := Str.ofString "__getitem__") ht.typeIs PyProof.Rows.slot_tuple_getitem (wpAny_call_entry PyProof.Rows.slot_tuple_getitem ht.typeIs entry_tuple_getitem ?_ (args_tuple_getitem _ _)))
  show wpAny _ _ (Builtin.Tuple.tupleItemsOf (.ref t) >>= _) _ _ s
  refine wpAny_bind (tupleItemsOf_ ht (wpAny_bind (wpAny_typeOf hT2 ?_)))
  rw [if_pos (by decide)]
  refine wpAny_bind (rev_applied hs ?_)
  have hno : ¬ (((items.size : Int) - 1 == 0 && (-1 : Int) == 1 && items.size == items.size) = true) := by simp
  show wpAny _ _ (if ((items.size : Int) - 1 == 0 && (-1 : Int) == 1 && items.size == items.size) = true then _ else _) _ _ s
  rw [if_neg hno, rev_pick]
  first
    | exact wpAny_bind (m := Builtin.Tuple.tupleExact _) (wpAny_newObj_type (wpAny_pure ⟨_, rfl, wpAny_pure h⟩) hz)
    | exact wpAny_bind (m := Builtin.Tuple.tupleExact _) (wpAny_newObj_type (wpAny_bind (wpAny_pure (wpAny_pure ⟨_, rfl, wpAny_pure h⟩))) hz)
    | exact wpAny_bind (wpAny_bind (m := Builtin.Tuple.tupleExact _) (wpAny_newObj_type (wpAny_pure (wpAny_pure ⟨_, rfl, wpAny_pure h⟩)) hz))
    | exact wpAny_bind (wpAny_bind (m := Builtin.Tuple.tupleExact _) (wpAny_newObj_type (wpAny_pure ⟨_, rfl, wpAny_pure h⟩) hz))
end
section
variable {X : Cx} {nv : Nv} {e : Expr} {d : DE} {k : Nat} {p1 p2 p3 pos : Pos}
def rRevA (K : PySem.W.Frag) : V → Hp → VK → Prop := fun x H Q => ∃ a, x = .ref a ∧ ((∃ xs, SqL K H a xs ∧ ∀ p, H p = none → Q (.ref p) (upd H p (.lst xs.reverse))) ∨ ∃ xs, SqT K H a xs ∧ ∀ p, H p = none → Q (.ref p) (upd H p (.tup xs.reverse)))
theorem pe_revA {te : TE} (he : PE X e te) : PE X (.Subscript e (.Slice none none (some (.UnaryOp .USub (.Constant (.int 1) k p1) p2)) p3) pos) fun σ H Q => te σ H fun x H1 => rRevA X.K x H1 Q := by
  refine ⟨fun pins s σ H Q I h => Subscript_ (thn (he.run pins s σ H _ I h) fun v s1 ⟨x, H1, I1, r1, a, ex, q⟩ => ?_)⟩
  subst ex
  cases r1
  have hst : PE X (.UnaryOp .USub (.Constant (.int 1) k p1) p2) (tUn (rU fun i => .int (-i)) (tC (.int 1))) := pe_un un_neg pe_int
  refine wpAny_Slice (thn (po_none.run pins s1 σ H1 (fun o H2 => o = none ∧ H2 = H1) I1 ⟨rfl, rfl⟩) fun vl s2 ⟨l, H2, I2, pl, el, e2⟩ => ?_)
  subst el e2
  refine thn (po_none.run pins s2 σ H2 (fun o H3 => o = none ∧ H3 = H2) I2 ⟨rfl, rfl⟩) fun vu s3 ⟨u, H3, I3, pu, eu, e3⟩ => ?_
  subst eu e3
  refine thn ((po_some hst).run pins s3 σ H3 (fun o H4 => o = some (-1) ∧ H4 = H3) I3 ⟨1, rfl, -1, rfl, rfl, rfl⟩) fun vs s4 ⟨o, H4, I4, ps, eo, e4⟩ => ?_
  subst eo e4
  have I5 : Inv X pins σ H4 { s4 with heap := s4.heap.push { cls := .type "slice", data := .fields #[vl, vu, vs] } } := I4.kept (t' := s4.toks) fun b ob q => Heap.get?_push_of_some _ q
  have goT : ∀ {T : String} {oid : String}, typeLookup (.type T) "__getitem__" = pure (some (.builtin oid)) → s4.heap.objs.size = s4.heap.objs.size → True := fun _ _ => trivial
  rcases q with ⟨xs, hx, q⟩ | ⟨xs, hx, q⟩
  · obtain ⟨its, r, ht, hz⟩ := I5.list hx
    have hlen := r.length
    show wpAny (model X.prog X.w) X.A (subscriptTail e (.Slice none none (some (.UnaryOp .USub (.Constant (.int 1) k p1) p2)) p3) (.ref a) (.ref s4.heap.objs.size)) (EP X pins σ Q) X.xe { s4 with heap := s4.heap.push { cls := .type "slice", data := .fields #[vl, vu, vs] } }
    refine tail_any (ops := [.ref a, .ref s4.heap.objs.size]) ht.isList.typeIs (PySem.slot_list_getitem.lookup) ?_ (by with_unfolding_all rfl)
    refine wpAny_getItem_list_slice ht.isList (Heap.IsSliceOf.new _ vl vu vs) pl pu ps (by decide) ?_ (by rw [List.size_toArray]; omega)
    rw [PySem.W.krv_pick]
    exact ⟨.ref _, _, I5.laid (t' := s4.toks) (o := .lst xs.reverse) (fun b ob q => Heap.get?_push_of_some _ q) (Nat.le_refl _) ⟨by rw [List.length_reverse]; exact hz, _, 0, r.reverse, Heap.get?_push_size _ rfl⟩, rfl, q _ (I5.hok.fresh (Nat.le_refl _))⟩
  · obtain ⟨its, r, ht, hz⟩ := I5.tuple hx
    have hlen := r.length
    cases pl
    cases pu
    cases ps
    show wpAny (model X.prog X.w) X.A (subscriptTail e (.Slice none none (some (.UnaryOp .USub (.Constant (.int 1) k p1) p2)) p3) (.ref a) (.ref s4.heap.objs.size)) (EP X pins σ Q) X.xe { s4 with heap := s4.heap.push { cls := .type "slice", data := .fields #[.none, .none, .int (-1) _] } }
    refine tail_any (ops := [.ref a, .ref s4.heap.objs.size]) ht.typeIs (PyProof.Rows.slot_tuple_getitem.lookup) ?_ (by with_unfolding_all rfl)
    refine getItem_tuple_rev ht (Heap.IsSliceOf.new _ _ _ _) ?_ (by rw [List.size_toArray]; omega)
    exact ⟨.ref _, _, I5.laid (t' := s4.toks) (o := .tup xs.reverse) (fun b ob q => Heap.get?_push_of_some _ q) (Nat.le_refl _) ⟨by rw [List.length_reverse]; exact hz, _, r.reverse, IsTup.new _ _⟩, rfl, q _ (I5.hok.fresh (Nat.le_refl _))⟩
theorem pd_rev (he : PD X nv e d) : PD X nv (.Subscript e (.Slice none none (some (.UnaryOp .USub (.Constant (.int 1) k p1) p2)) p3) pos) (e1 oRev d) := by
  refine PE.conv (pe_revA he) fun σ H Q h => good_e1 (r := rRevA X.K) ?_ h
  intro c m σ H x vx z Q rel rx e k
  unfold oRev at e
  split at e
  · cases e
    obtain ⟨a, xs, rfl, h1, r1⟩ := rx
    exact ⟨a, rfl, .inl ⟨xs, h1, fun p hp => kont_l k rel hp r1.rev⟩⟩
  · cases e
    cases rx with
    | tup h1 r1 => exact ⟨_, rfl, .inr ⟨_, SqT.of h1, fun p hp => kont_t k rel hp r1.rev⟩⟩
  · cases e
end
end Kd

namespace Kd
open PySem PySem.Spec PyProof.Rows L2
def bltNames : List Str := ["len", "tuple", "list", "int", "abs", "sum", "min", "max", "sorted", "repr", "all", "isinstance", "dict", "zip", "range", "enumerate", "bool", "str"]
/-- the context of the code and the meaning's -/
structure CxK (X : Cx) (g : Gm) (nv : Nv) (k : Nat) : Prop where
  N : X.N = g.N
  nd : X.N.Nodup
  sc : X.env.scope = g.sc
  kd : X.env.scope.kind = .function
  calm : X.calm = true
  gd : X.A.guards = some []
  room : Room k X.A
  tg : ∀ x, isLoc (g.own.names.lookup x) = true → Loc X.env.scope x ∧ (X.fn x = true ∨ X.env.scope.names.lookup x = some .local)
  fn : ∀ x i ps kws, g.G.lookup x = some (.fn i ps kws) → FnW X k nv.ct x i ps kws
  con : ∀ x d, g.G.lookup x = some (.con d) → ∃ v u, X.mg x = some u ∧ RelV v u ∧ ∀ c H, Rp X.K c H d v
  bl : ∀ x, x ∈ bltNames → g.G.lookup x = none → X.mg x = none
structure SmOk (s : Sm) : Prop where
  E : ∀ {X : Cx} {g : Gm} {nv : Nv} {k : Nat} {e : Expr} {d : DE}, CxK X g nv k → s.E g e = some d → PD X nv e d
  T : ∀ {X : Cx} {g : Gm} {nv : Nv} {k : Nat} {e : Expr} {t : DT}, CxK X g nv k → s.T g e = some t → PB X nv e t
section
variable {X : Cx} {g : Gm} {nv : Nv} {k : Nat} {s : Sm} {e : Expr} {d : DE} {pos p : Pos}
theorem CxK.un (C : CxK X g nv k) : X.A.units + 200 < cLine := by have := C.room.un; omega
theorem idx_get {x : Str} : ∀ {N : List Str} {i : Nat}, idx x N = some i → N[i]? = some x
  | [], _, h => by cases h
  | y :: r, i, h => by
    unfold idx at h
    split at h
    · rename_i e
      cases h
      rw [e]; rfl
    · rw [Option.map_eq_some_iff] at h
      obtain ⟨j, h1, h2⟩ := h
      subst h2
      simpa using idx_get h1
theorem CxK.ix (C : CxK X g nv k) {x : Str} {i : Nat} (h : idx x g.N = some i) : X.N[i]? = some x := by rw [C.N]; exact idx_get h
theorem CxK.look (C : CxK X g nv k) (x : Str) : X.env.scope.names.lookup x = g.look x := by rw [C.sc]; rfl
theorem okName_of {x : Str} (h : okName x = true) : (x == ("__debug__" : Str)) = false ∧ (x == ("__classdict__" : Str)) = false ∧ x ≠ "__name__" := by
  unfold okName at h
  simp only [Bool.and_eq_true, Bool.not_eq_true'] at h
  exact ⟨h.1.1, h.1.2, fun e => by rw [e] at h; simp at h⟩
theorem CxK.vis (C : CxK X g nv k) {x : Str} (h : isVis (g.look x) = true) : Vis X.env.scope x := by
  unfold Vis
  rw [C.look]
  unfold isVis at h
  split at h
  · rename_i e; exact .inl e
  · rename_i e; exact .inr (.inl e)
  · rename_i e; exact .inr (.inr e)
  · cases h
theorem CxK.gl (C : CxK X g nv k) {x : Str} (h : isGl (g.look x) = true) : Gl X x := by
  unfold Gl
  show X.env.scope.names.lookup x = _
  rw [C.look]
  unfold isGl at h
  split at h
  · rename_i e; exact e
  · cases h
theorem CxK.blt (C : CxK X g nv k) {x : Str} {u : Value} (h : g.blt x = true) (hm : x ∈ bltNames) (hb : bootBuiltins x = some u) : Blt X x u := by
  unfold Gm.blt at h
  rw [Bool.and_eq_true, Bool.and_eq_true] at h
  obtain ⟨h1, h2, h3⟩ := okName_of h.1.2
  exact ⟨C.gl h.1.1, C.bl x hm (by simpa using h.2), hb, h3, h1⟩

/-! ### argument lists -/
theorem mapO_args (S : SmOk s) (C : CxK X g nv k) : ∀ {es : List Expr} {ds : List DE}, es.all notStar = true → mapO (s.E g) es = some ds → PA X es (TL X.K nv (eList ds)) ∧ es.length = ds.length
  | [], _, _, h => by cases h; exact ⟨pl_nil, rfl⟩
  | e :: es, ds, hs, h => by
    rw [List.all_cons, Bool.and_eq_true] at hs
    unfold mapO at h
    split at h
    · rename_i y ys h1 h2
      cases h
      obtain ⟨h3, h4⟩ := mapO_args S C hs.2 h2
      exact ⟨pl_cons hs.1 (S.E C h1) h3, by rw [List.length_cons, List.length_cons, h4]⟩
    · cases h
theorem args_ok (S : SmOk s) (C : CxK X g nv k) {es : List Expr} {ds : List DE} (h : argsO (s.E g) es = some ds) : es.all notStar = true ∧ PA X es (TL X.K nv (eList ds)) ∧ es.length = ds.length := by
  unfold argsO at h
  split at h
  · rename_i hs
    exact ⟨hs, mapO_args S C hs h⟩
  · cases h
theorem kws_ok (S : SmOk s) (C : CxK X g nv k) : ∀ {kws : List Keyword} {ks : List (Str × DE)}, kwsO (s.E g) kws = some ks → PK X kws (TL X.K nv (eList (ks.map (·.2))))
  | [], _, h => by cases h; exact pkl_nil
  | ⟨none, _, _⟩ :: _, _, h => by cases h
  | ⟨some x, e, q⟩ :: r, ks, h => by
    unfold kwsO at h
    split at h
    · rename_i d ds h1 h2
      cases h
      exact pkl_cons (S.E C h1) (kws_ok S C h2)
    · cases h
theorem kwsO_len {f : Expr → Option DE} : ∀ {kws : List Keyword} {ks : List (Str × DE)}, kwsO f kws = some ks → ks.length = 0 → kws = []
  | [], _, _, _ => rfl
  | ⟨none, _, _⟩ :: _, _, h, _ => by cases h
  | ⟨some x, e, q⟩ :: r, ks, h, z => by
    unfold kwsO at h
    split at h
    · cases h; simp at z
    · cases h
theorem pd_share (h : PD X nv e d) (p : Pos) : PD X nv e (shP g p d) := by
  unfold shP
  split
  · exact PE.conv h fun σ H Q q => good_share q
  · exact h
theorem pd_false {e : Expr} {d : DE} (h : ∀ nv m, d nv m = .no) : PD X nv e d := ⟨fun pins s σ H Q I ⟨c, m, rel, g⟩ => by rw [h] at g; exact g.elim⟩
theorem pb_false {e : Expr} {d : DT} (h : ∀ nv m, d nv m = .no) : PB X nv e d := ⟨fun pins s σ H Q I ⟨c, m, rel, g⟩ => by rw [h] at g; exact g.elim⟩
/-! ### and, or -/
theorem and_ok (S : SmOk s) (C : CxK X g nv k) : ∀ {es : List Expr} {ds : List DE}, mapO (s.E g) es = some ds → es ≠ [] → PD X nv (.BoolOp .And es pos) (eAnd ds)
  | [], _, _, n => absurd rfl n
  | [e], ds, h, _ => by
    unfold mapO at h
    split at h
    · rename_i y ys h1 h2
      cases h2
      cases h
      exact pd_one (S.E C h1)
    · cases h
  | e :: e2 :: es, ds, h, _ => by
    unfold mapO at h
    split at h
    · rename_i y ys h1 h2
      cases h
      have r := and_ok S C h2 (by simp)
      cases ys with
      | nil =>
        unfold mapO at h2
        split at h2 <;> cases h2
      | cons y2 ys => exact pd_and_more (S.E C h1) r
    · cases h
theorem or_ok (S : SmOk s) (C : CxK X g nv k) : ∀ {es : List Expr} {ds : List DE}, mapO (s.E g) es = some ds → es ≠ [] → PD X nv (.BoolOp .Or es pos) (eOr ds)
  | [], _, _, n => absurd rfl n
  | [e], ds, h, _ => by
    unfold mapO at h
    split at h
    · rename_i y ys h1 h2
      cases h2
      cases h
      exact pd_one (S.E C h1)
    · cases h
  | e :: e2 :: es, ds, h, _ => by
    unfold mapO at h
    split at h
    · rename_i y ys h1 h2
      cases h
      have r := or_ok S C h2 (by simp)
      cases ys with
      | nil =>
        unfold mapO at h2
        split at h2 <;> cases h2
      | cons y2 ys => exact pd_or_more (S.E C h1) r
    · cases h
theorem andT_ok (S : SmOk s) (C : CxK X g nv k) : ∀ {es : List Expr} {ts : List DT}, mapO (s.T g) es = some ts → es ≠ [] → PW X (.BoolOp .And es pos) (TB X.K nv (tAnd ts))
  | [], _, _, n => absurd rfl n
  | [e], ds, h, _ => by
    unfold mapO at h
    split at h
    · rename_i y ys h1 h2
      cases h2
      cases h
      exact pw_and_last (S.T C h1)
    · cases h
  | e :: e2 :: es, ds, h, _ => by
    unfold mapO at h
    split at h
    · rename_i y ys h1 h2
      cases h
      exact pw_and_more (S.T C h1) (andT_ok S C h2 (by simp))
    · cases h
theorem orT_ok (S : SmOk s) (C : CxK X g nv k) : ∀ {es : List Expr} {ts : List DT}, mapO (s.T g) es = some ts → es ≠ [] → PW X (.BoolOp .Or es pos) (TB X.K nv (tOr ts))
  | [], _, _, n => absurd rfl n
  | [e], ds, h, _ => by
    unfold mapO at h
    split at h
    · rename_i y ys h1 h2
      cases h2
      cases h
      exact pw_or_last (S.T C h1)
    · cases h
  | e :: e2 :: es, ds, h, _ => by
    unfold mapO at h
    split at h
    · rename_i y ys h1 h2
      cases h
      exact pw_or_more (S.T C h1) (orT_ok S C h2 (by simp))
    · cases h
/-! ### comparisons -/
theorem cmpV_ok (S : SmOk s) (C : CxK X g nv k) {l : Expr} {ops : List CmpOp} {cs : List Expr} {t : DT} (hs : cs.all (fun c => !isSet c) = true) (h : cmpT (s.E g) l ops cs = some t) : PD X nv (.Compare l ops cs pos) (eB t) ∧ PB X nv (.Compare l ops cs pos) t := by
  have hu := C.un
  unfold cmpT at h
  split at h
  · rename_i o c
    split at h
    · rename_i f a b h1 h2 h3
      cases h
      have q : isSet c = false := by simpa using hs
      exact ⟨pd_cmp1 (cmp_all (by omega) h1) (S.E C h2) (S.E C h3) q, pb_cmp1 (cmp_all (by omega) h1) (S.E C h2) (S.E C h3) q⟩
    · cases h
  · rename_i o o2 c c2
    split at h
    · rename_i f f2 a b b2 h1 h1' h2 h3 h4
      cases h
      have q : isSet c2 = false := by simp at hs; exact hs.2
      exact ⟨pd_cmp2 (cmp_all (by omega) h1) (cmp_all (by omega) h1') (S.E C h2) (S.E C h3) (S.E C h4) q, pb_cmp2 (cmp_all (by omega) h1) (cmp_all (by omega) h1') (S.E C h2) (S.E C h3) (S.E C h4) q⟩
    · cases h
  · cases h
/-! ### targets, what is walked -/
theorem assign_plain {e : Expr} (h : notStar e = true) (es : List Expr) (env : Env) : assignEach (e :: es) env = (false, assign e env) :: assignEach es env := by
  cases e <;> first | rfl | (simp [notStar] at h)
mutual
theorem pat_ok (C : CxK X g nv k) : ∀ {e : Expr} {p : Pat}, patO g e = some p → PG X e (TGP X.K p)
  | .Name x q, p, h => by
    simp only [patO] at h
    split at h
    · rename_i hh
      rw [Bool.and_eq_true] at hh
      rw [Option.map_eq_some_iff] at h
      obtain ⟨i, h1, h2⟩ := h
      subst h2
      obtain ⟨t1, t2⟩ := C.tg x hh.1
      exact gp_name C.nd (C.ix h1) t1 t2
    · cases h
  | .Tuple es _ _, p, h => by
    simp only [patO] at h
    rw [Option.map_eq_some_iff] at h
    obtain ⟨ps, h1, h2⟩ := h
    subst h2
    obtain ⟨k1, k2, k3⟩ := pats_ok C h1
    exact gp_tup C.calm k1 k2 k3
  | .BoolOp .., p, h => by simp [patO] at h
  | .NamedExpr .., p, h => by simp [patO] at h
  | .BinOp .., p, h => by simp [patO] at h
  | .UnaryOp .., p, h => by simp [patO] at h
  | .Lambda .., p, h => by simp [patO] at h
  | .IfExp .., p, h => by simp [patO] at h
  | .Dict .., p, h => by simp [patO] at h
  | .Set .., p, h => by simp [patO] at h
  | .ListComp .., p, h => by simp [patO] at h
  | .SetComp .., p, h => by simp [patO] at h
  | .DictComp .., p, h => by simp [patO] at h
  | .GeneratorExp .., p, h => by simp [patO] at h
  | .Await .., p, h => by simp [patO] at h
  | .Yield .., p, h => by simp [patO] at h
  | .YieldFrom .., p, h => by simp [patO] at h
  | .Compare .., p, h => by simp [patO] at h
  | .Call .., p, h => by simp [patO] at h
  | .FormattedValue .., p, h => by simp [patO] at h
  | .JoinedStr .., p, h => by simp [patO] at h
  | .Constant .., p, h => by simp [patO] at h
  | .Attribute .., p, h => by simp [patO] at h
  | .Subscript .., p, h => by simp [patO] at h
  | .Starred .., p, h => by simp [patO] at h
  | .List .., p, h => by simp [patO] at h
  | .Slice .., p, h => by simp [patO] at h
theorem pats_ok (C : CxK X g nv k) : ∀ {es : List Expr} {ps : List Pat}, patsO g es = some ps → PGs X es (TGPs X.K ps) ∧ (assignEach es X.env).length = ps.length ∧ (assignEach es X.env).findIdx? (·.1) = none
  | [], ps, h => by
    simp only [patsO] at h
    cases h
    exact ⟨gp_nil, rfl, rfl⟩
  | e :: es, ps, h => by
    simp only [patsO] at h
    split at h
    · rename_i p ps h1 h2
      cases h
      obtain ⟨k1, k2, k3⟩ := pats_ok C h2
      have hs : notStar e = true := by
        cases e <;> first | rfl | (simp [patO] at h1)
      have ea := assign_plain hs es X.env
      refine ⟨gp_cons (pat_ok C h1) k1 (by rw [ea]; rfl), by rw [ea, List.length_cons, List.length_cons, k2], ?_⟩
      rw [ea, List.findIdx?_cons, k3]
      rfl
    · cases h
end
end
end Kd

namespace Kd
open PySem PySem.Spec PyProof.Rows L2
section
variable {X : Cx} {g : Gm} {nv : Nv} {k : Nat} {s : Sm} {e : Expr} {d : DE} {pos p : Pos}
theorem nil_of {α : Type} {l : List α} (h : l.length = 0) : l = [] := List.eq_nil_of_length_eq_zero h
theorem tup_of {tg : Expr} (h : isTupT tg = true) : ∃ es j q, tg = .Tuple es j q := by
  cases tg <;> first | exact ⟨_, _, _, rfl⟩ | (simp [isTupT] at h)
theorem noset_folded {e : Expr} (h : isSet e = false) (env : Env) (x : Value) : foldedSetIterable e env x = pure x := by
  cases e <;> first | rfl | (simp [isSet] at h)
theorem iter_ok (S : SmOk s) (C : CxK X g nv k) {tg it : Expr} {i : DI} (h : iterO (s.E g) g tg it = some i) : PI X tg it (TDI X.K nv i) ∧ ∀ x, foldedSetIterable it X.env x = pure x := by
  unfold iterO at h
  split at h
  · rename_i x p as kws q
    refine ⟨?_, fun _ => rfl⟩
    split at h
    · rename_i hh
      obtain ⟨rfl, hb, hk⟩ := hh
      cases nil_of hk
      have B : Blt X "range" (.type "range") := C.blt hb (by simp [bltNames]) rfl
      split at h
      · rename_i a
        split at h
        · rename_i hs
          rw [Option.map_eq_some_iff] at h
          obtain ⟨d, h1, h2⟩ := h
          subst h2
          exact pd_rng1 B (S.E C h1) hs
        · cases h
      · rename_i a b
        split at h
        · rename_i hs
          rw [Bool.and_eq_true] at hs
          split at h
          · rename_i d e h1 h2
            cases h
            exact pd_rng2 B (S.E C h1) (S.E C h2) hs.1 hs.2
          · cases h
        · cases h
      · cases h
    · split at h
      · rename_i hh
        obtain ⟨rfl, hb, hk⟩ := hh
        cases nil_of hk
        have B : Blt X "enumerate" (.type "enumerate") := C.blt hb (by simp [bltNames]) rfl
        split at h
        · rename_i a
          split at h
          · rename_i hs
            rw [Bool.and_eq_true] at hs
            obtain ⟨es, j, q, rfl⟩ := tup_of hs.2
            rw [Option.map_eq_some_iff] at h
            obtain ⟨d, h1, h2⟩ := h
            subst h2
            exact pd_enum B (S.E C h1) hs.1
          · cases h
        · cases h
      · split at h
        · rename_i hh
          obtain ⟨rfl, hb, hk⟩ := hh
          cases nil_of hk
          have B : Blt X "zip" (.type "zip") := C.blt hb (by simp [bltNames]) rfl
          split at h
          · rename_i a b
            split at h
            · rename_i hs
              rw [Bool.and_eq_true, Bool.and_eq_true] at hs
              obtain ⟨es, j, q, rfl⟩ := tup_of hs.2
              split at h
              · rename_i d e h1 h2
                cases h
                exact pd_zip B (S.E C h1) (S.E C h2) hs.1.1 hs.1.2
              · cases h
            · cases h
          · cases h
        · rw [Option.map_eq_some_iff] at h
          obtain ⟨d, h1, h2⟩ := h
          subst h2
          exact pd_seq (S.E C h1)
  · split at h
    · cases h
    · rename_i hs
      rw [Option.map_eq_some_iff] at h
      obtain ⟨d, h1, h2⟩ := h
      subst h2
      exact ⟨pd_seq (S.E C h1), noset_folded (by simpa using hs) X.env⟩
theorem ifs_ok (S : SmOk s) (C : CxK X g nv k) {ifs : List Expr} {c : DT} (h : ifsO (s.T g) ifs = some c) : PTs X ifs (TB X.K nv c) := by
  unfold ifsO at h
  split at h
  · cases h
    exact ⟨fun pins s σ H Q I ⟨c, m, rel, gg⟩ => pts_nil.run pins s σ H Q I (gg c H (Fr.refl _ _) rel)⟩
  · exact pts_one (S.T C h)
  · cases h
/-- a comprehension's block -/
theorem CxK.blk (C : CxK X g nv k) {scope : Scope} {own : List (Str × Nat)} (ok : BlkOk X.N X.env.scope scope own) (s : Shared) (H : Hp) (a : Addr) (cl : List (Str × Addr)) (fp : List Addr) :
    CxK (X.blk s H scope (compEnvC scope cl a X.env) fp) (g.blk scope) nv k where
  N := C.N
  nd := C.nd
  sc := by
    show relS scope X.env.scope = relS scope g.sc
    rw [C.sc]
  kd := ok.kind
  calm := C.calm
  gd := C.gd
  room := C.room
  tg := fun x h => by
    have h' : isLoc (scope.names.lookup x) = true := h
    have keep : ∀ kk, kk ≠ .free → scope.names.lookup x = some kk → (relS scope X.env.scope).names.lookup x = some kk := fun kk n e => lookup_relS_keep n e
    unfold isLoc at h'
    split at h'
    · rename_i e
      have q := keep _ (by simp) e
      exact ⟨.inl q, .inr q⟩
    · rename_i e
      have q := keep _ (by simp) e
      refine ⟨.inr q, .inl ?_⟩
      show (scope.names.lookup x == some .cell) = true
      rw [e]; rfl
    · cases h'
  fn := fun x i ps kws h => ⟨(C.fn x i ps kws h).ex⟩
  con := C.con
  bl := C.bl
structure CompR (X : Cx) (nv : Nv) (tg it elt : Expr) (ifs : List Expr) (scope : Scope) (d : DE) : Prop where
  ex : ∃ (own : List (Str × Nat)) (i : DI) (p : Pat) (c : DT) (e : DE), d = eComp i p c e (own.map (·.2)) ∧ BlkOk X.N X.env.scope scope own ∧ PI X tg it (TDI X.K nv i) ∧
    (∀ x, foldedSetIterable it X.env x = pure x) ∧ (∀ j ∈ patIs p, j ∈ own.map (·.2)) ∧
    ∀ (s : Shared) (H : Hp) (C : Addr) (cl : List (Str × Addr)) (fp : List Addr), PG (X.blk s H scope (compEnvC scope cl C X.env) fp) tg (TGP X.K p) ∧
      PTs (X.blk s H scope (compEnvC scope cl C X.env) fp) ifs (TB X.K nv c) ∧ PE (X.blk s H scope (compEnvC scope cl C X.env) fp) elt (TD X.K nv e)
theorem comp_ok (S : SmOk s) (C : CxK X g nv k) {gens : List Comprehension} {scope : Scope} {elt : Expr} (h : compO s g gens scope elt = some d) : ∃ tg it ifs, gens = [⟨tg, it, ifs, 0⟩] ∧ CompR X nv tg it elt ifs scope d := by
  unfold compO at h
  split at h
  · cases h
  · rename_i own ho
    split at h
    · rename_i hb
      split at h
      · rename_i tg it ifs
        split at h
        · rename_i i p c e h1 h2 h3 h4
          split at h
          · rename_i hp
            cases h
            have ok : BlkOk X.N X.env.scope scope own := by rw [C.N, C.sc]; exact blkOk_by hb
            obtain ⟨k1, k2⟩ := iter_ok S C h1
            refine ⟨tg, it, ifs, rfl, ⟨own, i, p, c, e, rfl, ok, k1, k2, fun j hj => ?_, fun s H a cl fp => ?_⟩⟩
            · rw [List.all_eq_true] at hp
              simpa using hp j hj
            · have C' := C.blk ok s H a cl fp
              exact ⟨pat_ok C' h2, ifs_ok S C' h3, S.E C' h4⟩
          · cases h
        · cases h
      · cases h
    · cases h
theorem comp_pd (C : CxK X g nv k) {tg it elt : Expr} {ifs : List Expr} {scope : Scope} (h : CompR X nv tg it elt ifs scope d) : PD X nv (.ListComp elt [⟨tg, it, ifs, 0⟩] scope pos) d := by
  obtain ⟨own, i, p, c, e, rfl, ok, k1, k2, k3, k4⟩ := h.ex
  exact PE.conv (pe_lc C.calm C.nd k1 ok (fun s H a cl fp => (k4 s H a cl fp).1) (fun s H a cl fp => (k4 s H a cl fp).2.1) (fun s H a cl fp => (k4 s H a cl fp).2.2) k2) fun σ H Q q => good_comp k3 q
/-! ### built-ins -/
theorem blt1_ok (C : CxK X g nv k) {x : Str} {f : Vw → Option Op} (hb : g.blt x = true) (h : blt1 x = some f) : ∃ u, Blt X x u ∧ ((∃ id, u = .builtin id) ∨ ∃ T, u = .type T) ∧ Cal1 X u f := by
  have hu := C.un
  unfold blt1 at h
  split at h
  · rename_i e; subst e; cases h
    exact ⟨_, C.blt hb (by simp [bltNames]) rfl, .inl ⟨_, rfl⟩, cal_len⟩
  split at h
  · rename_i e; subst e; cases h
    exact ⟨_, C.blt hb (by simp [bltNames]) rfl, .inr ⟨_, rfl⟩, cal_tuple⟩
  split at h
  · rename_i e; subst e; cases h
    exact ⟨_, C.blt hb (by simp [bltNames]) rfl, .inr ⟨_, rfl⟩, cal_list⟩
  split at h
  · rename_i e; subst e; cases h
    exact ⟨_, C.blt hb (by simp [bltNames]) rfl, .inr ⟨_, rfl⟩, cal_int⟩
  split at h
  · rename_i e; subst e; cases h
    exact ⟨_, C.blt hb (by simp [bltNames]) rfl, .inl ⟨_, rfl⟩, cal_abs⟩
  split at h
  · rename_i e; subst e; cases h
    exact ⟨_, C.blt hb (by simp [bltNames]) rfl, .inl ⟨_, rfl⟩, cal_sum C.calm⟩
  split at h
  · rename_i e; subst e; cases h
    exact ⟨_, C.blt hb (by simp [bltNames]) rfl, .inl ⟨_, rfl⟩, cal_min C.calm⟩
  split at h
  · rename_i e; subst e; cases h
    exact ⟨_, C.blt hb (by simp [bltNames]) rfl, .inl ⟨_, rfl⟩, cal_max C.calm⟩
  split at h
  · rename_i e; subst e; cases h
    exact ⟨_, C.blt hb (by simp [bltNames]) rfl, .inl ⟨_, rfl⟩, cal_sorted (by omega)⟩
  split at h
  · rename_i e; subst e; cases h
    exact ⟨_, C.blt hb (by simp [bltNames]) rfl, .inl ⟨_, rfl⟩, cal_repr (by omega) C.gd⟩
  split at h
  · rename_i e; subst e; cases h
    exact ⟨_, C.blt hb (by simp [bltNames]) rfl, .inl ⟨_, rfl⟩, cal_all C.calm⟩
  cases h
theorem blt2_ok (C : CxK X g nv k) {x : Str} {f : Vw → Vw → Option Op} (hb : g.blt x = true) (h : blt2 x = some f) : ∃ u, Blt X x u ∧ ((∃ id, u = .builtin id) ∨ ∃ T, u = .type T) ∧ Cal2 X u f := by
  unfold blt2 at h
  split at h
  · rename_i e; subst e; cases h
    exact ⟨_, C.blt hb (by simp [bltNames]) rfl, .inl ⟨_, rfl⟩, cal_min2 C.calm⟩
  split at h
  · rename_i e; subst e; cases h
    exact ⟨_, C.blt hb (by simp [bltNames]) rfl, .inl ⟨_, rfl⟩, cal_max2 C.calm⟩
  cases h
theorem ty_mem {t : Str} {ty : Ty} (h : tyOfStr t = some ty) : t ∈ bltNames := by
  unfold tyOfStr at h
  split at h
  · rename_i e; subst e; simp [bltNames]
  split at h
  · rename_i e; subst e; simp [bltNames]
  split at h
  · rename_i e; subst e; simp [bltNames]
  split at h
  · rename_i e; subst e; simp [bltNames]
  split at h
  · rename_i e; subst e; simp [bltNames]
  split at h
  · rename_i e; subst e; simp [bltNames]
  cases h
theorem bltE_ok (S : SmOk s) (C : CxK X g nv k) {x : Str} {as : List Expr} (hb : g.blt x = true) (h : bltE s g x as = some d) : PD X nv (.Call (.Name x p) as [] pos) d := by
  have hu := C.un
  have one : ∀ {a : Expr} {f : Vw → Option Op} {d : DE}, notStar a = true → blt1 x = some f → s.E g a = some d → PD X nv (.Call (.Name x p) [a] [] pos) (e1 f d) := fun {a f d} hs h1 h2 => by
    obtain ⟨u, k1, k2, k3⟩ := blt1_ok C hb h1
    exact pd_blt1 k1 k2 k3 (S.E C h2) hs
  have two : ∀ {a b : Expr} {f : Vw → Vw → Option Op} {d d' : DE}, notStar a = true → notStar b = true → blt2 x = some f → s.E g a = some d → s.E g b = some d' → PD X nv (.Call (.Name x p) [a, b] [] pos) (e2 f d d') := fun {a b f d d'} hs hs2 h1 h2 h3 => by
    obtain ⟨u, k1, k2, k3⟩ := blt2_ok C hb h1
    exact pd_blt2 k1 k2 k3 (S.E C h2) (S.E C h3) hs hs2
  unfold bltE at h
  split at h
  · rename_i y q bs qq
    split at h
    · rename_i hh
      obtain ⟨rfl, rfl, hb2⟩ := hh
      split at h
      · rename_i a
        split at h
        · rename_i hs
          rw [Option.map_eq_some_iff] at h
          obtain ⟨d, h1, h2⟩ := h
          subst h2
          exact pd_lst1 C.calm (C.blt hb (by simp [bltNames]) rfl) (C.blt hb2 (by simp [bltNames]) rfl) (S.E C h1) hs
        · cases h
      · cases h
    · split at h
      · rename_i hh
        obtain ⟨rfl, rfl, hb2⟩ := hh
        split at h
        · rename_i a b h1
          cases h
          obtain ⟨hs, _, hl⟩ := args_ok S C h1
          unfold argsO at h1
          rw [if_pos hs] at h1
          cases bs with
          | nil => cases hl
          | cons u bs =>
            cases bs with
            | nil => cases hl
            | cons w bs =>
              cases bs with
              | cons _ _ => simp at hl
              | nil =>
                rw [List.all_cons, Bool.and_eq_true, List.all_cons, Bool.and_eq_true] at hs
                unfold mapO at h1
                split at h1
                · rename_i y ys g1 g2
                  cases h1
                  unfold mapO at g2
                  split at g2
                  · rename_i y ys g3 g4
                    cases g2
                    exact pd_dctZ C.calm (by omega) (C.blt hb (by simp [bltNames]) rfl) (C.blt hb2 (by simp [bltNames]) rfl) (S.E C g1) (S.E C g3) hs.1 hs.2.1
                  · cases g2
                · cases h1
        · cases h
      · split at h
        · rename_i f d h1 h2
          cases h
          exact one rfl h1 h2
        · cases h
  · rename_i a _
    split at h
    · rename_i hs
      split at h
      · rename_i f d h1 h2
        cases h
        exact one hs h1 h2
      · cases h
    · cases h
  · rename_i a t q
    split at h
    · rename_i hx
      subst hx
      split at h
      · rename_i hs
        split at h
        · rename_i ty d h1 h2
          cases h
          obtain ⟨b1, b2, b3⟩ := tyOfStr_ok h1
          exact pd_isi (C.blt hb (by simp [bltNames]) rfl) (C.blt hs.2 (ty_mem h1) b1) (S.E C h2) hs.1
        · cases h
      · cases h
    · split at h
      · rename_i hs
        split at h
        · rename_i f d e h1 h2 h3
          cases h
          exact two hs rfl h1 h2 h3
        · cases h
      · cases h
  · rename_i a b _
    split at h
    · rename_i hs
      rw [Bool.and_eq_true] at hs
      split at h
      · rename_i f d e h1 h2 h3
        cases h
        exact two hs.1 hs.2 h1 h2 h3
      · cases h
    · cases h
  · cases h
end
end Kd

namespace Kd
open PySem PySem.Spec PyProof.Rows L2
section
variable {X : Cx} {g : Gm} {nv : Nv} {k : Nat} {s : Sm} {e : Expr} {d : DE} {pos p : Pos}
theorem callO_ok (S : SmOk s) (C : CxK X g nv k) {f : Expr} {as : List Expr} {kws : List Keyword} (h : callO s g f as kws pos = some d) : PD X nv (.Call f as kws pos) d := by
  have hu := C.un
  unfold callO at h
  split at h
  · rename_i x q
    split at h
    · rename_i hx
      rw [Bool.and_eq_true] at hx
      obtain ⟨n1, n2, n3⟩ := okName_of hx.2
      split at h
      · rename_i i ps kp hG
        split at h
        · rename_i ds ks h1 h2
          obtain ⟨hs, ha, hl⟩ := args_ok S C h1
          have W := C.fn x i ps kp hG
          split at h
          · rename_i hk
            cases kwsO_len h2 hk
            split at h
            · rename_i hl2
              cases h
              exact pd_call W C.room C.gd (C.gl hx.1) n1 hs ha hl2 hl
            · cases h
          · split at h
            · rename_i hk hc
              split at h
              · rename_i pl hp
                cases h
                exact pd_callK W C.room C.gd (C.gl hx.1) n1 hs ha (kws_ok S C h2) h2 rfl (by simpa using hc) hl (by rw [List.length_map]) hp
              · cases h
            · cases h
        · cases h
      · cases h
      · rename_i hn
        split at h
        · rename_i hk
          cases nil_of hk
          refine bltE_ok S C ?_ h
          unfold Gm.blt
          rw [hx.1, hx.2, hn]
          rfl
        · cases h
    · cases h
  · rename_i o m ap
    split at h
    · rename_i hh
      obtain ⟨hk, hline, hb⟩ := hh
      cases nil_of hk
      split at h
      · rename_i a ds h1 h2
        obtain ⟨hs, ha, hl⟩ := args_ok S C h2
        have ho := S.E C h1
        split at h
        · rename_i f hm
          cases h
          unfold mutOf at hm
          split at hm
          · rename_i z
            obtain ⟨rfl, z⟩ := z
            cases hm
            exact pd_bm PySem.F.plainAttrs_list PySem.F.slot_list_append PySem.F.type_list_append mt_append ho hs (by omega) ha hl hline hb fun σ H Q q => good_mut snd_append q
          · split at hm
            · rename_i z
              obtain ⟨rfl, z⟩ := z
              cases hm
              exact pd_bm PySem.F.plainAttrs_list PySem.F.slot_list_pop PySem.F.type_list_pop (MtR.or mt_pop mt_popAt) ho hs (by omega) ha hl hline hb fun σ H Q q => good_mut snd_pop q
            · cases hm
        · split at h
          · rename_i f hm
            cases h
            unfold methOf at hm
            split at hm
            · rename_i z
              obtain ⟨rfl, z⟩ := z
              cases hm
              exact pd_bm PySem.F.plainAttrs_dict PySem.F.slot_dict_get PySem.F.type_dict_get (mt_get2 (by omega)) ho hs (by omega) ha hl hline hb fun σ H Q q => good_meth snd_get2 q
            · cases hm
          · cases h
      · cases h
    · cases h
  · cases h
theorem opt_ok (S : SmOk s) (C : CxK X g nv k) {e : Option Expr} {d : Option DE} (h : optO (s.E g) e = some d) : PO X e (TO' X.K nv d) := by
  unfold optO at h
  split at h
  · cases h; exact po_none'
  · rw [Option.map_eq_some_iff] at h
    obtain ⟨d, h1, h2⟩ := h
    subst h2
    exact po_some' (S.E C h1)
theorem subO_ok (S : SmOk s) (C : CxK X g nv k) {a i : Expr} (h : subO s g a i = some d) : PD X nv (.Subscript a i pos) d := by
  have hu := C.un
  unfold subO at h
  split at h
  · rw [Option.map_eq_some_iff] at h
    obtain ⟨d, h1, h2⟩ := h
    subst h2
    exact pd_rev (S.E C h1)
  · split at h
    · rename_i d l hh h1 h2 h3
      cases h
      exact pd_slice cut_all (S.E C h1) (opt_ok S C h2) (opt_ok S C h3)
    · cases h
  · split at h
    · cases h
    · rename_i hs
      split at h
      · rename_i d e h1 h2
        cases h
        exact pd_ix (by omega) (S.E C h1) (S.E C h2) (by simpa using hs)
      · cases h
/-! ### dict displays -/
theorem dis_ok (S : SmOk s) (C : CxK X g nv k) : ∀ {ks : List (Option Expr)} {vs : List Expr} {a b : List DE}, mapO (fun k => k.bind (s.E g)) ks = some a → mapO (s.E g) vs = some b → a.length = b.length →
    PPs X pos ks vs (trsOf X.K nv (a.zip b)) ∧ ks.all (·.isSome) = true ∧ ks.length = a.length ∧ vs.length = b.length
  | [], vs, a, b, h1, h2, hl => by
    cases h1
    cases b with
    | cons _ _ => cases hl
    | nil =>
      cases vs with
      | nil => exact ⟨pps_nil, rfl, rfl, rfl⟩
      | cons v vs =>
        unfold mapO at h2
        split at h2 <;> cases h2
  | k0 :: ks, vs, a, b, h1, h2, hl => by
    unfold mapO at h1
    split at h1
    · rename_i y ys g1 g2
      cases h1
      cases b with
      | nil => cases hl
      | cons z zs =>
        cases vs with
        | nil => cases h2
        | cons v vs =>
          unfold mapO at h2
          split at h2
          · rename_i y2 ys2 g3 g4
            cases h2
            cases k0 with
            | none => cases g1
            | some ke =>
              obtain ⟨q1, q2, q3, q4⟩ := dis_ok S C g2 g4 (by simpa using hl)
              exact ⟨pps_cons (S.E C g1) (S.E C g3) q1, by simpa using q2, by rw [List.length_cons, List.length_cons, q3], by rw [List.length_cons, List.length_cons, q4]⟩
          · cases h2
    · cases h1
theorem dct_ok (S : SmOk s) (C : CxK X g nv k) {ks : List (Option Expr)} {vs : List Expr} {a b : List DE} (h1 : mapO (fun k => k.bind (s.E g)) ks = some a) (h2 : mapO (s.E g) vs = some b) (hl : a.length = b.length) (h15 : a.length ≤ 15) :
    PD X nv (.Dict ks vs pos) (eDct (a.zip b)) := by
  obtain ⟨q1, q2, q3, q4⟩ := dis_ok (pos := pos) S C h1 h2 hl
  cases ks with
  | nil =>
    cases h1
    cases b with
    | cons _ _ => cases hl
    | nil =>
      cases vs with
      | cons _ _ => cases q4
      | nil =>
        refine PE.conv pe_dnewK fun σ H Q q p hp => ?_
        obtain ⟨z, kvs, e, _, q⟩ := good_disp q p hp
        have : kvs = [] := by
          cases kvs with
          | nil => rfl
          | cons _ _ => cases e
        subst this
        rw [upd_upd] at q
        exact q
  | cons k0 ks =>
    exact PE.conv (pe_disp q1 q2 (by rw [q3, q4, hl]) (by simp) (by rw [q3]; exact h15)) fun σ H Q q => good_disp q
/-! ### one step -/
theorem stepE_ok (S : SmOk s) (C : CxK X g nv k) (h : stepE s g e = some d) : PD X nv e d := by
  have hu := C.un
  unfold stepE at h
  split at h
  · split at h
    · cases h; exact pd_non
    · cases h; exact pd_bl
    · cases h; exact pd_int
    · cases h; exact pd_str
    · cases h
  · rename_i x q
    split at h
    · rename_i i hi
      cases h
      unfold Gm.slot at hi
      split at hi
      · rename_i hv
        rw [Bool.and_eq_true] at hv
        obtain ⟨n1, n2, n3⟩ := okName_of hv.2
        exact pd_var (C.ix hi) (C.vis hv.1) n1 n2
      · cases hi
    · split at h
      · rename_i hx
        rw [Bool.and_eq_true] at hx
        obtain ⟨n1, n2, n3⟩ := okName_of hx.2
        split at h
        · rename_i dd hG
          cases h
          obtain ⟨v, u, h1, h2, h3⟩ := C.con x dd hG
          exact pd_glob (C.gl hx.1) h1 h2 h3 n1
        · cases h
      · cases h
  · rename_i vs q
    rw [Option.map_eq_some_iff] at h
    obtain ⟨ds, h1, h2⟩ := h
    subst h2
    cases vs with
    | nil =>
      cases h1
      exact pd_false fun _ _ => rfl
    | cons v vs => exact and_ok S C h1 (by simp)
  · rename_i vs q
    rw [Option.map_eq_some_iff] at h
    obtain ⟨ds, h1, h2⟩ := h
    subst h2
    cases vs with
    | nil =>
      cases h1
      exact pd_false fun _ _ => rfl
    | cons v vs => exact or_ok S C h1 (by simp)
  · split at h
    · rename_i f d e h1 h2 h3
      cases h
      exact pd_bin (bin_all h1) (S.E C h2) (S.E C h3)
    · cases h
  · rw [Option.map_eq_some_iff] at h
    obtain ⟨d, h1, h2⟩ := h
    subst h2
    exact pd_not (S.E C h1)
  · rw [Option.map_eq_some_iff] at h
    obtain ⟨d, h1, h2⟩ := h
    subst h2
    exact pd_un un_neg_ok (S.E C h1)
  · rw [Option.map_eq_some_iff] at h
    obtain ⟨d, h1, h2⟩ := h
    subst h2
    exact pd_un un_inv_ok (S.E C h1)
  · split at h
    · rename_i hs
      rw [Option.map_eq_some_iff] at h
      obtain ⟨t, h1, h2⟩ := h
      subst h2
      exact (cmpV_ok S C hs h1).1
    · cases h
  · split at h
    · rename_i c d e h1 h2 h3
      cases h
      exact pd_if (S.T C h1) (S.E C h2) (S.E C h3)
    · cases h
  · rw [Option.map_eq_some_iff] at h
    obtain ⟨ds, h1, h2⟩ := h
    subst h2
    exact pd_tup (args_ok S C h1).2.1
  · rw [Option.map_eq_some_iff] at h
    obtain ⟨ds, h1, h2⟩ := h
    subst h2
    exact pd_share (pd_lst (args_ok S C h1).2.1) _
  · split at h
    · rename_i a b h1 h2
      split at h
      · rename_i hl
        cases h
        exact pd_share (dct_ok S C h1 h2 hl.1 hl.2) _
      · cases h
    · cases h
  · rw [Option.map_eq_some_iff] at h
    obtain ⟨d, h1, h2⟩ := h
    subst h2
    exact pd_share (callO_ok S C h1) _
  · exact subO_ok S C h
  · rw [Option.map_eq_some_iff] at h
    obtain ⟨d, h1, h2⟩ := h
    subst h2
    obtain ⟨tg, it, ifs, rfl, R⟩ := comp_ok S C h1
    exact pd_share (comp_pd C R) _
  · cases h
theorem stepT_ok (S : SmOk s) (C : CxK X g nv k) {t : DT} (h : stepT s g e = some t) : PB X nv e t := by
  have hu := C.un
  unfold stepT at h
  split at h
  · rw [Option.map_eq_some_iff] at h
    obtain ⟨d, h1, h2⟩ := h
    subst h2
    exact pb_not (S.T C h1)
  · rw [Option.map_eq_some_iff] at h
    obtain ⟨ds, h1, h2⟩ := h
    subst h2
    exact (andT_ok S C h1 (by simp)).pt
  · rw [Option.map_eq_some_iff] at h
    obtain ⟨ds, h1, h2⟩ := h
    subst h2
    exact (orT_ok S C h1 (by simp)).pt
  · split at h
    · rename_i c d e h1 h2 h3
      cases h
      exact pb_if (S.T C h1) (S.T C h2) (S.T C h3)
    · cases h
  · split at h
    · rename_i hs
      exact (cmpV_ok (pos := ‹Pos›) S C hs h).2
    · cases h
  · split at h
    · rename_i hp
      rw [Option.map_eq_some_iff] at h
      obtain ⟨d, h1, h2⟩ := h
      subst h2
      exact pb_val (S.E C h1) hp
    · cases h
theorem sems_ok : ∀ n, SmOk (sems n)
  | 0 => ⟨fun _ h => (by cases h), fun _ h => (by cases h)⟩
  | n + 1 => ⟨fun C h => stepE_ok (sems_ok n) C h, fun C h => stepT_ok (sems_ok n) C h⟩
end
end Kd

namespace Kd
open PySem PySem.Spec PyProof.Rows L2
section
variable {X : Cx} {g : Gm} {nv : Nv} {k : Nat} {s : Sm} {e : Expr} {d : DE} {pos p : Pos}
theorem sw_false {elt : Expr} {gs : List Comprehension} {scope : Scope} {q py : Pos} {y : Str} {l : Nat} {env : Env}
    (ha : (decide (env.scope.names.lookup y = some .local) && (py.line == q.line) && !(scope.names.any fun (n, k) => n == y && (k == .local || k == .cell))) = false) : swapsWith (.ListComp elt gs scope q) (some (.Name y py)) l env = pure false := by
  unfold swapsWith
  show pure _ = _
  congr 1
  show (env.blockKind == .function && env.scope.names.lookup y == some .local && py.line == q.line && !(scope.names.any fun (n, k) => n == y && (k == .local || k == .cell))) = false
  rw [Bool.and_assoc, Bool.and_assoc, ← Bool.and_assoc (env.scope.names.lookup y == some .local)]
  have e : (env.scope.names.lookup y == some .local) = decide (env.scope.names.lookup y = some .local) := by
    cases env.scope.names.lookup y with
    | none => rfl
    | some kk => cases kk <;> rfl
  rw [e, ha, Bool.and_false]
theorem sw_plain {e : Expr} (h : isComp e = false) (t : Option Expr) (l : Nat) (env : Env) : swapsWith e t l env = pure false := by
  cases e <;> first | rfl | (simp [isComp] at h)
theorem sws_plain {e : Expr} (h : isComp e = false) (t : Expr) (l : Nat) (env : Env) : swapsWithSole [t] e l env = pure false := by
  unfold swapsWithSole
  exact sw_plain h _ _ _
theorem asgName_ok {n : Nat} (C : CxK X g nv k) {x : Str} {e : Expr} {q : Pos} {i : Nat} (hn : g.stN x = true) (hsw : (swapC g x q e).isSome = true) (hi : idx x g.N = some i) (he : (sems n).E g e = some d) :
    PS X (.Assign [.Name x q] e pos) (TDS X.K nv (sAsg i d)) := by
  unfold Gm.stN at hn
  rw [Bool.and_eq_true] at hn
  obtain ⟨t1, t2⟩ := C.tg x hn.1
  have plain : swapsWith e (some (.Name x q)) pos.line X.env = pure false → PS X (.Assign [.Name x q] e pos) (TDS X.K nv (sAsg i d)) := fun hs =>
    PS.conv (ps_set C.nd (C.ix hi) t1 ((sems_ok n).E C he) hs t2) fun Dn σ H h => good_sAsg h
  cases hcp : isComp e with
  | false => exact plain (sw_plain hcp _ _ _)
  | true =>
    cases e <;> first | (simp [isComp] at hcp; done) | (simp [swapC] at hsw; done) | skip
    rename_i elt gens scope cp
    have hk : X.env.scope.names.lookup x = g.look x := C.look x
    cases hb : (decide (X.env.scope.names.lookup x = some .local) && (q.line == cp.line) && !(scope.names.any fun (n, k) => n == x && (k == .local || k == .cell))) with
    | false => exact plain (sw_false hb)
    | true =>
      rw [Bool.and_eq_true, Bool.and_eq_true, decide_eq_true_eq] at hb
      cases n with
      | zero => cases he
      | succ n =>
        have he' : (compO (sems n) g gens scope elt).map (shP g cp) = some d := he
        rw [Option.map_eq_some_iff] at he'
        obtain ⟨d0, h1, h2⟩ := he'
        subst h2
        obtain ⟨tg, it, ifs, rfl, R⟩ := comp_ok (sems_ok n) C h1
        obtain ⟨own, i', p', c', e', rfl, ok, k1, k2, k3, k4⟩ := R.ex
        refine PS.conv (ps_setLc C.calm C.nd (C.ix hi) hb.1.1 (sw_true C.kd hb.1.1 hb.1.2 (by simpa using hb.2)) k1 ok (fun s H a cl fp => (k4 s H a cl fp).1) (fun s H a cl fp => (k4 s H a cl fp).2.1) (fun s H a cl fp => (k4 s H a cl fp).2.2) k2) fun Dn σ H h => ?_
        have q1 := good_sAsg h
        have q2 : TD X.K nv (shP g cp (eComp i' p' c' e' (own.map (·.2)))) σ H (fun v H1 => gName i v σ H1 Dn.nx) := q1
        have q3 : TD X.K nv (eComp i' p' c' e' (own.map (·.2))) σ H (fun v H1 => gName i v σ H1 Dn.nx) := by
          unfold shP at q2
          split at q2
          · exact good_share q2
          · exact q2
        exact good_comp k3 q3
theorem blockKind_of (C : CxK X g nv k) : X.env.blockKind = .function := by unfold Env.blockKind; rw [C.kd]; rfl
theorem par_ok {n : Nat} (C : CxK X g nv k) {x y : Str} {p q pt pt2 : Pos} {j2 j3 : Nat} {a b : Expr} {i j : Nat} {d2 : DE} (h : parOk g x y p q a b = true) (hi : idx x g.N = some i) (hj : idx y g.N = some j) (ha : (sems n).E g a = some d) (hb : (sems n).E g b = some d2) :
    PS X (.Assign [.Tuple [.Name x p, .Name y q] j2 pt] (.Tuple [a, b] j3 pt2) pos) (TDS X.K nv (sPar2 i j d d2)) := by
  unfold parOk at h
  simp only [Bool.and_eq_true] at h
  obtain ⟨⟨⟨⟨⟨h1, h2⟩, h3⟩, h4⟩, h5⟩, h6⟩ := h
  have hxy : x ≠ y := by simpa using h1
  unfold Gm.stN at h2 h3
  rw [Bool.and_eq_true] at h2 h3
  obtain ⟨t1, t2⟩ := C.tg x h2.1
  obtain ⟨u1, u2⟩ := C.tg y h3.1
  have hij : i ≠ j := fun z => by
    subst z
    have e1 := C.ix hi
    have e2 := C.ix hj
    rw [e1] at e2
    exact hxy (Option.some.inj e2)
  have pa : PA X [a, b] (tCons (TD X.K nv d) (tCons (TD X.K nv d2) tNil)) := pa_cons ((sems_ok n).E C ha) (pa_cons ((sems_ok n).E C hb) pa_nil (nostar h5 _ _)) (nostar h4 _ _)
  by_cases hl : g.look x = some .local ∧ g.look y = some .local
  · have h6' : (q.line == p.line) = true ∧ [a, b].all (foldedForSure 8) = false ∧ [a, b].all (constantsAlone 8) = false := by
      rw [hl.1, hl.2] at h6
      simp only [decide_true, Bool.not_true, Bool.or_false, Bool.true_and, Bool.and_eq_true, Bool.not_eq_true'] at h6
      exact ⟨h6.1.1, h6.1.2, h6.2⟩
    have lx : X.env.scope.names.lookup x = some .local := by rw [C.look]; exact hl.1
    have ly : X.env.scope.names.lookup y = some .local := by rw [C.look]; exact hl.2
    refine PS.conv (ps_par C.calm C.nd (C.ix hi) (C.ix hj) hij lx ly pa (swap_two (blockKind_of C) lx ly h6'.1 hxy h6'.2.1 h6'.2.2 h4 h5)) fun Dn σ H h => ?_
    exact (good_sPar2 h).mono fun v H1 z => z.mono fun w H2 z => ⟨v, w, rfl, z.1⟩
  · have hn : X.env.kindOf x ≠ some .local ∨ X.env.kindOf y ≠ some .local := by
      show X.env.scope.names.lookup x ≠ _ ∨ X.env.scope.names.lookup y ≠ _
      rw [C.look, C.look]
      by_cases hx : g.look x = some .local
      · exact .inr fun z => hl ⟨hx, z⟩
      · exact .inl hx
    have pg : PGs X [.Name x p, .Name y q] (gCons (gName i) (gCons (gName j) gNil)) := pgs_cons (pg_name C.nd (C.ix hi) t1 t2) (pgs_cons (pg_name C.nd (C.ix hj) u1 u2) pgs_nil)
    refine PS.conv (ps_asg (pe_tup pa) (pg_tup (n := 2) C.calm pg) rfl (swap_none hn) rfl) fun Dn σ H h => ?_
    exact (good_sPar2 h).mono fun v H1 z => z.mono fun w H2 z => ⟨by unfold sizeLine; simp, fun pp hp => ⟨pp, [v, w], rfl, SqT.of upd_same, rfl, v, [w], rfl, w, [], rfl, rfl, z.2 pp _ hp⟩⟩
theorem swap_other {e : Expr} (h : ∀ es j q, e ≠ .Tuple es j q) (ts : List Expr) (env : Env) : swappedStores ts e env = pure none := by
  unfold swappedStores
  cases e <;> first | (exact absurd rfl (h _ _ _)) | (split <;> first | rfl | (rename_i z; revert z; split <;> intro z <;> first | (cases z; done) | simp_all))
theorem swap_sub {o i : Expr} {q : Pos} (e : Expr) (env : Env) : swappedStores [.Subscript o i q] e env = pure none := by
  cases e <;> rfl
theorem asgO_ok {n : Nat} (C : CxK X g nv k) {tg e : Expr} {d : DS} (h : asgO (sems n) g tg e = some d) : PS X (.Assign [tg] e pos) (TDS X.K nv d) := by
  have hu := C.un
  unfold asgO at h
  split at h
  · rename_i x q
    split at h
    · rename_i hh
      rw [Bool.and_eq_true] at hh
      split at h
      · rename_i i d h1 h2
        cases h
        exact asgName_ok C hh.1 hh.2 h1 h2
      · cases h
    · cases h
  · rename_i o i q
    split at h
    · cases h
    · rename_i hh
      split at h
      · rename_i a b d h1 h2 h3
        cases h
        have hs : isSlice i = false := by simp at hh; exact hh.1
        have hc : isComp e = false := by simp at hh; exact hh.2
        refine PS.conv (ps_asg ((sems_ok n).E C h3) (pg_sub ((sems_ok n).E C h1) ((sems_ok n).E C h2) (set_any (by omega)) (fun v => ?_)) (sws_plain hc _ _ _) (swap_sub e X.env) rfl) fun Dn σ H h => good_sSet h
        cases i <;> first | rfl | (simp [isSlice] at hs)
      · cases h
  · rename_i ts j q
    split at h
    · rename_i es j2 q2
      split at h
      · rename_i x p1 y p2 a b
        split at h
        · rename_i hp
          split at h
          · rename_i i j d d2 h1 h2 h3 h4
            cases h
            exact par_ok C hp h1 h2 h3 h4
          · cases h
        · cases h
      · cases h
    · rename_i ne
      split at h
      · cases h
      · rename_i hc
        split at h
        · rename_i ps d h1 h2
          cases h
          obtain ⟨k1, k2, k3⟩ := pats_ok C h1
          refine PS.conv (ps_asg ((sems_ok n).E C h2) (gp_tup C.calm k1 k2 k3) (sws_plain (by simpa using hc) _ _ _) (swap_other (fun es j q z => ne es j q z) _ _) rfl) fun Dn σ H h => good_sUn h
        · cases h
  · cases h
theorem seq_one (b : DS) : sSeq [b] = b := by
  funext nv m
  show (b nv m).bind _ = b nv m
  cases b nv m with
  | ok f m1 => cases f <;> rfl
  | ex _ _ _ => rfl
  | no => rfl
mutual
theorem semS_ok {n : Nat} (C : CxK X g nv k) (hx : X.xe = fun _ _ => False) : ∀ {st : Stmt} {d : DS}, semS n g st = some d → PS X st (TDS X.K nv d)
  | .Return none _, d, h => by
    simp only [semS] at h
    cases h
    exact PS.conv ps_retN fun Dn σ H ⟨c, m, rel, q⟩ => q c H .non (Fr.refl _ _) rel.toS .non fun a z => z.elim
  | .Return (some e) _, d, h => by
    simp only [semS] at h
    rw [Option.map_eq_some_iff] at h
    obtain ⟨d, h1, h2⟩ := h
    subst h2
    exact PS.conv (ps_ret ((sems_ok n).E C h1)) fun Dn σ H h => good_sRet h
  | .Assign [tg] e _, d, h => by
    simp only [semS] at h
    exact asgO_ok C h
  | .Assign [] e _, d, h => by simp [semS] at h
  | .Assign (_ :: _ :: _) e _, d, h => by simp [semS] at h
  | .If c a b _, d, h => by
    simp only [semS] at h
    split at h
    · rename_i t x y h1 h2 h3
      cases h
      exact PS.conv (ps_if ((sems_ok n).T C h1) (semSs_ok C hx h2) (semSs_ok C hx h3)) fun Dn σ H h => good_sIf h
    · cases h
  | .For tg it b [] _, d, h => by
    simp only [semS] at h
    split at h
    · rename_i i p x h1 h2 h3
      cases h
      obtain ⟨k1, k2⟩ := iter_ok (sems_ok n) C h1
      exact PS.conv (ps_for (by rw [hx]; exact PassesOwn.never) C.calm k1 (pat_ok C h2) (semSs_ok C hx h3) k2) fun Dn σ H h => good_sFor h
    · cases h
  | .For tg it b (_ :: _) _, d, h => by simp [semS] at h
  | .While c b [] _, d, h => by
    simp only [semS] at h
    split at h
    · rename_i t x h1 h2
      cases h
      exact PS.conv (ps_while (by rw [hx]; exact PassesOwn.never) ((sems_ok n).T C h1) (semSs_ok C hx h2)) fun Dn σ H h => good_sWhile h
    · cases h
  | .While c b (_ :: _) _, d, h => by simp [semS] at h
  | .Expr e _, d, h => by
    simp only [semS] at h
    split at h
    · rename_i hd
      cases h
      unfold isDoc at hd
      split at hd
      · exact PS.conv ps_doc fun Dn σ H h => good_skip h
      · cases hd
    · split at h
      · cases h
      · rename_i hc
        rw [Option.map_eq_some_iff] at h
        obtain ⟨d, h1, h2⟩ := h
        subst h2
        exact PS.conv (ps_expr ((sems_ok n).E C h1) (sw_plain (by simpa using hc) _ _ _)) fun Dn σ H h => good_sExp h
  | .Pass _, d, h => by
    simp only [semS] at h
    cases h
    exact PS.conv ps_pass fun Dn σ H h => good_skip h
  | .Break _, d, h => by
    simp only [semS] at h
    cases h
    exact PS.conv ps_break fun Dn σ H ⟨c, m, rel, q⟩ => (q : ∀ c' H' σ', Fr c H c' H' → Rel X.K c' m σ' H' → Dn.bk σ' H') c H σ (Fr.refl _ _) rel
  | .Continue _, d, h => by
    simp only [semS] at h
    cases h
    exact PS.conv ps_continue fun Dn σ H ⟨c, m, rel, q⟩ => (q : ∀ c' H' σ', Fr c H c' H' → Rel X.K c' m σ' H' → Dn.ct σ' H') c H σ (Fr.refl _ _) rel
  | .Raise _ _ _, d, h => by
    simp only [semS] at h
    cases h
    exact PS.conv ps_never fun Dn σ H ⟨c, m, rel, q⟩ => q
  | .FunctionDef .., d, h => by simp [semS] at h
  | .AsyncFunctionDef .., d, h => by simp [semS] at h
  | .ClassDef .., d, h => by simp [semS] at h
  | .Delete .., d, h => by simp [semS] at h
  | .TypeAlias .., d, h => by simp [semS] at h
  | .AugAssign .., d, h => by simp [semS] at h
  | .AnnAssign .., d, h => by simp [semS] at h
  | .AsyncFor .., d, h => by simp [semS] at h
  | .With .., d, h => by simp [semS] at h
  | .AsyncWith .., d, h => by simp [semS] at h
  | .Match .., d, h => by simp [semS] at h
  | .Try .., d, h => by simp [semS] at h
  | .TryStar .., d, h => by simp [semS] at h
  | .Assert .., d, h => by simp [semS] at h
  | .Import .., d, h => by simp [semS] at h
  | .ImportFrom .., d, h => by simp [semS] at h
  | .Global .., d, h => by simp [semS] at h
  | .Nonlocal .., d, h => by simp [semS] at h
theorem semSs_ok {n : Nat} (C : CxK X g nv k) (hx : X.xe = fun _ _ => False) : ∀ {st : List Stmt} {d : DS}, semSs n g st = some d → PSs X st (TDS X.K nv d)
  | [], d, h => by
    simp only [semSs] at h
    cases h
    exact PSs.conv pss_nil fun Dn σ H h => good_skip h
  | [st], d, h => by
    simp only [semSs] at h
    exact pss_one (semS_ok C hx h)
  | st :: st2 :: r, d, h => by
    simp only [semSs] at h
    split at h
    · rename_i a b h1 h2
      cases h
      refine PSs.conv (pss_cons (semS_ok C hx h1) (semSs_ok C hx h2)) fun Dn σ H h => ?_
      have q := good_seq h
      rw [seq_one] at q
      exact q
    · cases h
end
end
end Kd

namespace Kd
open PySem PySem.Spec PyProof.Rows L2
section
variable {P : Program} {w : World} {K : PySem.W.Frag} {mg : Str → Option Value} {base : Heap}
theorem fnG_of {k : Nat} {x qual : Str} {st : Stmt} {f : Addr} {fd : FuncData} {N ps : List Str} {sp : Sp} (F : Fun K x qual st f fd) (S : FnScope N ps (defScope st)) (len : ∀ vs H Q E, sp vs H Q E → vs.length = ps.length)
    (hbody : ∀ (cdv : Value) (A : Around) (outer : List Env) (s : Shared) (H : Hp) (vs : List V) (Q : VK) (E : XK), Room k (A.deeper (envOfC qual (defScope st) s.heap.objs.size f cdv)) → A.guards = some [] → sp vs H Q E →
      ∃ t, PSs (cxOf CX0 P w K mg base N qual (defScope st) f cdv A outer s H E).nox (defBody st) t ∧ t { nx := fun _ H' => Q .non H', rt := Q } (start N vs) H) : FnG P w K mg base CX0 (k + 1) f fd ps sp := by
  obtain ⟨oc, od, kV, doc, pm, an, cdv, ct, osl, rfl, lk, hcd⟩ := F.ex
  refine ⟨len, fun A outer s H args us vs Q E hr hq e0 hb r hsp => ?_⟩
  have hl := len _ _ _ _ hsp
  have KX : K.In s.heap := e0.mod.kin.keeps fun b o e => (e0.bs b o e).1
  have lim : s.heap.NoLimit := e0.mod.nolimit.keeps fun b o e => (e0.bs b o e).1
  have hkind : ∀ y ∈ ps.zip us, (defScope st).names.lookup y.1 = some .local ∨ ((defScope st).names.lookup y.1 = some .cell ∧ ((cellsFrom (s.heap.objs.size + 1) (defScope st).names []).lookup y.1).isSome = true) := fun ⟨n, v⟩ hy => by
    rcases S.par n (List.of_mem_zip hy).1 with q | q
    · exact .inl q
    · exact .inr ⟨q, PySem.W.cellsFrom_some _ _ _ (.inl q)⟩
  refine codeAny_call_function hr.depth (KX _ _ lk) rfl S.co S.gen rfl (PySem.W.codeRec_of KX hcd) (hb _ _ _ _ ?_)
  refine wpAny_newFunctionEnv_cells S.kind hkind fun env he s1 x => ?_
  subst he
  refine ⟨lim.keeps x.toInCall.keep, codeAny_func ?_⟩
  obtain ⟨t, ht0, hw⟩ := hbody cdv A outer s H vs Q E (hr.deeper _) hq hsp
  have ht := ht0.nox
  have I : Inv (cxOf CX0 P w K mg base N qual (defScope st) f cdv A outer s H E) [] (start N vs) H s1 := inv_start S hr.hd e0 hl r x
  refine wpAny_mono (ht.run [] s1 (start N vs) H _ I hw) (fun fl s' hs => ?_) fun e s' hs => hs
  have fin : ∀ {σ' : L2.St} {H' : Hp} {v : V} {u : Value}, Inv (cxOf CX0 P w K mg base N qual (defScope st) f cdv A outer s H E) [] σ' H' s' → RelV v u → Q v H' → CE outer P w H s Q u s' :=
    fun {σ' H' v u} J rv q => ⟨v, H', J.os, J.bare, J.base, J.hok, rv, q⟩
  cases fl with
  | ret u =>
    obtain ⟨v, σ', H', J, rv, q⟩ := hs
    exact fin J rv q
  | next =>
    obtain ⟨σ', H', J, q⟩ := hs
    exact fin (v := V.non) (u := Value.none) J rfl q
  | brk =>
    obtain ⟨_, _, _, q⟩ := hs
    exact False.elim q
  | cont =>
    obtain ⟨_, _, _, q⟩ := hs
    exact False.elim q
/-- the machine's state at the entry -/
theorem rel_start {c : Lb} {S : List Ob} {ds : List D} {vs : List V} {H : Hp} (N : List Str) (r : RelS K c S H) (rv : Rps K c H ds vs) : Rel K c (startM N.length ds S) (start N vs) H where
  sl := fun i s e => by
    have hl := rv.length
    unfold startM at e
    unfold L2.start
    by_cases hi : i < ds.length
    · have e' : (ds.map Sl.val)[i]? = some s := by
        have e0 : (ds.map Sl.val ++ List.replicate (N.length - ds.length) Sl.un)[i]? = some s := e
        rwa [List.getElem?_append_left (by simpa using hi)] at e0
      rw [List.getElem?_map, Option.map_eq_some_iff] at e'
      obtain ⟨d, h1, h2⟩ := e'
      subst h2
      obtain ⟨x, h3, h4⟩ := rv.get h1
      refine ⟨x, ?_, h4⟩
      rw [List.getElem?_append_left (by rw [List.length_map, ← hl]; exact hi), List.getElem?_map, h3]
      rfl
    · have e0 : (ds.map Sl.val ++ List.replicate (N.length - ds.length) Sl.un)[i]? = some s := e
      rw [List.getElem?_append_right (by simpa using hi), List.getElem?_replicate] at e0
      split at e0
      · cases e0; trivial
      · cases e0
  ob := r.ob
  uq := r.uq
  lt := r.lt
  lv := r.lv
  len := by
    have hl := rv.length
    unfold startM L2.start
    show (ds.map Sl.val ++ List.replicate (N.length - ds.length) Sl.un).length = _
    simp only [List.length_append, List.length_map, List.length_replicate, hl]
theorem good_body {c : Lb} {H : Hp} {Q : VK} {r : R Fl} (g : GoodC K c H Q (endR r)) : GoodF K c H { nx := fun _ H' => Q .non H', rt := Q } r := by
  cases r with
  | ok fl m =>
    cases fl with
    | nx => exact fun c' H' σ' f rel => g c' H' .non f rel.toS .non fun a z => z.elim
    | rt o => exact g
    | bk => exact g.elim
    | ct => exact g.elim
  | ex _ _ _ => exact g.elim
  | no => exact g.elim
/-- a def of the text, as it stands behind the top -/
structure DefOk (K : PySem.W.Frag) (mg : Str → Option Value) (d : Df) (kws : List (Nat × List Str)) : Prop where
  ex : ∃ f fd qual, mg d.nm = some (.ref f) ∧ Fun K d.nm qual d.st f fd ∧ Binds K fd d.ps [] ∧ ∀ p ∈ kws, ∀ pl, placesO (d.ps.take p.1 ++ p.2) d.ps = some pl → KB fd d.ps p.2 p.1 pl
/-- the text as the machine has it -/
structure TxtOk (K : PySem.W.Frag) (mg : Str → Option Value) (n : Nat) (G : List (Str × GE)) (sh : List (Nat × Nat)) (defs : List Df) (cds : List Cd) : Prop where
  cd : ∀ (i : Nat) (c : Cd), cds[i]? = some c → ∃ (d : Df) (b : DS), defs[i]? = some d ∧ d.sem n G sh = some b ∧ c = Cd.mk b d.ps.length d.N.length ∧ FnScope d.N d.ps (defScope d.st)
  fn : ∀ x i ps kws, G.lookup x = some (.fn i ps kws) → ∃ d : Df, d.nm = x ∧ d.ps = ps ∧ DefOk K mg d kws ∧ (cds[i]?.isSome = true → defs[i]? = some d)
  con : ∀ x d, G.lookup x = some (.con d) → ∃ v u, mg x = some u ∧ RelV v u ∧ ∀ c H, Rp K c H d v
  bl : ∀ x, x ∈ bltNames → G.lookup x = none → mg x = none
variable {n : Nat} {G : List (Str × GE)} {sh : List (Nat × Nat)} {defs : List Df} {cds : List Cd}
theorem fnG_none {k : Nat} {f : Addr} {fd : FuncData} {ps : List Str} {ct : List D → List Ob → CR} (h : ∀ ds S, ct ds S = .no) : FnG P w K mg base CX0 k f fd ps (spC K ct ps.length) :=
  ⟨fun _ _ _ _ q => q.1, fun A outer s H args us vs Q E hr hq e0 hb r ⟨_, c, S, ds, _, _, g⟩ => by rw [h] at g; exact g.elim⟩
theorem def_ok (T : TxtOk K mg n G sh defs cds) (wf : Nat) : ∀ (k : Nat) (d : Df) (i : Nat) (f : Addr) (fd : FuncData) (qual : Str), (cds[i]?.isSome = true → defs[i]? = some d) → Fun K d.nm qual d.st f fd →
    FnG P w K mg base CX0 k f fd d.ps (spC K (ctK cds wf k i) d.ps.length)
  | 0, d, i, f, fd, qual, _, _ => fnG_none fun _ _ => rfl
  | k + 1, d, i, f, fd, qual, hd, F => by
    cases hc : cds[i]? with
    | none => exact fnG_none fun ds S => by unfold ctK; rw [hc]
    | some cd =>
      obtain ⟨d2, b, h1, h2, h3, h4⟩ := T.cd i cd hc
      rw [hd (by rw [hc]; rfl)] at h1
      cases h1
      refine fnG_of F h4 (fun _ _ _ _ q => q.1) fun cdv A outer s H vs Q E hr hq ⟨hl, c, S, ds, rs, rv, g⟩ => ?_
      let X : Cx := (cxOf CX0 P w K mg base d.N qual (defScope d.st) f cdv A outer s H E).nox
      have C : CxK X (d.gm G sh) ⟨ctK cds wf k, wf⟩ k := {
        N := rfl
        nd := h4.nd
        sc := rfl
        kd := h4.kind
        calm := rfl
        gd := hq
        room := hr
        tg := fun x hx => by
          refine ⟨?_, .inl rfl⟩
          have hx' : isLoc ((defScope d.st).names.lookup x) = true := hx
          unfold isLoc at hx'
          split at hx'
          · rename_i e; exact .inl e
          · rename_i e; exact .inr e
          · cases hx'
        fn := fun x j ps kws hG => by
          obtain ⟨d3, rfl, rfl, D3, h5⟩ := T.fn x j ps kws hG
          obtain ⟨f3, fd3, q3, m3, F3, B3, K3⟩ := D3.ex
          exact ⟨⟨f3, fd3, m3, F3.kp, B3, K3, def_ok T wf k d3 j f3 fd3 q3 h5 F3⟩⟩
        con := T.con
        bl := T.bl }
      refine ⟨_, semSs_ok C rfl h2, c, startM d.N.length ds S, rel_start d.N rs rv, ?_⟩
      unfold ctK at g
      rw [hc] at g
      have hz : ds.length = d.ps.length := by rw [rv.length]; exact hl
      simp only [h3, if_pos hz] at g
      exact good_body g
end
end Kd

namespace Kd
open PySem PySem.Spec PyProof.Rows L2
/-- no object of the module is a list -/
def noList (K : PySem.W.Frag) : Bool := K.all fun p => match p.2.cls with
  | .type n => decide (n ≠ "list")
  | _ => true
theorem lookup_mem {K : PySem.W.Frag} {a : Addr} {o : Obj} : K.lookup a = some o → (a, o) ∈ K := by
  induction K with
  | nil => intro h; cases h
  | cons p r ih =>
    intro h
    obtain ⟨b, u⟩ := p
    rw [List.lookup_cons] at h
    split at h
    · rename_i z
      cases h
      rw [beq_iff_eq.mp z]
      exact List.mem_cons_self ..
    · exact List.mem_cons_of_mem _ (ih h)
theorem noList_of {K : PySem.W.Frag} (h : noList K = true) {a : Addr} {o : Obj} (e : K.lookup a = some o) : o.cls ≠ .type "list" := by
  have q : (a, o) ∈ K := lookup_mem e
  unfold noList at h
  rw [List.all_eq_true] at h
  have := h _ q
  intro z
  simp only [z] at this
  exact absurd this (by decide)
theorem rps_int {K : PySem.W.Frag} {c : Lb} {H : Hp} : ∀ ns : List Int, Rps K c H (ns.map D.int) (ns.map V.int)
  | [] => .nil
  | n :: ns => .cons (.int n) (rps_int ns)
/-- the script alone is tracked -/
def hpS (a : Addr) (vs : List Value) (ns : List Int) : Hp := fun b => if b = a then some (.frz { cls := .type "list", data := .seq vs.toArray } (.lst (ns.map V.int))) else none
def lbS (a : Addr) : Lb := fun b => if b = a then some .fz else none
theorem lawG {P : Program} {w : World} {K : PySem.W.Frag} {mg mb : Str → Option Value} {k : Nat} {fa a : Addr} {fd : FuncData} {x : Str} {t : Shared} {vs : List Value} {ns : List Int} {f : List D → List Ob → CR} {S' : List Ob}
    (hnl : noList K = true) (KX : K.In t.heap) (hns : t.heap.Ns mainGlobals mg) (hb : t.heap.Ns builtinsNs mb) (hbb : ∀ x : Str, x ≠ "__name__" → mb x = bootBuiltins x) (hlim : t.heap.NoLimit) (hg : t.gens = #[])
    (ha : t.heap.get? a = some { cls := .type "list", data := .seq vs.toArray }) (hi : IntsAre vs ns) (hl : ns.length ≤ sizeLine) (hr : Room k callerA)
    (F : ∀ base : Heap, FnG P w K mg base CX0 k fa fd [x] (spC K f 1)) (hbind : ∀ (s : Shared) (u : Value), BindsTo s fd ⟨[u], []⟩ [(x, u)]) (run : f [.lst (ns.map .int)] [] = .ok (.v (.bl true)) S') :
    codeAny (model P w) callerA (.call (.ref fa) ⟨[.ref a], []⟩) (fun r s' => r = .ok (.ret (.bool true)) ∧ OldK t.heap s'.heap ∧ s'.os = t.os ∧ AllBare s'.gens) t := by
  have rv := vals_ints hi
  have hK : K.lookup a = none := by
    cases e : K.lookup a with
    | none => rfl
    | some o =>
      have e2 := KX a o e
      rw [ha] at e2
      cases e2
      exact absurd rfl (noList_of hnl e)
  have at1 : hpS a vs ns a = some (.frz { cls := .type "list", data := .seq vs.toArray } (.lst (ns.map V.int))) := if_pos rfl
  have at2 : ∀ b, hpS a vs ns b ≠ none → b = a := fun b z => by
    by_cases q : b = a
    · exact q
    · exact absurd (if_neg q) z
  have keepB : ∀ {b : Addr} {o : Obj}, t.heap.get? b = some o → b ≠ a → (hidT t.heap (hpS a vs ns)).get? b = some o := fun e n => hidT_get e (if_neg n)
  have nsB : ∀ {b : Addr} {m : Str → Option Value}, t.heap.Ns b m → (hidT t.heap (hpS a vs ns)).Ns b m := fun {b m} ⟨o, es, ep, e, d, r⟩ => by
    refine ⟨o, es, ep, keepB e fun z => ?_, d, r⟩
    subst z
    rw [ha] at e
    cases e
    cases (show Data.seq vs.toArray _ = Data.dict es ep from d)
  have kB : K.In (hidT t.heap (hpS a vs ns)) := fun b o e => keepB (KX b o e) fun z => by
    subst z
    rw [hK] at e
    cases e
  have M0 : Mod K mg (hidT t.heap (hpS a vs ns)) := ⟨kB, nsB hns, ⟨mb, nsB hb, hbb⟩, hlim.elim fun mc q => ⟨mc, nsB q.1, q.2⟩⟩
  have hok : HOk P w (hpS a vs ns) t.heap := fun b u z => by
    have q := at2 b (by rw [z]; simp)
    subst q
    rw [at1] at z
    cases z
    exact ⟨ha, by rw [List.length_map]; exact hl, vs, _, rv, ha⟩
  have E0' : Env0 P w K mg (hidT t.heap (hpS a vs ns)) callerA [] t (hpS a vs ns) :=
    ⟨rfl, M0, fun b o e => of_hidT e, Nat.le_of_eq (hidT_size _ _), trivial, fun b z => absurd (show b ∈ ([] : List Addr) from z) (by simp), hok, .of_eq hg⟩
  have nolc : ∀ b l, lbS a b ≠ some (.lc l) := fun b l e => by
    unfold lbS at e
    split at e <;> cases e
  have rs : RelS K (lbS a) [] (hpS a vs ns) := by
    refine ⟨fun l o e => ?_, fun b b' l e _ => absurd e (nolc _ _), fun b l e => absurd e (nolc _ _), fun b z => ?_⟩
    · cases e
    · by_cases q : b = a
      · subst q
        rw [at1]
        simp
      · exact absurd (if_neg q) z
  have rp : Rp K (lbS a) (hpS a vs ns) (.lst (ns.map .int)) (.ref a) := .lst (if_pos rfl) (.inl (.inr ⟨_, at1⟩)) (rps_int ns)
  have sp : spC K f 1 [.ref a] (hpS a vs ns) (fun v _ => v = .bl true) fun _ _ _ => False := by
    refine ⟨rfl, lbS a, [], [.lst (ns.map .int)], rs, .cons rp .nil, ?_⟩
    rw [run]
    intro c' H' y fr s2 ry _
    cases ry
    rfl
  refine codeAny_mono ((F _).run callerA [] t (hpS a vs ns) ⟨[.ref a], []⟩ [.ref a] [.ref a] _ _ hr rfl E0' (hbind t (.ref a)) (.cons rfl .nil) sp) fun r s' h => ?_
  cases r with
  | error e => exact h.elim
  | ok fl =>
    cases fl with
    | next => exact h.elim
    | brk => exact h.elim
    | cont => exact h.elim
    | ret u =>
      obtain ⟨v, H', os, bare, un, hok', r', q⟩ := h
      have q' : v = .bl true := q
      subst q'
      obtain rfl : u = Value.bool true := r'
      refine ⟨rfl, OldK.of_keep fun b o e => ?_, os, bare⟩
      by_cases z : b = a
      · subst z
        obtain ⟨e1, _⟩ := hok' b _ (un.frzs b _ _ at1)
        rw [ha] at e
        cases e
        exact e1
      · exact un.keep b o e (if_neg z) (fun z => absurd (show b ∈ ([] : List Addr) from z) (by simp)) (by simp)
theorem walkG {l : PySem.W.OpenLaw} {n k : Nat} {q : Program} {loose : List Str} {XP : (Str → Option Value) → Heap → Prop} {YP : World → Heap → Prop} {d : DefRec} {K : Params → PySem.W.Frag} {x : Str} {f : List D → List Ob → CR}
    (hn : l.most = some n) (hn2 : n ≤ sizeLine) (hdf : d.params.defaults = []) (hr : Room k callerA) (hY : ∀ (w : World) (h : Heap), YP w h → (K w.params).In h) (hnl : ∀ w : World, noList (K w.params) = true)
    (F : ∀ (w : World) (mg : Str → Option Value) (fa : Addr) (h : Heap), (K w.params).In h → h.Ns mainGlobals mg → mg d.name = some (.ref fa) →
      ∃ fd : FuncData, (∀ (s : Shared) (u : Value), BindsTo s fd ⟨[u], []⟩ [(x, u)]) ∧ ∀ base : Heap, FnG l.prog w (K w.params) mg base CX0 k fa fd [x] (spC (K w.params) f 1))
    (run : ∀ ns : List Int, ns.length ≤ n → ∃ S', f [.lst (ns.map .int)] [] = .ok (.v (.bl true)) S') : PySem.W.WalkO q loose XP YP l.row.toRowW d [] (fun f vs => PySem.call f vs) := by
  refine Att.attach_call hn hdf fun w s₀ t mg mb fa o pm cd doc a vs ns G Y ho hd hcd hmg hobj hints hlen hg => ?_
  obtain ⟨fd, hb, hF⟩ := F w mg fa _ (hY w _ Y) G.T.g hmg
  obtain ⟨S', hrun⟩ := run ns hlen
  exact lawG (hnl w) (hY w _ Y) G.T.g G.T.b G.T.builtins G.T.nolimit hg hobj hints (Nat.le_trans hlen hn2) hr hF hb hrun
end Kd

namespace Kd
open PySem PySem.Spec PyProof.Rows L2
def isFnK : ScopeKind → Bool
  | .function => true
  | _ => false
def isFree : NameKind → Bool
  | .free => true
  | _ => false
/-- the scope's facts, by looking -/
def scopeB (d : Df) : Bool := isFnK (defScope d.st).kind && !(defScope d.st).isCoroutine && !(defScope d.st).isGenerator && decide d.N.Nodup && decide (d.N.take d.ps.length = d.ps) &&
  d.ps.all (fun x => isLoc ((defScope d.st).names.lookup x)) && (defScope d.st).names.all fun y => !isFree y.2
theorem scopeB_ok {d : Df} (h : scopeB d = true) : FnScope d.N d.ps (defScope d.st) := by
  unfold scopeB at h
  simp only [Bool.and_eq_true, Bool.not_eq_true', decide_eq_true_eq, List.all_eq_true] at h
  obtain ⟨⟨⟨⟨⟨⟨h1, h2⟩, h3⟩, h4⟩, h5⟩, h6⟩, h7⟩ := h
  refine ⟨?_, h2, h3, h4, h5, fun x hx => ?_, fun y hy e => ?_⟩
  · unfold isFnK at h1
    split at h1
    · assumption
    · cases h1
  · have q := h6 x hx
    unfold isLoc at q
    split at q
    · rename_i e; exact .inl e
    · rename_i e; exact .inr e
    · cases q
  · have q := h7 y hy
    rw [e] at q
    cases q
section
variable {K : PySem.W.Frag} {mg : Str → Option Value} {n : Nat} {G : List (Str × GE)} {sh : List (Nat × Nat)} {defs : List Df}
def GOk (K : PySem.W.Frag) (mg : Str → Option Value) (defs : List Df) : List (Str × GE) → Prop
  | [] => True
  | (x, .fn i ps kws) :: r => (∃ d : Df, defs[i]? = some d ∧ d.nm = x ∧ d.ps = ps ∧ DefOk K mg d kws) ∧ GOk K mg defs r
  | (x, .con d) :: r => (∃ v u, mg x = some u ∧ RelV v u ∧ ∀ c H, Rp K c H d v) ∧ GOk K mg defs r
theorem gok_nil : GOk K mg defs [] := trivial
theorem gok_fn {x : Str} {i : Nat} {ps : List Str} {kws : List (Nat × List Str)} {r : List (Str × GE)} {d : Df} (h1 : defs[i]? = some d) (h2 : d.nm = x) (h3 : d.ps = ps) (D : DefOk K mg d kws) (h : GOk K mg defs r) : GOk K mg defs ((x, .fn i ps kws) :: r) := ⟨⟨d, h1, h2, h3, D⟩, h⟩
theorem gok_int {x : Str} {i : Int} {t : Tok} {r : List (Str × GE)} (e : mg x = some (.int i t)) (h : GOk K mg defs r) : GOk K mg defs ((x, .con (.int i)) :: r) := ⟨⟨.int i, _, e, ⟨_, rfl⟩, fun _ _ => .int i⟩, h⟩
theorem gok_str {x : Str} {i : Str} {t : Tok} {r : List (Str × GE)} (e : mg x = some (.str i t)) (h : GOk K mg defs r) : GOk K mg defs ((x, .con (.str i)) :: r) := ⟨⟨.str i, _, e, ⟨_, rfl⟩, fun _ _ => .str i⟩, h⟩
theorem gok_get {x : Str} {e : GE} : ∀ {G : List (Str × GE)}, GOk K mg defs G → G.lookup x = some e → GOk K mg defs [(x, e)]
  | [], _, h => by cases h
  | (y, f) :: r, g, h => by
    rw [List.lookup_cons] at h
    split at h
    · rename_i z
      cases h
      rw [beq_iff_eq.mp z]
      cases e with
      | fn i ps kws => exact ⟨g.1, trivial⟩
      | con d => exact ⟨g.1, trivial⟩
    · refine gok_get ?_ h
      cases f with
      | fn i ps kws => exact g.2
      | con d => exact g.2
theorem txt_mk (hd : (defs.all fun d => (d.sem n G sh).isSome && scopeB d) = true) (hg : GOk K mg defs G) (hb : ∀ x, x ∈ bltNames → G.lookup x = none → mg x = none) : TxtOk K mg n G sh defs (defs.map (Df.cd n G sh)) where
  cd := fun i c hc => by
    rw [List.getElem?_map, Option.map_eq_some_iff] at hc
    obtain ⟨d, h1, h2⟩ := hc
    subst h2
    rw [List.all_eq_true] at hd
    have q := hd d (List.mem_of_getElem? h1)
    rw [Bool.and_eq_true] at q
    cases e : d.sem n G sh with
    | none => rw [e] at q; cases q.1
    | some b => exact ⟨d, b, h1, e, by unfold Df.cd; rw [e]; rfl, scopeB_ok q.2⟩
  fn := fun x i ps kws h => by
    obtain ⟨⟨d, h1, h2, h3, D⟩, _⟩ := gok_get hg h
    exact ⟨d, h2, h3, D, fun _ => h1⟩
  con := fun x d h => (gok_get hg h).1
  bl := hb
/-- a def as it stands behind the top -/
def DefAt (K : PySem.W.Frag) (mg : Str → Option Value) (x : Str) (st : Stmt) : Prop := ∃ f fd, mg x = some (.ref f) ∧ Fun K x x st f fd
theorem at_step {h : Heap} (X : K.In h) (H : h.Ns mainGlobals mg) {x : Str} {st : Stmt} {f : Addr} {oc : Value} {od an : Option Addr} {osl : Array (Option Value)} {kV doc pm cdv ct : Value} {C : Prop} (a : PySem.W.nsIn K mainGlobals x = some (some (.ref f)))
    (l : K.lookup f = some ⟨oc, od, .func (PySem.W.fnOf x x (defArgs st) (defBody st) (defScope st) .none kV doc pm an cdv ct), osl⟩) (c : PySem.W.codeIn K cdv x = true) (k : PySem.W.keepIn K (.ref f) = true) (next : DefAt K mg x st → C) : C :=
  next ⟨f, _, PySem.W.mg_of X H a, fun_mk l c k⟩
theorem val_step {h : Heap} (X : K.In h) (H : h.Ns mainGlobals mg) {x : Str} {u : Value} {C : Prop} (a : PySem.W.nsIn K mainGlobals x = some (some u)) (next : mg x = some u → C) : C := next (PySem.W.mg_of X H a)
theorem no_step {h : Heap} (X : K.In h) (H : h.Ns mainGlobals mg) {x : Str} {C : Prop} (a : PySem.W.nsIn K mainGlobals x = some none) (next : mg x = none → C) : C := next (PySem.W.mg_none_of X H a)
theorem defOk_of {d : Df} {kws : List (Nat × List Str)} (A : DefAt K mg d.nm d.st)
    (b : ∀ (kV doc pm : Value) (an : Option Addr) (cdv ct : Value) (us : List Value), us.length = d.ps.length → bindArgs (PySem.W.fnOf d.nm d.nm (defArgs d.st) (defBody d.st) (defScope d.st) .none kV doc pm an cdv ct) ⟨us, []⟩ = pure (d.ps.zip us))
    (kb : ∀ p ∈ kws, ∀ pl, placesO (d.ps.take p.1 ++ p.2) d.ps = some pl → ∀ (kV doc pm : Value) (an : Option Addr) (cdv ct : Value) (us ws : List Value), us.length = p.1 → ws.length = p.2.length →
      bindArgs (PySem.W.fnOf d.nm d.nm (defArgs d.st) (defBody d.st) (defScope d.st) .none kV doc pm an cdv ct) ⟨us, p.2.zip ws⟩ = pure (d.ps.zip (gP pl us ws))) : DefOk K mg d kws := by
  obtain ⟨f, fd, h1, F⟩ := A
  refine ⟨f, fd, d.nm, h1, F, F.binds b, fun p hp pl hpl => ?_⟩
  obtain ⟨oc, od, kV, doc, pm, an, cdv, ct, osl, rfl, lk, hcd⟩ := F.ex
  exact ⟨fun s us ws l1 l2 => .of_eq (kb p hp pl hpl kV doc pm an cdv ct us ws l1 l2)⟩
theorem law_mk {P : Program} {w : World} {cds : List Cd} (T : TxtOk K mg n G sh defs cds) (wf k i : Nat) {fa : Addr} {d : Df} {x y : Str} (hm : mg x = some (.ref fa)) (hn : d.nm = x) (hp : d.ps = [y]) (hi : defs[i]? = some d) (A : DefAt K mg d.nm d.st)
    (b : ∀ (kV doc pm : Value) (an : Option Addr) (cdv ct u : Value), bindArgs (PySem.W.fnOf d.nm d.nm (defArgs d.st) (defBody d.st) (defScope d.st) .none kV doc pm an cdv ct) ⟨[u], []⟩ = pure [(y, u)]) :
    ∃ fd : FuncData, (∀ (s : Shared) (u : Value), BindsTo s fd ⟨[u], []⟩ [(y, u)]) ∧ ∀ base : Heap, FnG P w K mg base CX0 k fa fd [y] (spC K (ctK cds wf k i) 1) := by
  obtain ⟨f, fd, h1, F⟩ := A
  rw [hn, hm] at h1
  cases h1
  refine ⟨fd, fun s u => ?_, fun base => ?_⟩
  · obtain ⟨oc, od, kV, doc, pm, an, cdv, ct, osl, rfl, lk, hcd⟩ := F.ex
    exact .of_eq (b kV doc pm an cdv ct u)
  · have q := def_ok (P := P) (w := w) (base := base) T wf k d i fa fd d.nm (fun _ => hi) F
    rw [hp] at q
    exact q
end
end Kd

namespace P38
open PySem PySem.Spec PyProof.Rows L2 Kd
def top (i : Nat) : Stmt := PySem.Challenge.pw_keyriders_k38_errors_of_part_tables.main.body.getD i (.Pass ⟨0, 0, 0, 0⟩)
def defs : List Df := [
  ⟨"is_integer", ["value"], ["value"], top 5⟩,
  ⟨"lots_of", ["n", "size"], ["n", "size", "found", "turn", "longer", "lot", "first", "place"], top 6⟩,
  ⟨"all_lots", ["n"], ["n", "found", "size"], top 7⟩,
  ⟨"goal", ["n", "entry"], ["n", "entry", "place"], top 9⟩,
  ⟨"is_entry", ["n", "lot", "value"], ["n", "lot", "value", "place", "item"], top 10⟩,
  ⟨"is_numbered", ["n", "value"], ["n", "value"], top 12⟩,
  ⟨"part_error", ["n", "value"], ["n", "value", "lots", "place", "goals", "item", "number", "entry"], top 13⟩,
  ⟨"_law_reel", ["script"], ["script", "own", "deep", "cells", "stamp"], top 15⟩,
  ⟨"_law_draw", ["reel", "many"], ["reel", "many", "deep", "mixed", "turn", "own", "count", "cells"], top 16⟩,
  ⟨"_law_pick", ["reel", "things"], ["reel", "things"], top 17⟩,
  ⟨"_law_mixed", ["reel", "things"], ["reel", "things", "left", "found"], top 18⟩,
  ⟨"_law_world", ["n"], ["n", "size", "last", "found", "longer", "keys", "x"], top 19⟩,
  ⟨"_law_end", ["entry"], ["entry", "x"], top 20⟩,
  ⟨"_law_stay", ["n", "keys"], ["n", "keys", "x"], top 21⟩,
  ⟨"_law_deed", ["reel", "n", "kind"], ["reel", "n", "kind", "places"], top 22⟩,
  ⟨"_law_deed_table", ["world", "deed"], ["world", "deed", "keys", "need", "a", "b", "turns", "found", "entry", "x", "y"], top 23⟩,
  ⟨"_law_then", ["world", "one", "other"], ["world", "one", "other", "found", "entry", "further", "y"], top 24⟩,
  ⟨"_law_product", ["reel", "world", "menu", "many"], ["reel", "world", "menu", "many", "found", "turn", "keys"], top 25⟩,
  ⟨"_law_turned", ["reel", "world", "table"], ["reel", "world", "table", "at", "size", "ends", "n", "found", "turns", "one", "other", "k", "far", "rest", "x", "y", "own"], top 26⟩,
  ⟨"_law_is_entry", ["n", "keys", "value"], ["n", "keys", "value", "ends", "x", "y"], top 27⟩,
  ⟨"_law_entry", ["reel", "n", "keys", "last"], ["reel", "n", "keys", "last", "rest", "x"], top 28⟩,
  ⟨"_law_part", ["reel", "world", "table"], ["reel", "world", "table", "sizes", "few", "lack", "lots", "way", "told", "m", "k"], top 29⟩,
  ⟨"_law_due", ["world", "value"], ["world", "value", "place", "ends", "n", "lots", "item", "fine"], top 30⟩,
  ⟨"_law_loose", ["reel", "world"], ["reel", "world", "m", "found", "lots", "spots", "ends", "k"], top 31⟩,
  ⟨"_law_odd_item", ["reel", "world", "item"], ["reel", "world", "item", "odd", "number", "entry", "at", "way", "other"], top 32⟩,
  ⟨"_law_spoilt", ["reel", "world", "part"], ["reel", "world", "part", "at", "other", "same", "number", "last", "fresh", "items", "way", "k", "item"], top 33⟩,
  ⟨"law", ["script"], ["script", "reel", "world", "n", "turn", "table", "part", "value", "shown", "told"], top 34⟩]
def glob : List (Str × GE) := [
  ("is_integer", .fn 0 ["value"] []),
  ("lots_of", .fn 1 ["n", "size"] []),
  ("all_lots", .fn 2 ["n"] []),
  ("goal", .fn 3 ["n", "entry"] []),
  ("is_entry", .fn 4 ["n", "lot", "value"] []),
  ("is_numbered", .fn 5 ["n", "value"] []),
  ("part_error", .fn 6 ["n", "value"] [(0, ["value", "n"])]),
  ("_law_reel", .fn 7 ["script"] []),
  ("_law_draw", .fn 8 ["reel", "many"] []),
  ("_law_pick", .fn 9 ["reel", "things"] []),
  ("_law_mixed", .fn 10 ["reel", "things"] []),
  ("_law_world", .fn 11 ["n"] []),
  ("_law_end", .fn 12 ["entry"] []),
  ("_law_stay", .fn 13 ["n", "keys"] []),
  ("_law_deed", .fn 14 ["reel", "n", "kind"] []),
  ("_law_deed_table", .fn 15 ["world", "deed"] []),
  ("_law_then", .fn 16 ["world", "one", "other"] []),
  ("_law_product", .fn 17 ["reel", "world", "menu", "many"] []),
  ("_law_turned", .fn 18 ["reel", "world", "table"] []),
  ("_law_is_entry", .fn 19 ["n", "keys", "value"] []),
  ("_law_entry", .fn 20 ["reel", "n", "keys", "last"] []),
  ("_law_part", .fn 21 ["reel", "world", "table"] []),
  ("_law_due", .fn 22 ["world", "value"] []),
  ("_law_loose", .fn 23 ["reel", "world"] []),
  ("_law_odd_item", .fn 24 ["reel", "world", "item"] []),
  ("_law_spoilt", .fn 25 ["reel", "world", "part"] []),
  ("law", .fn 26 ["script"] []),
  ("MAX_TABLE", .con (.int (6)))]
def shared : List (Nat × Nat) := [(66, 11), (67, 11)]

def cds : List Cd := defs.map (Df.cd 30 glob shared)

theorem at38 : At38 cds 26 7 11 8 17 18 23 21 25 6 22 10 9 12 13 14 15 16 20 19 24 5 0 2 1 4 3 where
  law := by rfl
  re := by rfl
  wo := by rfl
  dr := by rfl
  pi := by rfl
  mi := by rfl
  en := by rfl
  st := by rfl
  dd := by rfl
  dt := by rfl
  th := by rfl
  pr := by rfl
  tu := by rfl
  ne := by rfl
  pa := by rfl
  lo := by rfl
  le := by rfl
  du := by rfl
  od := by rfl
  sp := by rfl
  inn := by rfl
  nu := by rfl
  al := by rfl
  lf := by rfl
  ie := by rfl
  go := by rfl
  pe := by rfl
theorem wc_out {r : CR} {Q : Op → List Ob → Prop} (h : WC r Q) : ∃ o S, r = .ok o S ∧ Q o S := by
  with_unfolding_all
    cases r with
    | ok a m => exact ⟨a, m, rfl, h⟩
    | ex _ _ _ => exact h.elim
    | no => exact h.elim
theorem run (ns : List Int) (h : ns.length ≤ 63) : ∃ S, ctK cds 1000 20 26 [.lst (ns.map .int)] [] = .ok (.v (.bl true)) S := by
  have w : WC (ctK cds 1000 (15 + 5) 26 [.lst (ns.map .int)] []) (fun o _ => o = .v (.bl true)) := law38_ok at38 (by decide) h
  obtain ⟨o, S, e, rfl⟩ := wc_out w
  exact ⟨S, e⟩

/-- every def has its meaning -/
theorem all_sem : (defs.all fun d => (d.sem 30 glob shared).isSome && scopeB d) = true := by decide +kernel
end P38
open PySem PySem.W PyProof.Rows in
set_option maxRecDepth 100000 in
set_option maxHeartbeats 0 in
theorem PySem.Challenge.cw_keyriders_k38_errors_of_part_tables_holds : PySem.Challenge.rw_keyriders_k38_errors_of_part_tables.Holds := by
  w_on; o_law; k_head; (case hw => w_witness2)
  k_fill
  refine Kd.walkG (n := 63) (k := 20) (x := "script") (f := Kd.ctK P38.cds 1000 20 26) rfl (by decide) rfl ⟨rfl, by decide, by decide⟩ (fun w h Y => PySem.W.kIn_of Y) (fun w => by rfl) ?F P38.run
  case F =>
    intro w mg fa h KX G hmg
    refine' Kd.at_step (x := "is_integer") (st := P38.top 5) KX G ?a0 ?l0 ?c0 ?k0 ?_
    (case a0 => k_is)
    (case l0 => k_is)
    (case c0 => k_is)
    (case k0 => k_is)
    intro A0
    refine' Kd.at_step (x := "lots_of") (st := P38.top 6) KX G ?a1 ?l1 ?c1 ?k1 ?_
    (case a1 => k_is)
    (case l1 => k_is)
    (case c1 => k_is)
    (case k1 => k_is)
    intro A1
    refine' Kd.at_step (x := "all_lots") (st := P38.top 7) KX G ?a2 ?l2 ?c2 ?k2 ?_
    (case a2 => k_is)
    (case l2 => k_is)
    (case c2 => k_is)
    (case k2 => k_is)
    intro A2
    refine' Kd.at_step (x := "goal") (st := P38.top 9) KX G ?a3 ?l3 ?c3 ?k3 ?_
    (case a3 => k_is)
    (case l3 => k_is)
    (case c3 => k_is)
    (case k3 => k_is)
    intro A3
    refine' Kd.at_step (x := "is_entry") (st := P38.top 10) KX G ?a4 ?l4 ?c4 ?k4 ?_
    (case a4 => k_is)
    (case l4 => k_is)
    (case c4 => k_is)
    (case k4 => k_is)
    intro A4
    refine' Kd.at_step (x := "is_numbered") (st := P38.top 12) KX G ?a5 ?l5 ?c5 ?k5 ?_
    (case a5 => k_is)
    (case l5 => k_is)
    (case c5 => k_is)
    (case k5 => k_is)
    intro A5
    refine' Kd.at_step (x := "part_error") (st := P38.top 13) KX G ?a6 ?l6 ?c6 ?k6 ?_
    (case a6 => k_is)
    (case l6 => k_is)
    (case c6 => k_is)
    (case k6 => k_is)
    intro A6
    refine' Kd.at_step (x := "_law_reel") (st := P38.top 15) KX G ?a7 ?l7 ?c7 ?k7 ?_
    (case a7 => k_is)
    (case l7 => k_is)
    (case c7 => k_is)
    (case k7 => k_is)
    intro A7
    refine' Kd.at_step (x := "_law_draw") (st := P38.top 16) KX G ?a8 ?l8 ?c8 ?k8 ?_
    (case a8 => k_is)
    (case l8 => k_is)
    (case c8 => k_is)
    (case k8 => k_is)
    intro A8
    refine' Kd.at_step (x := "_law_pick") (st := P38.top 17) KX G ?a9 ?l9 ?c9 ?k9 ?_
    (case a9 => k_is)
    (case l9 => k_is)
    (case c9 => k_is)
    (case k9 => k_is)
    intro A9
    refine' Kd.at_step (x := "_law_mixed") (st := P38.top 18) KX G ?a10 ?l10 ?c10 ?k10 ?_
    (case a10 => k_is)
    (case l10 => k_is)
    (case c10 => k_is)
    (case k10 => k_is)
    intro A10
    refine' Kd.at_step (x := "_law_world") (st := P38.top 19) KX G ?a11 ?l11 ?c11 ?k11 ?_
    (case a11 => k_is)
    (case l11 => k_is)
    (case c11 => k_is)
    (case k11 => k_is)
    intro A11
    refine' Kd.at_step (x := "_law_end") (st := P38.top 20) KX G ?a12 ?l12 ?c12 ?k12 ?_
    (case a12 => k_is)
    (case l12 => k_is)
    (case c12 => k_is)
    (case k12 => k_is)
    intro A12
    refine' Kd.at_step (x := "_law_stay") (st := P38.top 21) KX G ?a13 ?l13 ?c13 ?k13 ?_
    (case a13 => k_is)
    (case l13 => k_is)
    (case c13 => k_is)
    (case k13 => k_is)
    intro A13
    refine' Kd.at_step (x := "_law_deed") (st := P38.top 22) KX G ?a14 ?l14 ?c14 ?k14 ?_
    (case a14 => k_is)
    (case l14 => k_is)
    (case c14 => k_is)
    (case k14 => k_is)
    intro A14
    refine' Kd.at_step (x := "_law_deed_table") (st := P38.top 23) KX G ?a15 ?l15 ?c15 ?k15 ?_
    (case a15 => k_is)
    (case l15 => k_is)
    (case c15 => k_is)
    (case k15 => k_is)
    intro A15
    refine' Kd.at_step (x := "_law_then") (st := P38.top 24) KX G ?a16 ?l16 ?c16 ?k16 ?_
    (case a16 => k_is)
    (case l16 => k_is)
    (case c16 => k_is)
    (case k16 => k_is)
    intro A16
    refine' Kd.at_step (x := "_law_product") (st := P38.top 25) KX G ?a17 ?l17 ?c17 ?k17 ?_
    (case a17 => k_is)
    (case l17 => k_is)
    (case c17 => k_is)
    (case k17 => k_is)
    intro A17
    refine' Kd.at_step (x := "_law_turned") (st := P38.top 26) KX G ?a18 ?l18 ?c18 ?k18 ?_
    (case a18 => k_is)
    (case l18 => k_is)
    (case c18 => k_is)
    (case k18 => k_is)
    intro A18
    refine' Kd.at_step (x := "_law_is_entry") (st := P38.top 27) KX G ?a19 ?l19 ?c19 ?k19 ?_
    (case a19 => k_is)
    (case l19 => k_is)
    (case c19 => k_is)
    (case k19 => k_is)
    intro A19
    refine' Kd.at_step (x := "_law_entry") (st := P38.top 28) KX G ?a20 ?l20 ?c20 ?k20 ?_
    (case a20 => k_is)
    (case l20 => k_is)
    (case c20 => k_is)
    (case k20 => k_is)
    intro A20
    refine' Kd.at_step (x := "_law_part") (st := P38.top 29) KX G ?a21 ?l21 ?c21 ?k21 ?_
    (case a21 => k_is)
    (case l21 => k_is)
    (case c21 => k_is)
    (case k21 => k_is)
    intro A21
    refine' Kd.at_step (x := "_law_due") (st := P38.top 30) KX G ?a22 ?l22 ?c22 ?k22 ?_
    (case a22 => k_is)
    (case l22 => k_is)
    (case c22 => k_is)
    (case k22 => k_is)
    intro A22
    refine' Kd.at_step (x := "_law_loose") (st := P38.top 31) KX G ?a23 ?l23 ?c23 ?k23 ?_
    (case a23 => k_is)
    (case l23 => k_is)
    (case c23 => k_is)
    (case k23 => k_is)
    intro A23
    refine' Kd.at_step (x := "_law_odd_item") (st := P38.top 32) KX G ?a24 ?l24 ?c24 ?k24 ?_
    (case a24 => k_is)
    (case l24 => k_is)
    (case c24 => k_is)
    (case k24 => k_is)
    intro A24
    refine' Kd.at_step (x := "_law_spoilt") (st := P38.top 33) KX G ?a25 ?l25 ?c25 ?k25 ?_
    (case a25 => k_is)
    (case l25 => k_is)
    (case c25 => k_is)
    (case k25 => k_is)
    intro A25
    refine' Kd.at_step (x := "law") (st := P38.top 34) KX G ?a26 ?l26 ?c26 ?k26 ?_
    (case a26 => k_is)
    (case l26 => k_is)
    (case c26 => k_is)
    (case k26 => k_is)
    intro A26
    refine' Kd.val_step (x := "MAX_TABLE") KX G ?v0 ?_
    (case v0 => k_is)
    intro V0
    refine' Kd.no_step (x := "len") KX G ?z0 ?_
    (case z0 => k_is)
    intro Z0
    refine' Kd.no_step (x := "tuple") KX G ?z1 ?_
    (case z1 => k_is)
    intro Z1
    refine' Kd.no_step (x := "list") KX G ?z2 ?_
    (case z2 => k_is)
    intro Z2
    refine' Kd.no_step (x := "int") KX G ?z3 ?_
    (case z3 => k_is)
    intro Z3
    refine' Kd.no_step (x := "abs") KX G ?z4 ?_
    (case z4 => k_is)
    intro Z4
    refine' Kd.no_step (x := "sum") KX G ?z5 ?_
    (case z5 => k_is)
    intro Z5
    refine' Kd.no_step (x := "min") KX G ?z6 ?_
    (case z6 => k_is)
    intro Z6
    refine' Kd.no_step (x := "max") KX G ?z7 ?_
    (case z7 => k_is)
    intro Z7
    refine' Kd.no_step (x := "sorted") KX G ?z8 ?_
    (case z8 => k_is)
    intro Z8
    refine' Kd.no_step (x := "repr") KX G ?z9 ?_
    (case z9 => k_is)
    intro Z9
    refine' Kd.no_step (x := "all") KX G ?z10 ?_
    (case z10 => k_is)
    intro Z10
    refine' Kd.no_step (x := "isinstance") KX G ?z11 ?_
    (case z11 => k_is)
    intro Z11
    refine' Kd.no_step (x := "dict") KX G ?z12 ?_
    (case z12 => k_is)
    intro Z12
    refine' Kd.no_step (x := "zip") KX G ?z13 ?_
    (case z13 => k_is)
    intro Z13
    refine' Kd.no_step (x := "range") KX G ?z14 ?_
    (case z14 => k_is)
    intro Z14
    refine' Kd.no_step (x := "enumerate") KX G ?z15 ?_
    (case z15 => k_is)
    intro Z15
    refine' Kd.no_step (x := "bool") KX G ?z16 ?_
    (case z16 => k_is)
    intro Z16
    refine' Kd.no_step (x := "str") KX G ?z17 ?_
    (case z17 => k_is)
    intro Z17
    have D0 : Kd.DefOk (L2.KOf KX) mg ⟨"is_integer", ["value"], ["value"], P38.top 5⟩ [] := by
      refine Kd.defOk_of A0 (fun _ _ _ _ _ _ us hl => match us, hl with | [_], _ => rfl) ?_
      exact fun _ hp => absurd hp List.not_mem_nil
    have D1 : Kd.DefOk (L2.KOf KX) mg ⟨"lots_of", ["n", "size"], ["n", "size", "found", "turn", "longer", "lot", "first", "place"], P38.top 6⟩ [] := by
      refine Kd.defOk_of A1 (fun _ _ _ _ _ _ us hl => match us, hl with | [_, _], _ => rfl) ?_
      exact fun _ hp => absurd hp List.not_mem_nil
    have D2 : Kd.DefOk (L2.KOf KX) mg ⟨"all_lots", ["n"], ["n", "found", "size"], P38.top 7⟩ [] := by
      refine Kd.defOk_of A2 (fun _ _ _ _ _ _ us hl => match us, hl with | [_], _ => rfl) ?_
      exact fun _ hp => absurd hp List.not_mem_nil
    have D3 : Kd.DefOk (L2.KOf KX) mg ⟨"goal", ["n", "entry"], ["n", "entry", "place"], P38.top 9⟩ [] := by
      refine Kd.defOk_of A3 (fun _ _ _ _ _ _ us hl => match us, hl with | [_, _], _ => rfl) ?_
      exact fun _ hp => absurd hp List.not_mem_nil
    have D4 : Kd.DefOk (L2.KOf KX) mg ⟨"is_entry", ["n", "lot", "value"], ["n", "lot", "value", "place", "item"], P38.top 10⟩ [] := by
      refine Kd.defOk_of A4 (fun _ _ _ _ _ _ us hl => match us, hl with | [_, _, _], _ => rfl) ?_
      exact fun _ hp => absurd hp List.not_mem_nil
    have D5 : Kd.DefOk (L2.KOf KX) mg ⟨"is_numbered", ["n", "value"], ["n", "value"], P38.top 12⟩ [] := by
      refine Kd.defOk_of A5 (fun _ _ _ _ _ _ us hl => match us, hl with | [_, _], _ => rfl) ?_
      exact fun _ hp => absurd hp List.not_mem_nil
    have D6 : Kd.DefOk (L2.KOf KX) mg ⟨"part_error", ["n", "value"], ["n", "value", "lots", "place", "goals", "item", "number", "entry"], P38.top 13⟩ [(0, ["value", "n"])] := by
      refine Kd.defOk_of A6 (fun _ _ _ _ _ _ us hl => match us, hl with | [_, _], _ => rfl) ?_
      intro p hp pl hpl kV doc pm an cdv ct us ws h1 h2
      simp only [List.mem_cons, List.not_mem_nil, or_false] at hp
      rcases hp with rfl
      · cases hpl
        exact match us, ws, h1, h2 with | [], [_, _], _, _ => rfl
    have D7 : Kd.DefOk (L2.KOf KX) mg ⟨"_law_reel", ["script"], ["script", "own", "deep", "cells", "stamp"], P38.top 15⟩ [] := by
      refine Kd.defOk_of A7 (fun _ _ _ _ _ _ us hl => match us, hl with | [_], _ => rfl) ?_
      exact fun _ hp => absurd hp List.not_mem_nil
    have D8 : Kd.DefOk (L2.KOf KX) mg ⟨"_law_draw", ["reel", "many"], ["reel", "many", "deep", "mixed", "turn", "own", "count", "cells"], P38.top 16⟩ [] := by
      refine Kd.defOk_of A8 (fun _ _ _ _ _ _ us hl => match us, hl with | [_, _], _ => rfl) ?_
      exact fun _ hp => absurd hp List.not_mem_nil
    have D9 : Kd.DefOk (L2.KOf KX) mg ⟨"_law_pick", ["reel", "things"], ["reel", "things"], P38.top 17⟩ [] := by
      refine Kd.defOk_of A9 (fun _ _ _ _ _ _ us hl => match us, hl with | [_, _], _ => rfl) ?_
      exact fun _ hp => absurd hp List.not_mem_nil
    have D10 : Kd.DefOk (L2.KOf KX) mg ⟨"_law_mixed", ["reel", "things"], ["reel", "things", "left", "found"], P38.top 18⟩ [] := by
      refine Kd.defOk_of A10 (fun _ _ _ _ _ _ us hl => match us, hl with | [_, _], _ => rfl) ?_
      exact fun _ hp => absurd hp List.not_mem_nil
    have D11 : Kd.DefOk (L2.KOf KX) mg ⟨"_law_world", ["n"], ["n", "size", "last", "found", "longer", "keys", "x"], P38.top 19⟩ [] := by
      refine Kd.defOk_of A11 (fun _ _ _ _ _ _ us hl => match us, hl with | [_], _ => rfl) ?_
      exact fun _ hp => absurd hp List.not_mem_nil
    have D12 : Kd.DefOk (L2.KOf KX) mg ⟨"_law_end", ["entry"], ["entry", "x"], P38.top 20⟩ [] := by
      refine Kd.defOk_of A12 (fun _ _ _ _ _ _ us hl => match us, hl with | [_], _ => rfl) ?_
      exact fun _ hp => absurd hp List.not_mem_nil
    have D13 : Kd.DefOk (L2.KOf KX) mg ⟨"_law_stay", ["n", "keys"], ["n", "keys", "x"], P38.top 21⟩ [] := by
      refine Kd.defOk_of A13 (fun _ _ _ _ _ _ us hl => match us, hl with | [_, _], _ => rfl) ?_
      exact fun _ hp => absurd hp List.not_mem_nil
    have D14 : Kd.DefOk (L2.KOf KX) mg ⟨"_law_deed", ["reel", "n", "kind"], ["reel", "n", "kind", "places"], P38.top 22⟩ [] := by
      refine Kd.defOk_of A14 (fun _ _ _ _ _ _ us hl => match us, hl with | [_, _, _], _ => rfl) ?_
      exact fun _ hp => absurd hp List.not_mem_nil
    have D15 : Kd.DefOk (L2.KOf KX) mg ⟨"_law_deed_table", ["world", "deed"], ["world", "deed", "keys", "need", "a", "b", "turns", "found", "entry", "x", "y"], P38.top 23⟩ [] := by
      refine Kd.defOk_of A15 (fun _ _ _ _ _ _ us hl => match us, hl with | [_, _], _ => rfl) ?_
      exact fun _ hp => absurd hp List.not_mem_nil
    have D16 : Kd.DefOk (L2.KOf KX) mg ⟨"_law_then", ["world", "one", "other"], ["world", "one", "other", "found", "entry", "further", "y"], P38.top 24⟩ [] := by
      refine Kd.defOk_of A16 (fun _ _ _ _ _ _ us hl => match us, hl with | [_, _, _], _ => rfl) ?_
      exact fun _ hp => absurd hp List.not_mem_nil
    have D17 : Kd.DefOk (L2.KOf KX) mg ⟨"_law_product", ["reel", "world", "menu", "many"], ["reel", "world", "menu", "many", "found", "turn", "keys"], P38.top 25⟩ [] := by
      refine Kd.defOk_of A17 (fun _ _ _ _ _ _ us hl => match us, hl with | [_, _, _, _], _ => rfl) ?_
      exact fun _ hp => absurd hp List.not_mem_nil
    have D18 : Kd.DefOk (L2.KOf KX) mg ⟨"_law_turned", ["reel", "world", "table"], ["reel", "world", "table", "at", "size", "ends", "n", "found", "turns", "one", "other", "k", "far", "rest", "x", "y", "own"], P38.top 26⟩ [] := by
      refine Kd.defOk_of A18 (fun _ _ _ _ _ _ us hl => match us, hl with | [_, _, _], _ => rfl) ?_
      exact fun _ hp => absurd hp List.not_mem_nil
    have D19 : Kd.DefOk (L2.KOf KX) mg ⟨"_law_is_entry", ["n", "keys", "value"], ["n", "keys", "value", "ends", "x", "y"], P38.top 27⟩ [] := by
      refine Kd.defOk_of A19 (fun _ _ _ _ _ _ us hl => match us, hl with | [_, _, _], _ => rfl) ?_
      exact fun _ hp => absurd hp List.not_mem_nil
    have D20 : Kd.DefOk (L2.KOf KX) mg ⟨"_law_entry", ["reel", "n", "keys", "last"], ["reel", "n", "keys", "last", "rest", "x"], P38.top 28⟩ [] := by
      refine Kd.defOk_of A20 (fun _ _ _ _ _ _ us hl => match us, hl with | [_, _, _, _], _ => rfl) ?_
      exact fun _ hp => absurd hp List.not_mem_nil
    have D21 : Kd.DefOk (L2.KOf KX) mg ⟨"_law_part", ["reel", "world", "table"], ["reel", "world", "table", "sizes", "few", "lack", "lots", "way", "told", "m", "k"], P38.top 29⟩ [] := by
      refine Kd.defOk_of A21 (fun _ _ _ _ _ _ us hl => match us, hl with | [_, _, _], _ => rfl) ?_
      exact fun _ hp => absurd hp List.not_mem_nil
    have D22 : Kd.DefOk (L2.KOf KX) mg ⟨"_law_due", ["world", "value"], ["world", "value", "place", "ends", "n", "lots", "item", "fine"], P38.top 30⟩ [] := by
      refine Kd.defOk_of A22 (fun _ _ _ _ _ _ us hl => match us, hl with | [_, _], _ => rfl) ?_
      exact fun _ hp => absurd hp List.not_mem_nil
    have D23 : Kd.DefOk (L2.KOf KX) mg ⟨"_law_loose", ["reel", "world"], ["reel", "world", "m", "found", "lots", "spots", "ends", "k"], P38.top 31⟩ [] := by
      refine Kd.defOk_of A23 (fun _ _ _ _ _ _ us hl => match us, hl with | [_, _], _ => rfl) ?_
      exact fun _ hp => absurd hp List.not_mem_nil
    have D24 : Kd.DefOk (L2.KOf KX) mg ⟨"_law_odd_item", ["reel", "world", "item"], ["reel", "world", "item", "odd", "number", "entry", "at", "way", "other"], P38.top 32⟩ [] := by
      refine Kd.defOk_of A24 (fun _ _ _ _ _ _ us hl => match us, hl with | [_, _, _], _ => rfl) ?_
      exact fun _ hp => absurd hp List.not_mem_nil
    have D25 : Kd.DefOk (L2.KOf KX) mg ⟨"_law_spoilt", ["reel", "world", "part"], ["reel", "world", "part", "at", "other", "same", "number", "last", "fresh", "items", "way", "k", "item"], P38.top 33⟩ [] := by
      refine Kd.defOk_of A25 (fun _ _ _ _ _ _ us hl => match us, hl with | [_, _, _], _ => rfl) ?_
      exact fun _ hp => absurd hp List.not_mem_nil
    have D26 : Kd.DefOk (L2.KOf KX) mg ⟨"law", ["script"], ["script", "reel", "world", "n", "turn", "table", "part", "value", "shown", "told"], P38.top 34⟩ [] := by
      refine Kd.defOk_of A26 (fun _ _ _ _ _ _ us hl => match us, hl with | [_], _ => rfl) ?_
      exact fun _ hp => absurd hp List.not_mem_nil
    have T := Kd.txt_mk P38.all_sem (Kd.gok_fn rfl rfl rfl D0
      (Kd.gok_fn rfl rfl rfl D1
      (Kd.gok_fn rfl rfl rfl D2
      (Kd.gok_fn rfl rfl rfl D3
      (Kd.gok_fn rfl rfl rfl D4
      (Kd.gok_fn rfl rfl rfl D5
      (Kd.gok_fn rfl rfl rfl D6
      (Kd.gok_fn rfl rfl rfl D7
      (Kd.gok_fn rfl rfl rfl D8
      (Kd.gok_fn rfl rfl rfl D9
      (Kd.gok_fn rfl rfl rfl D10
      (Kd.gok_fn rfl rfl rfl D11
      (Kd.gok_fn rfl rfl rfl D12
      (Kd.gok_fn rfl rfl rfl D13
      (Kd.gok_fn rfl rfl rfl D14
      (Kd.gok_fn rfl rfl rfl D15
      (Kd.gok_fn rfl rfl rfl D16
      (Kd.gok_fn rfl rfl rfl D17
      (Kd.gok_fn rfl rfl rfl D18
      (Kd.gok_fn rfl rfl rfl D19
      (Kd.gok_fn rfl rfl rfl D20
      (Kd.gok_fn rfl rfl rfl D21
      (Kd.gok_fn rfl rfl rfl D22
      (Kd.gok_fn rfl rfl rfl D23
      (Kd.gok_fn rfl rfl rfl D24
      (Kd.gok_fn rfl rfl rfl D25
      (Kd.gok_fn rfl rfl rfl D26
      (Kd.gok_int V0 Kd.gok_nil)))))))))))))))))))))))))))) ?hb
    case hb =>
      intro x hx _
      simp only [Kd.bltNames, List.mem_cons, List.not_mem_nil, or_false] at hx
      rcases hx with rfl | rfl | rfl | rfl | rfl | rfl | rfl | rfl | rfl | rfl | rfl | rfl | rfl | rfl | rfl | rfl | rfl | rfl
      · exact Z0
      · exact Z1
      · exact Z2
      · exact Z3
      · exact Z4
      · exact Z5
      · exact Z6
      · exact Z7
      · exact Z8
      · exact Z9
      · exact Z10
      · exact Z11
      · exact Z12
      · exact Z13
      · exact Z14
      · exact Z15
      · exact Z16
      · exact Z17
    exact Kd.law_mk T 1000 20 26 hmg rfl rfl rfl A26 (fun _ _ _ _ _ _ u => rfl)

