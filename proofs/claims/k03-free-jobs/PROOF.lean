import PyProof.Rows.All
import Wide.All
import OpenK.AllK
import Wide.FinOn
import HandS.ForMost
import HandS.Exc
import HandS.Flow
import HandS.IsInst
import HandS.Deep
import HandS.Gcd
import HandS.Wide
import HandS.Style
import HandS.TupAny
import HandS.NoneIn
import HandS.CallSlots
import HandS.More
import KE.KSortedM
import HandS.ExcOwn
import HandS.Star
import KE.GoesEnum
import HandS.Zip
import HandS.TryMany
import HandS.ExcInit
import HandS.ExcIs
import HandS.ExcField
import HandS.Defaults
import HandS.WordsExc
import HandS.HeadHook4
import HandS.HeadEnd
import HandS.Head2
import HandS.WideBits
import KE.KStateDown
import Lean
import HandS.Words
import HandS.Head0
import HandS.Head1
import HandS.Head3
import PySem.Challenge.RW_waitwide_k03_free_jobs
set_option Elab.async false
set_option linter.all false
set_option maxRecDepth 100000
set_option maxHeartbeats 0
set_option exponentiation.threshold 10000
section
set_option Elab.async false
set_option linter.all false
/-! G1: the small language: values, store, code, evaluator. -/
namespace G
open PySem
abbrev Key := Sum Int Str

/-- a value: tuples are trees, lists and dicts stand in the store -/
inductive D where
  | non | bl (b : Bool) | int (i : Int) | str (s : Str) | tup (xs : List D)
  /-- a list that is read only (the script) -/
  | fl (xs : List D)
  /-- what stands in the store -/
  | ref (n : Nat)
  deriving Inhabited
mutual
def D.beq : D → D → Bool
  | .non, .non => true
  | .bl a, .bl b => a == b
  | .int a, .int b => a == b
  | .str a, .str b => decide (a = b)
  | .tup a, .tup b => D.beqs a b
  | .fl a, .fl b => D.beqs a b
  | .ref a, .ref b => a == b
  | _, _ => false
def D.beqs : List D → List D → Bool
  | [], [] => true
  | a :: r, b :: t => D.beq a b && D.beqs r t
  | _, _ => false
end
mutual
theorem D.beq_eq : ∀ {a b : D}, D.beq a b = true → a = b
  | .non, b, h => by cases b <;> simp [D.beq] at h ⊢
  | .bl x, b, h => by cases b <;> simp [D.beq] at h ⊢; exact h
  | .int x, b, h => by cases b <;> simp [D.beq] at h ⊢; exact h
  | .str x, b, h => by cases b <;> simp [D.beq] at h ⊢; exact h
  | .tup xs, b, h => by
    cases b with
    | tup ys => simp [D.beq] at h; rw [D.beqs_eq h]
    | _ => simp [D.beq] at h
  | .fl xs, b, h => by
    cases b with
    | fl ys => simp [D.beq] at h; rw [D.beqs_eq h]
    | _ => simp [D.beq] at h
  | .ref x, b, h => by cases b <;> simp [D.beq] at h ⊢; exact h
theorem D.beqs_eq : ∀ {a b : List D}, D.beqs a b = true → a = b
  | [], [], _ => rfl
  | [], _ :: _, h => by simp [D.beqs] at h
  | _ :: _, [], h => by simp [D.beqs] at h
  | a :: r, b :: t, h => by
    simp [D.beqs] at h
    rw [D.beq_eq h.1, D.beqs_eq h.2]
end
mutual
theorem D.beq_refl : ∀ a : D, D.beq a a = true
  | .non => rfl
  | .bl x => by simp [D.beq]
  | .int x => by simp [D.beq]
  | .str x => by simp [D.beq]
  | .tup xs => by simp [D.beq, D.beqs_refl xs]
  | .fl xs => by simp [D.beq, D.beqs_refl xs]
  | .ref x => by simp [D.beq]
theorem D.beqs_refl : ∀ a : List D, D.beqs a a = true
  | [] => rfl
  | a :: r => by simp [D.beqs, D.beq_refl a, D.beqs_refl r]
end

/-- what stands in the store -/
inductive MO where
  | lst (xs : List D)
  | dK (kvs : List (Key × D))
  /-- a dict that is walked -/
  | fK (kvs : List (Key × D))
  | dT (kvs : List (List Key × D))
  deriving Inhabited
abbrev Sto := List MO
abbrev Rho := List (Option D)

inductive Res (α : Type) where
  | ok (a : α) (S : Sto)
  /-- an error of the class c, with its field and value -/
  | exc (c : Str) (x : Option (Str × D)) (S : Sto)
  | fail
def Res.bind {α β : Type} (r : Res α) (f : α → Sto → Res β) : Res β :=
  match r with
  | .ok a S => f a S
  | .exc c x S => .exc c x S
  | .fail => .fail
/-- no error may come out -/
def Res.nox {α : Type} : Res α → Res α
  | .ok a S => .ok a S
  | _ => .fail
/-- what an operation gives: a value and the store, or it is not taken -/
abbrev Op (α : Type) := Option (α × Sto)
def Res.of {α : Type} (o : Op α) : Res α := match o with
  | some (a, S) => .ok a S
  | none => .fail

/-! ### code -/
inductive CP where
  | nm (i : Nat)
  | tup (ps : List CP)
mutual
inductive CE where
  | var (i : Nat)
  | cst (d : D)
  | glob (x : Str)
  | bin (op : Operator) (a b : CE)
  | neg (a : CE)
  | not (a : CE)
  | cmp (op : CmpOp) (a b : CE)
  | chn (o1 o2 : CmpOp) (a b c : CE)
  | and (es : CEs)
  | or (es : CEs)
  | ite (c a b : CE)
  | call (f : Str) (es : CEs)
  /-- f(k1=e1, ..): ks the keywords' names -/
  | callk (f : Str) (ks : List Str) (es : CEs)
  | bi (f : String) (es : CEs)
  | mt (m : String) (o : CE) (es : CEs)
  | ix (a i : CE)
  | sl (a : CE) (lo hi : CO)
  | rev (a : CE)
  | lst (es : CEs)
  | tup (es : CEs)
  /-- a display of a dict: k1, v1, k2, v2 .. -/
  | dct (es : CEs)
  /-- [elt for g in it if ifs]; vs the slots of its own names -/
  | lc (g : CP) (it : CI) (ifs : CEs) (vs : List Nat) (elt : CE)
  | isi (a : CE) (ts : List String)
inductive CEs where
  | nil
  | cons (star : Bool) (e : CE) (r : CEs)
inductive CO where
  | none
  | some (e : CE)
inductive CI where
  | seq (e : CE)
  | rng1 (a : CE)
  | rng2 (a b : CE)
  | enum (e : CE)
  | zip (a b : CE)
end
inductive CT where
  | nm (i : Nat)
  | ix (o i : CE)
  | tup (ts : List CT)
/-- an except suite: returns a display of these -/
inductive CH where
  /-- a written value -/
  | cst (d : D)
  /-- e.f -/
  | fld (f : Str)
  /-- isinstance(e, C), .. joined by and -/
  | isi (cs : List Str)
mutual
inductive CS where
  | asg (t : CT) (e : CE)
  | expr (e : CE)
  | ret (e : CE)
  | retN
  | ife (c : CE) (a b : CB)
  | for (g : CP) (it : CI) (b : CB)
  | whl (c : CE) (b : CB)
  | raise (c : Str) (es : CEs)
  | tryc (b : CB) (hs : List (Str × Nat × List CH))
  | pass | brk | cont
inductive CB where
  | nil
  | cons (s : CS) (r : CB)
end

/-! ### data -/
def mapO {α β : Type} (f : α → Option β) : List α → Option (List β)
  | [] => some []
  | x :: xs => match f x, mapO f xs with
    | some d, some ds => some (d :: ds)
    | _, _ => none
/-- the data that a value stands for -/
def datD (S : Sto) : Nat → D → Option PyData
  | _, .non => some .none
  | _, .bl b => some (.bool b)
  | _, .int i => some (.int i)
  | _, .str s => some (.str s)
  | 0, .tup _ => none
  | 0, .fl _ => none
  | 0, .ref _ => none
  | n + 1, .tup xs => (mapO (datD S n) xs).map .tuple
  | n + 1, .fl xs => (mapO (datD S n) xs).map .list
  | n + 1, .ref k => match S[k]? with
    | some (.lst xs) => (mapO (datD S n) xs).map .list
    | _ => none
def lstAt (S : Sto) (k : Nat) : Option (List D) := match S[k]? with
  | some (.lst xs) => some xs
  | _ => none
/-- the items of a list or a tuple -/
def seqD (S : Sto) : D → Option (List D)
  | .tup xs => some xs
  | .fl xs => some xs
  | .ref k => lstAt S k
  | _ => none
/-- a dict with keys that are ints and texts: its pairs -/
def dicK (S : Sto) (k : Nat) : Option (List (Key × D)) := match S[k]? with
  | some (.dK kvs) => some kvs
  | some (.fK kvs) => some kvs
  | _ => none
def eqD (S : Sto) (a b : D) : Option Bool := match datD S 60 a, datD S 60 b with
  | some x, some y => if SeqAt.shaped x && SeqAt.shaped y then some (PyData.eqv x y) else none
  | _, _ => none
def truD (S : Sto) : D → Option Bool
  | .non => some false
  | .bl b => some b
  | .int i => some (i != 0)
  | .str s => if s.length ≤ 16000000 then some ((s.length : Int) != 0) else none
  | .tup xs => some (!xs.isEmpty)
  | .fl xs => some (!xs.isEmpty)
  | .ref k => match S[k]? with
    | some (.lst xs) => some (!xs.isEmpty)
    | some (.dK kvs) => some (!kvs.isEmpty)
    | _ => none
def tyD (S : Sto) : D → Option String
  | .non => some "NoneType"
  | .bl _ => some "bool"
  | .int _ => some "int"
  | .str _ => some "str"
  | .tup _ => some "tuple"
  | .fl _ => some "list"
  | .ref k => match S[k]? with
    | some (.lst _) => some "list"
    | some (.dK _) => some "dict"
    | some (.fK _) => some "dict"
    | some (.dT _) => some "dict"
    | _ => none
def isTy (t T : String) : Bool := t == T || (t == "bool" && T == "int")
def keyD : D → Option Key
  | .int i => some (.inl i)
  | .str s => some (.inr s)
  | _ => none
def keyV : Key → D
  | .inl i => .int i
  | .inr s => .str s
def keyTD : D → Option (List Key)
  | .tup xs => mapO keyD xs
  | _ => none
def getK {κ : Type} [DecidableEq κ] (kvs : List (κ × D)) (k : κ) : Option D := (kvs.find? fun p => decide (p.1 = k)).map (·.2)
def putK {κ : Type} [DecidableEq κ] (kvs : List (κ × D)) (k : κ) (v : D) : List (κ × D) :=
  if (kvs.any fun kv => decide (kv.1 = k)) = true then kvs.map (fun kv => if kv.1 = k then (kv.1, v) else kv) else kvs ++ [(k, v)]
/-- the largest size of an int's product that is taken, in bits -/
def mulOk (i j : Int) : Bool := i.natAbs.log2 + j.natAbs.log2 < 1000000
def divOk (j : Int) : Bool := j != 0 && j.natAbs.log2 < 9000
def powOk (i j : Int) : Bool := 0 ≤ j && j ≤ 1000000 && i.natAbs < 2 ^ 64
def ixN' (n : Nat) (i : Int) : Option Nat := if 0 ≤ i then (if i < n then some i.toNat else none) else if -(n : Int) ≤ i then some (i + n).toNat else none
def atD {α : Type} (xs : List α) (i : Int) : Option α := (ixN' xs.length i).bind fun j => xs[j]?
def sIx' (n d : Nat) : Option Int → Nat
  | none => d
  | some v => if v < 0 then (v + (n : Int)).toNat else min v.toNat n
def cutD {α : Type} (xs : List α) (lo hi : Option Int) : List α := (xs.drop (sIx' xs.length 0 lo)).take (sIx' xs.length xs.length hi - sIx' xs.length 0 lo)
def intD : D → Option Int
  | .int i => some i
  | _ => none
def blD : D → Option Bool
  | .bl i => some i
  | _ => none
/-- a new object -/
def newR (o : MO) (S : Sto) : Op D := some (.ref S.length, S ++ [o])
def newL (xs : List D) (S : Sto) : Op D := if xs.length ≤ 16000000 then newR (.lst xs) S else none
def newT (xs : List D) (S : Sto) : Op D := if xs.length ≤ 16000000 then some (.tup xs, S) else none

/-! ### operators -/
def binD (op : Operator) (a b : D) (S : Sto) : Op D := match op, a, b with
  | .Add, .int i, .int j => some (.int (i + j), S)
  | .Add, .str i, .str j => if i.length + j.length ≤ 16000000 then some (.str (i ++ j), S) else none
  | .Add, .tup xs, .tup ys => newT (xs ++ ys) S
  | .Add, .ref m, .ref n => match lstAt S m, lstAt S n with
    | some xs, some ys => newL (xs ++ ys) S
    | _, _ => none
  | .Sub, .int i, .int j => some (.int (i - j), S)
  | .Mult, .int i, .int j => if mulOk i j then some (.int (i * j), S) else none
  | .Mult, .ref m, .int k => match lstAt S m with
    | some xs => if k ≤ 1000000 && -1000000 ≤ k then newL (List.replicate k.toNat xs).flatten S else none
    | _ => none
  | .FloorDiv, .int i, .int j => if divOk j then some (.int (i.fdiv j), S) else none
  | .Mod, .int i, .int j => if j != 0 then some (.int (i.fmod j), S) else none
  | .Pow, .int i, .int j => if powOk i j then some (.int (i ^ j.toNat), S) else none
  | .LShift, .int i, .int j => if powOk i j then some (.int (i * 2 ^ j.toNat), S) else none
  | .RShift, .int i, .int j => if 0 ≤ j then some (.int (i / 2 ^ j.toNat), S) else none
  | .BitAnd, .int i, .int j => some (.int (Builtin.bitAnd i j), S)
  | .BitOr, .int i, .int j => some (.int (Builtin.bitOr i j), S)
  | .BitXor, .int i, .int j => some (.int (Builtin.bitXor i j), S)
  | _, _, _ => none
/-- x in a list or tuple of these -/
def inL (mk : List PyData → PyData) (S : Sto) (x : D) (ys : List D) : Option Bool := match datD S 60 x, mapO (datD S 59) ys with
  | some d, some ds => if SeqAt.shaped d && SeqAt.shaped (mk ds) then some (ds.any fun z => PyData.eqv z d) else none
  | _, _ => none
def inD (S : Sto) (x y : D) : Option Bool := match y with
  | .ref k => match S[k]? with
    | some (.dK kvs) => (keyD x).map fun q => (getK kvs q).isSome
    | some (.fK kvs) => (keyD x).map fun q => (getK kvs q).isSome
    | some (.lst ys) => inL .list S x ys
    | _ => none
  | .tup ys => inL .tuple S x ys
  | _ => none
def isD (a b : D) : Option Bool := match a, b with
  | .bl i, .bl j => some (decide (i = j))
  | .non, .non => some true
  | .bl _, .non | .int _, .non | .str _, .non | .tup _, .non | .fl _, .non | .ref _, .non => some false
  | _, _ => none
def cmpO (op : CmpOp) (a b : D) (S : Sto) : Option Bool := match op with
  | .Eq => eqD S a b
  | .NotEq => (eqD S a b).map not
  | .Lt => match a, b with
    | .int i, .int j => some (decide (i < j))
    | .tup xs, .tup ys => match mapO intD xs, mapO intD ys with
      | some ns, some ms => some (HT.lexLt ns ms)
      | _, _ => none
    | _, _ => none
  | .LtE => match a, b with
    | .int i, .int j => some (decide (i ≤ j))
    | _, _ => none
  | .Gt => match a, b with
    | .int i, .int j => some (decide (j < i))
    | _, _ => none
  | .GtE => match a, b with
    | .int i, .int j => some (decide (j ≤ i))
    | _, _ => none
  | .Is => isD a b
  | .IsNot => (isD a b).map not
  | .In => inD S a b
  | .NotIn => (inD S a b).map not
def cmpD (op : CmpOp) (a b : D) (S : Sto) : Op D := (cmpO op a b S).map fun k => (.bl k, S)
def negD (a : D) (S : Sto) : Op D := match a with
  | .int i => some (.int (-i), S)
  | _ => none
def ixL (xs : List D) (i : D) (S : Sto) : Op D := match i with
  | .int j => (atD xs j).map fun d => (d, S)
  | _ => none
def ixD (a i : D) (S : Sto) : Op D := match a with
  | .ref k => match S[k]? with
    | some (.lst xs) => ixL xs i S
    | some (.dK kvs) => ((keyD i).bind fun q => getK kvs q).map fun d => (d, S)
    | some (.fK kvs) => ((keyD i).bind fun q => getK kvs q).map fun d => (d, S)
    | _ => none
  | .tup xs => ixL xs i S
  | .fl xs => ixL xs i S
  | .str s => match i with
    | .int j => if s.length ≤ 16000000 then (atD s.cps.toList j).map fun c => (D.str ⟨#[c]⟩, S) else none
    | _ => none
  | _ => none
def slD (a : D) (lo hi : Option Int) (S : Sto) : Op D := match a with
  | .ref k => match lstAt S k with
    | some xs => newL (cutD xs lo hi) S
    | none => none
  | .fl xs => newL (cutD xs lo hi) S
  | .tup xs => some (.tup (cutD xs lo hi), S)
  | .str s => if s.length ≤ 16000000 then some (.str ⟨(cutD s.cps.toList lo hi).toArray⟩, S) else none
  | _ => none
def revD (a : D) (S : Sto) : Op D := match a with
  | .ref k => match lstAt S k with
    | some xs => newL xs.reverse S
    | none => none
  | _ => none
/-- o[i] = v -/
def setD (o i v : D) (S : Sto) : Op Unit := match o with
  | .ref k => match S[k]? with
    | some (.lst xs) => match i with
      | .int j => (ixN' xs.length j).map fun m => ((), S.set k (.lst (xs.set m v)))
      | _ => none
    | some (.dK kvs) => (keyD i).bind fun q => if kvs.length < 16000000 then some ((), S.set k (.dK (putK kvs q v))) else none
    | _ => none
  | _ => none
/-! ### built-ins -/
def lenD (S : Sto) : D → Option Nat
  | .tup xs => some xs.length
  | .fl xs => some xs.length
  | .str s => if s.length ≤ 16000000 then some s.length else none
  | .ref k => match S[k]? with
    | some (.lst xs) => some xs.length
    | some (.dK kvs) => some kvs.length
    | some (.fK kvs) => some kvs.length
    | _ => none
  | _ => none
/-- a pair of a key and a value -/
def pairD : D → Option (Key × D)
  | .tup [k, v] => (keyD k).map fun q => (q, v)
  | _ => none
def mergeD (kvs : List (Key × D)) : List (Key × D) := kvs.foldl (fun acc p => putK acc p.1 p.2) []
def sortI (ns : List Int) : List Int := ns.mergeSort (fun a b => decide (a ≤ b))
def bi1 (f : String) (x : D) (S : Sto) : Op D := match f with
  | "len" => (lenD S x).map fun n => (.int n, S)
  | "abs" => (intD x).map fun i => (.int (if i < 0 then -i else i), S)
  | "int" => match x with
    | .int i => some (.int i, S)
    | .bl b => some (.int (if b then 1 else 0), S)
    | _ => none
  | "all" => match x with
    | .ref k => ((lstAt S k).bind (mapO blD)).map fun bs => (.bl (bs.all id), S)
    | _ => none
  | "any" => match x with
    | .ref k => ((lstAt S k).bind (mapO blD)).map fun bs => (.bl (bs.any id), S)
    | _ => none
  | "sum" => match x with
    | .ref k => ((lstAt S k).bind (mapO intD)).map fun ns => (.int ns.sum, S)
    | _ => none
  | "list" => (seqD S x).bind fun xs => newL xs S
  | "tuple" => (seqD S x).bind fun xs => newT xs S
  | "dict" => match x with
    | .ref k => ((lstAt S k).bind (mapO pairD)).bind fun kvs => newR (.dK (mergeD kvs)) S
    | _ => none
  | "sorted" => match x with
    | .ref k => match S[k]? with
      | some (.dK []) => newR (.lst []) S
      | some (.lst xs) => (mapO intD xs).bind fun ns => if ns.length < 64 then newL ((sortI ns).map .int) S else none
      | _ => none
    | _ => none
  | _ => none
def bi2 (f : String) (x y : D) (S : Sto) : Op D := match f, x, y with
  | "max", .int i, .int j => some (.int (if j > i then j else i), S)
  | "min", .int i, .int j => some (.int (if j < i then j else i), S)
  | "gcd", .int a, .int b => some (.int ((Nat.gcd a.natAbs b.natAbs : Nat) : Int), S)
  | _, _, _ => none
def biD (f : String) (vs : List D) (S : Sto) : Op D := match vs with
  | [x] => bi1 f x S
  | [x, y] => bi2 f x y S
  | _ => none
def isLst (S : Sto) : D → Bool
  | .ref k => (lstAt S k).isSome
  | _ => false
def mtD (m : String) (o : D) (vs : List D) (S : Sto) : Op D := match m, o, vs with
  | "append", .ref k, [x] => (lstAt S k).bind fun xs => if xs.length < 16000000 then some (.non, S.set k (.lst (xs ++ [x]))) else none
  | "pop", .ref k, [.int i] => (lstAt S k).bind fun xs => (ixN' xs.length i).bind fun j => (xs[j]?).bind fun y => if xs.length < 16000000 then some (y, S.set k (.lst (xs.eraseIdx j))) else none
  | _, _, _ => none
/-- k1, v1, k2, v2 .. -/
def pairsD : List D → Option (List (Key × D))
  | [] => some []
  | [_] => none
  | k :: v :: r => match keyD k, pairsD r with
    | some q, some ps => some ((q, v) :: ps)
    | _, _ => none

/-! ### what is walked -/
inductive Chk where
  | seq (k : Nat) (xs : List D)
  | dic (k : Nat) (ks : List Key)
structure It where
  /-- what must stand as it is -/
  chk : List Chk
  items : List D
def Chk.ok (S : Sto) : Chk → Bool
  | .seq k xs => match lstAt S k with
    | some ys => D.beqs ys xs
    | none => false
  | .dic k ks => match S[k]? with
    | some (.fK kvs) => decide (kvs.map (·.1) = ks)
    | _ => false
def It.ok (J : It) (S : Sto) : Bool := J.chk.all (Chk.ok S)
def seqIt (S : Sto) (d : D) : Option It := match d with
  | .tup xs => some ⟨[], xs⟩
  | .fl xs => some ⟨[], xs⟩
  | .ref k => match S[k]? with
    | some (.lst xs) => some ⟨[.seq k xs], xs⟩
    | some (.fK kvs) => some ⟨[.dic k (kvs.map (·.1))], kvs.map fun p => keyV p.1⟩
    | _ => none
  | _ => none
/-- of lists and tuples alone -/
def seqIt' (S : Sto) (d : D) : Option It := match d with
  | .tup xs => some ⟨[], xs⟩
  | .ref k => (lstAt S k).map fun xs => ⟨[.seq k xs], xs⟩
  | _ => none
def rngD (lo hi : Int) : List D := (List.range (hi - lo).toNat).map fun (i : Nat) => D.int (lo + (i : Int))
def rngOk (i : Int) : Bool := -(2 ^ 62) ≤ i && i < 2 ^ 62
def enumFrom (n : Nat) : List D → List D
  | [] => []
  | x :: xs => .tup [.int n, x] :: enumFrom (n + 1) xs
def zipD : List D → List D → List D
  | x :: xs, y :: ys => .tup [x, y] :: zipD xs ys
  | _, _ => []
/-- two lists, or two tuples -/
def zipIt (S : Sto) (x y : D) : Option It := match x, y with
  | .tup xs, .tup ys => some ⟨[], zipD xs ys⟩
  | .ref k, .ref l => match lstAt S k, lstAt S l with
    | some xs, some ys => some ⟨[.seq k xs, .seq l ys], zipD xs ys⟩
    | _, _ => none
  | _, _ => none
mutual
/-- a target of names -/
def asgP (S : Sto) : CP → D → Rho → Option Rho
  | .nm i, d, ρ => some (ρ.set i (some d))
  | .tup ps, d, ρ => match seqD S d with
    | some ds => asgPs S ps ds ρ
    | none => none
def asgPs (S : Sto) : List CP → List D → Rho → Option Rho
  | [], [], ρ => some ρ
  | p :: ps, d :: ds, ρ => match asgP S p d ρ with
    | some ρ' => asgPs S ps ds ρ'
    | none => none
  | _, _, _ => none
end
def wipeR (ρ : Rho) : List Nat → Rho
  | [] => ρ
  | v :: vs => (wipeR ρ vs).set v none

/-! ### the evaluator -/
/-- what the code leans on: the own defs, the constants of the top -/
structure Par where
  F : Str → List D → Sto → Res D
  /-- by keywords: the names -/
  FK : Str → List Str → List D → Sto → Res D
  gl : Str → Option D
  w : Nat
/-- the dict at k is locked -/
def lockS (k : Nat) (S : Sto) : Option Sto := match S[k]? with
  | some (.dK kvs) => some (S.set k (.fK kvs))
  | _ => none
def unlockS (k : Nat) (d : D) (S : Sto) : Op D := match S[k]? with
  | some (.fK kvs) => some (d, S.set k (.dK kvs))
  | _ => none
/-- a walk over a name that holds a dict -/
def dictAt (it : CI) (ρ : Rho) (S : Sto) : Option Nat := match it with
  | .seq (.var i) => match ρ[i]? with
    | some (some (.ref k)) => match S[k]? with
      | some (.dK _) => some k
      | _ => none
    | _ => none
  | _ => none
/-- turns of a comprehension -/
def lcL (J : It) (turn : D → Sto → Res (Option D)) : List D → List D → Sto → Res (List D)
  | [], acc, S => if J.ok S then .ok acc S else .fail
  | x :: xs, acc, S => if J.ok S then (turn x S).bind fun o S => match o with
      | some y => if acc.length < 16000000 then lcL J turn xs (acc ++ [y]) S else .fail
      | none => lcL J turn xs acc S
    else .fail
/-- a whole comprehension: from its iterator, its turn -/
def lcA (it : Sto → Res It) (turn : D → Sto → Res (Option D)) (S : Sto) : Res D := (it S).bind fun J S => (lcL J turn J.items [] S).bind fun ys S => .of (newR (.lst ys) S)
def lcD (o : Option Nat) (body : Sto → Res D) (S : Sto) : Res D := match o with
  | none => body S
  | some k => match lockS k S with
    | some S1 => (body S1).nox.bind fun d S2 => .of (unlockS k d S2)
    | none => .fail
def truR (r : Res D) : Res Bool := r.bind fun d S => .of ((truD S d).map fun b => (b, S))
/-- an expression as a value, as a test -/
structure Ev where
  v : Rho → Sto → Res D
  t : Rho → Sto → Res Bool
def Ev.of (v : Rho → Sto → Res D) : Ev := ⟨v, fun ρ S => truR (v ρ S)⟩
mutual
def evB (P : Par) : CE → Ev
  | .var i => .of fun ρ S => match ρ[i]? with
    | some (some d) => .ok d S
    | _ => .fail
  | .cst d => .of fun _ S => .ok d S
  | .glob x => .of fun _ S => match P.gl x with
    | some d => .ok d S
    | none => .fail
  | .bin op a b => .of fun ρ S => ((evB P a).v ρ S).bind fun x S => ((evB P b).v ρ S).bind fun y S => .of (binD op x y S)
  | .neg a => .of fun ρ S => ((evB P a).v ρ S).bind fun x S => .of (negD x S)
  | .not a => ⟨fun ρ S => (truR ((evB P a).v ρ S)).bind fun b S => .ok (.bl (!b)) S, fun ρ S => ((evB P a).t ρ S).bind fun b S => .ok (!b) S⟩
  | .cmp op a b => .of fun ρ S => ((evB P a).v ρ S).bind fun x S => ((evB P b).v ρ S).bind fun y S => .of (cmpD op x y S)
  | .chn o1 o2 a b c => .of fun ρ S => ((evB P a).v ρ S).bind fun x S => ((evB P b).v ρ S).bind fun y S => match cmpO o1 x y S with
    | some true => ((evB P c).v ρ S).bind fun z S => .of (cmpD o2 y z S)
    | some false => .ok (.bl false) S
    | none => .fail
  | .and es => ⟨evAnd P es, evAll P es⟩
  | .or es => ⟨evOr P es, evAny P es⟩
  | .ite c a b => ⟨fun ρ S => ((evB P c).t ρ S).bind fun k S => if k then (evB P a).v ρ S else (evB P b).v ρ S, fun ρ S => ((evB P c).t ρ S).bind fun k S => if k then (evB P a).t ρ S else (evB P b).t ρ S⟩
  | .call f es => .of fun ρ S => (evEs P es ρ S).bind fun vs S => P.F f vs S
  | .callk f ks es => .of fun ρ S => (evEs P es ρ S).bind fun vs S => P.FK f ks vs S
  | .bi f es => .of fun ρ S => (evEs P es ρ S).bind fun vs S => .of (biD f vs S)
  | .mt m o es => .of fun ρ S => ((evB P o).v ρ S).bind fun x S => if isLst S x then (evEs P es ρ S).bind fun vs S => .of (mtD m x vs S) else .fail
  | .ix a i => .of fun ρ S => ((evB P a).v ρ S).bind fun x S => ((evB P i).v ρ S).bind fun y S => .of (ixD x y S)
  | .sl a lo hi => .of fun ρ S => ((evB P a).v ρ S).bind fun x S => (evO P lo ρ S).bind fun l S => (evO P hi ρ S).bind fun h S => .of (slD x l h S)
  | .rev a => .of fun ρ S => ((evB P a).v ρ S).bind fun x S => .of (revD x S)
  | .lst es => .of fun ρ S => (evEs P es ρ S).bind fun vs S => .of (newL vs S)
  | .tup es => .of fun ρ S => (evEs P es ρ S).bind fun vs S => .of (newT vs S)
  | .dct es => .of fun ρ S => (evEs P es ρ (S ++ [.dK []])).bind fun vs S2 => match S2[S.length]? with
    | some (.dK []) => match pairsD vs with
      | some kvs => if kvs.length ≤ 15 then .ok (.ref S.length) (S2.set S.length (.dK (mergeD kvs))) else .fail
      | none => .fail
    | _ => .fail
  | .lc g it ifs vs elt => .of fun ρ S => lcD (dictAt it ρ S) (lcA (evI P it ρ) fun x S => Res.nox (match asgP S g x (wipeR ρ vs) with
        | some ρ' => (evIfs P ifs ρ' S).bind fun b S => if b then ((evB P elt).v ρ' S).bind fun y S => .ok (some y) S else .ok none S
        | none => .fail)) S
  | .isi a ts => .of fun ρ S => ((evB P a).v ρ S).bind fun x S => .of ((tyD S x).map fun t => (.bl (ts.any (isTy t)), S))
def evAnd (P : Par) : CEs → Rho → Sto → Res D
  | .nil, _, _ => .fail
  | .cons _ e r, ρ, S => match r with
    | .nil => (evB P e).v ρ S
    | .cons .. => ((evB P e).v ρ S).bind fun x S => match truD S x with
      | some true => evAnd P r ρ S
      | some false => .ok x S
      | none => .fail
def evOr (P : Par) : CEs → Rho → Sto → Res D
  | .nil, _, _ => .fail
  | .cons _ e r, ρ, S => match r with
    | .nil => (evB P e).v ρ S
    | .cons .. => ((evB P e).v ρ S).bind fun x S => match truD S x with
      | some false => evOr P r ρ S
      | some true => .ok x S
      | none => .fail
def evAll (P : Par) : CEs → Rho → Sto → Res Bool
  | .nil, _, S => .ok true S
  | .cons _ e r, ρ, S => ((evB P e).t ρ S).bind fun k S => if k then evAll P r ρ S else .ok false S
def evAny (P : Par) : CEs → Rho → Sto → Res Bool
  | .nil, _, S => .ok false S
  | .cons _ e r, ρ, S => ((evB P e).t ρ S).bind fun k S => if k then .ok true S else evAny P r ρ S
/-- a comprehension's tests -/
def evIfs (P : Par) : CEs → Rho → Sto → Res Bool
  | .nil, _, S => .ok true S
  | .cons _ e r, ρ, S => ((evB P e).t ρ S).bind fun k S => if k then evIfs P r ρ S else .ok false S
def evEs (P : Par) : CEs → Rho → Sto → Res (List D)
  | .nil, _, S => .ok [] S
  | .cons false e r, ρ, S => ((evB P e).v ρ S).bind fun x S => (evEs P r ρ S).bind fun xs S => .ok (x :: xs) S
  | .cons true e r, ρ, S => ((evB P e).v ρ S).bind fun x S => match seqD S x with
    | some ys => (evEs P r ρ S).bind fun xs S => .ok (ys ++ xs) S
    | none => .fail
def evO (P : Par) : CO → Rho → Sto → Res (Option Int)
  | .none, _, S => .ok none S
  | .some e, ρ, S => ((evB P e).v ρ S).bind fun x S => .of ((intD x).map fun i => (some i, S))
def evI (P : Par) : CI → Rho → Sto → Res It
  | .seq e, ρ, S => ((evB P e).v ρ S).bind fun x S => .of ((seqIt S x).map fun J => (J, S))
  | .rng1 a, ρ, S => ((evB P a).v ρ S).bind fun x S => .of ((intD x).bind fun j => if rngOk j then some (⟨[], rngD 0 j⟩, S) else none)
  | .rng2 a b, ρ, S => ((evB P a).v ρ S).bind fun x S => ((evB P b).v ρ S).bind fun y S => .of (match x, y with
    | .int i, .int j => if rngOk i && rngOk j then some (⟨[], rngD i j⟩, S) else none
    | _, _ => none)
  | .enum e, ρ, S => ((evB P e).v ρ S).bind fun x S => .of ((seqIt' S x).map fun J => (⟨J.chk, enumFrom 0 J.items⟩, S))
  | .zip a b, ρ, S => ((evB P a).v ρ S).bind fun x S => ((evB P b).v ρ S).bind fun y S => .of ((zipIt S x y).map fun J => (J, S))
end
def evE (P : Par) (c : CE) (ρ : Rho) (S : Sto) : Res D := (evB P c).v ρ S
def evT (P : Par) (c : CE) (ρ : Rho) (S : Sto) : Res Bool := (evB P c).t ρ S
inductive Fl where
  | next | brk | cont
  | ret (d : D)
inductive RS where
  | fl (f : Fl) (ρ : Rho) (S : Sto)
  | exc (c : Str) (x : Option (Str × D)) (ρ : Rho) (S : Sto)
  | fail
def Res.rs {α : Type} (r : Res α) (ρ : Rho) (k : α → Sto → RS) : RS := match r with
  | .ok a S => k a S
  | .exc c x S => .exc c x ρ S
  | .fail => .fail
/-- goes on where a statement goes on -/
def RS.seq (r : RS) (k : Rho → Sto → RS) : RS := match r with
  | .fl .next ρ S => k ρ S
  | r => r
def forL (J : It) (turn : D → Rho → Sto → RS) : List D → Rho → Sto → RS
  | [], ρ, S => if J.ok S then .fl .next ρ S else .fail
  | x :: xs, ρ, S => if J.ok S then (match turn x ρ S with
      | .fl .next ρ S => forL J turn xs ρ S
      | .fl .cont ρ S => forL J turn xs ρ S
      | .fl .brk ρ S => .fl .next ρ S
      | r => r)
    else .fail
def whlL (test : Rho → Sto → Res Bool) (turn : Rho → Sto → RS) : Nat → Rho → Sto → RS
  | 0, _, _ => .fail
  | n + 1, ρ, S => (test ρ S).rs ρ fun k S => if k then (match turn ρ S with
      | .fl .next ρ S => whlL test turn n ρ S
      | .fl .cont ρ S => whlL test turn n ρ S
      | .fl .brk ρ S => .fl .next ρ S
      | r => r)
    else .fl .next ρ S
mutual
def asgT (P : Par) : CT → D → Rho → Sto → Res Rho
  | .nm i, d, ρ, S => .ok (ρ.set i (some d)) S
  | .ix o i, d, ρ, S => (evE P o ρ S).bind fun x S => (evE P i ρ S).bind fun y S => (Res.of (setD x y d S)).bind fun _ S => .ok ρ S
  | .tup ts, d, ρ, S => match seqD S d with
    | some ds => asgTs P ts ds ρ S
    | none => .fail
def asgTs (P : Par) : List CT → List D → Rho → Sto → Res Rho
  | [], [], ρ, S => .ok ρ S
  | t :: ts, d :: ds, ρ, S => (asgT P t d ρ S).bind fun ρ S => asgTs P ts ds ρ S
  | _, _, _, _ => .fail
end
/-- a suite's answer; sub: is the first error class the second one, or below it -/
def evH (sub : Str → Str → Option Bool) (c : Str) (x : Option (Str × D)) : List CH → Option (List D)
  | [] => some []
  | .cst d :: r => (evH sub c x r).map (d :: ·)
  | .fld f :: r => match x with
    | some (g, d) => if g = f then (evH sub c x r).map (d :: ·) else none
    | none => none
  | .isi cs :: r => match mapO (sub c) cs with
    | some bs => (evH sub c x r).map (.bl (bs.all id) :: ·)
    | none => none
def catchL (sub : Str → Str → Option Bool) (c : Str) (x : Option (Str × D)) (ρ : Rho) (S : Sto) : List (Str × Nat × List CH) → RS
  | [] => .exc c x ρ S
  | (k, i, h) :: r => match sub c k with
    | some true => if i < ρ.length && x.isSome then (match evH sub c x h with
      | some ds => (Res.of (newL ds S)).rs ρ fun d S => .fl (.ret d) ρ S
      | none => .fail) else .fail
    | some false => catchL sub c x ρ S r
    | none => .fail
structure Par2 extends Par where
  /-- the error classes: the field -/
  cls : Str → Option (Option Str)
  sub : Str → Str → Option Bool
mutual
def exS (P : Par2) : CS → Rho → Sto → RS
  | .asg t e, ρ, S => (evE P.toPar e ρ S).rs ρ fun d S => (asgT P.toPar t d ρ S).nox.rs ρ fun ρ S => .fl .next ρ S
  | .expr e, ρ, S => (evE P.toPar e ρ S).rs ρ fun _ S => .fl .next ρ S
  | .ret e, ρ, S => (evE P.toPar e ρ S).rs ρ fun d S => .fl (.ret d) ρ S
  | .retN, ρ, S => .fl (.ret .non) ρ S
  | .ife c a b, ρ, S => (evT P.toPar c ρ S).rs ρ fun k S => if k then exB P a ρ S else exB P b ρ S
  | .for g it b, ρ, S => (evI P.toPar it ρ S).rs ρ fun J S => forL J (fun x ρ S => match asgP S g x ρ with
      | some ρ' => exB P b ρ' S
      | none => .fail) J.items ρ S
  | .whl c b, ρ, S => whlL (evT P.toPar c) (exB P b) P.w ρ S
  | .raise c es, ρ, S => (evEs P.toPar es ρ S).rs ρ fun vs S => match P.cls c, vs with
    | some (some f), [d] => .exc c (some (f, d)) ρ S
    | some none, [] => .exc c none ρ S
    | _, _ => .fail
  | .tryc b hs, ρ, S => match exB P b ρ S with
    | .exc c x ρ' S' => catchL P.sub c x ρ' S' hs
    | r => r
  | .pass, ρ, S => .fl .next ρ S
  | .brk, ρ, S => .fl .brk ρ S
  | .cont, ρ, S => .fl .cont ρ S
def exB (P : Par2) : CB → Rho → Sto → RS
  | .nil, ρ, S => .fl .next ρ S
  | .cons s r, ρ, S => (exS P s ρ S).seq fun ρ S => exB P r ρ S
end

/-! ### defs and calls -/
structure CDef where
  ps : List Str
  /-- how many names -/
  n : Nat
  body : CB
structure Tbl where
  defs : Str → Option CDef
  gl : Str → Option D
  cls : Str → Option (Option Str)
  sub : Str → Str → Option Bool
def startR (n : Nat) (vs : List D) : Rho := vs.map some ++ List.replicate (n - vs.length) none
def runD (P : Par2) (d : CDef) (vs : List D) (S : Sto) : Res D :=
  match exB P d.body (startR d.n vs) S with
  | .fl (.ret v) _ S => .ok v S
  | .fl .next _ S => .ok .non S
  | .exc c x _ S => .exc c x S
  | _ => .fail
/-- the arguments in the def's order -/
def orderK {α : Type} (ps ks : List Str) (vs : List α) : Option (List α) := if ps.length = ks.length ∧ ks.length = vs.length ∧ ks.Nodup ∧ (∀ k ∈ ks, k ∈ ps) then mapO (fun p => (ks.zip vs).lookup p) ps else none
def byK (T : Tbl) (F : Str → List D → Sto → Res D) (f : Str) (ks : List Str) (vs : List D) (S : Sto) : Res D := match T.defs f with
  | some d => match orderK d.ps ks vs with
    | some us => F f us S
    | none => .fail
  | none => .fail
def call (T : Tbl) (w : Nat) : Nat → Str → List D → Sto → Res D
  | 0, _, _, _ => .fail
  | k + 1, f, vs, S => match T.defs f with
    | some d => if vs.length = d.ps.length then runD ⟨⟨call T w k, byK T (call T w k), T.gl, w⟩, T.cls, T.sub⟩ d vs S else .fail
    | none => .fail
end G

end

section
set_option Elab.async false
set_option linter.all false
/-! G2: from the model to code. -/
namespace G
open PySem
/-- what a def's text is read by: its scope, its names by slot, the top's names -/
structure CC where
  sc : Scope
  N : List Str
  fns : List Str
  cls : List Str
  cons : List Str
  /-- the built-ins that the top leaves as they are -/
  bis : List String
  /-- the cells that may be stored -/
  cel : Str → Bool
def bins : List Operator := [.Add, .Sub, .Mult, .FloorDiv, .Mod, .Pow, .LShift, .RShift, .BitAnd, .BitOr, .BitXor]
def biNames : List String := ["len", "abs", "int", "all", "any", "sum", "max", "min", "list", "tuple", "dict", "sorted", "gcd"]
def tyNames : List String := ["int", "bool", "str", "list", "tuple", "dict"]
def mtNames : List String := ["append", "pop"]
def strIn (l : List String) (x : Str) : Option String := l.find? fun s => Str.ofString s == x
def isStar : Expr → Bool
  | .Starred .. => true
  | _ => false
def isSlice : Expr → Bool
  | .Slice .. => true
  | _ => false
def isTuple : Expr → Bool
  | .Tuple .. => true
  | _ => false
def isSet : Expr → Bool
  | .Set .. => true
  | _ => false
/-- a call of a name without arguments -/
def isCall0 : Expr → Bool
  | .Call (.Name ..) [] [] _ => true
  | _ => false
def badName (x : Str) : Bool := x == ("__debug__" : Str) || x == ("__classdict__" : Str) || x == ("__name__" : Str)
def cC : Const → Option D
  | .none => some .non
  | .bool b => some (.bl b)
  | .int i => some (.int i)
  | .str s => some (.str s)
  | _ => none
def idx (N : List Str) (x : Str) : Option Nat := N.findIdx? (· == x)
def CC.glob (C : CC) (x : Str) : Bool := decide (C.sc.names.lookup x = some .globalImplicit) && !badName x
def cN (C : CC) (x : Str) : Option CE := if badName x then none else match C.sc.names.lookup x with
  | some .local | some .cell | some .free => (idx C.N x).map .var
  | some .globalImplicit => if C.cons.contains x then some (.glob x) else none
  | _ => none
def relS' (scope sc : Scope) : Scope :=
  { scope with names := scope.names.map fun (n, k) => if (k == .free && sc.kind == .function && sc.names.lookup n == some .cell) then (n, .cell) else (n, k) }
def blkC' (N : List Str) (sc scope : Scope) (own : List (Str × Nat)) : Bool :=
  (match scope.kind with | .function => true | _ => false) && (scope.names.all fun y => decide (scope.names.lookup y.1 = some y.2)) && (own.all fun p => decide (N[p.2]? = some p.1)) &&
    (scope.names.all fun y => match y.2 with
      | .free => (match sc.names.lookup y.1 with | some .cell => true | some .free => true | _ => false)
      | .local => decide (y.1 ∈ own.map (·.1)) || decide (y.1 ∉ N)
      | .cell => decide (y.1 ∈ own.map (·.1)) || decide (y.1 ∉ N)
      | _ => true)
mutual
/-- a target of names: all local ones, or cells -/
def cP (C : CC) : Expr → Option CP
  | .Name x _ => match C.sc.names.lookup x with
    | some .local => (idx C.N x).map .nm
    | some .cell => if C.cel x then (idx C.N x).map .nm else none
    | _ => none
  | .Tuple es _ _ => (cPs C es).map .tup
  | _ => none
def cPs (C : CC) : List Expr → Option (List CP)
  | [] => some []
  | e :: r => if isStar e then none else match cP C e, cPs C r with
    | some p, some ps => some (p :: ps)
    | _, _ => none
end
mutual
def pNames : CP → List Nat
  | .nm i => [i]
  | .tup ps => pNamesL ps
def pNamesL : List CP → List Nat
  | [] => []
  | p :: ps => pNames p ++ pNamesL ps
end
def inter : CEs → CEs → Option CEs
  | .cons a k ks, .cons b v vs => (inter ks vs).map fun r => .cons a k (.cons b v r)
  | .nil, .nil => some .nil
  | _, _ => none
mutual
def cE (C : CC) : Expr → Option CE
  | .Constant c _ _ => (cC c).map .cst
  | .Name x _ => cN C x
  | .BinOp a op b _ => if bins.contains op then do
      let a ← cE C a
      let b ← cE C b
      return .bin op a b else none
  | .UnaryOp .USub a _ => (cE C a).map .neg
  | .UnaryOp .Not a _ => (cE C a).map .not
  | .Compare a [op] [b] _ => if isSet b then none else do
      let a ← cE C a
      let b ← cE C b
      return .cmp op a b
  | .Compare a [o1, o2] [b, c] _ => if isSet b || isSet c then none else do
      let a ← cE C a
      let b ← cE C b
      let c ← cE C c
      return .chn o1 o2 a b c
  | .BoolOp .And (e :: es) _ => if es.any isStar then none else do
      let e ← cE C e
      let es ← cEs C es
      return .and (.cons false e es)
  | .BoolOp .Or (e :: es) _ => if es.any isStar then none else do
      let e ← cE C e
      let es ← cEs C es
      return .or (.cons false e es)
  | .IfExp c a b _ => do
      let c ← cE C c
      let a ← cE C a
      let b ← cE C b
      return .ite c a b
  | .Call (.Name f _) [a, .Name t _] [] _ => if C.glob f then
      if f == ("isinstance" : Str) then
        if C.glob t then do
          let a ← cE C a
          let t ← strIn tyNames t
          return .isi a [t]
        else none
      else do
        let a ← if isStar a then none else cE C a
        let b ← cN C t
        cCall C f (.cons false a (.cons false b .nil))
      else none
  | .Call (.Name f _) [a, .Tuple ts _ _] [] _ => if C.glob f then
      if f == ("isinstance" : Str) then do
        let a ← cE C a
        let ts ← cTys C ts
        if ts.length ≤ 20 then some (.isi a ts) else none
      else do
        let a ← if isStar a then none else cE C a
        let ts ← cEs C ts
        cCall C f (.cons false a (.cons false (.tup ts) .nil))
      else none
  | .Call (.Name f _) (e :: es) [] _ => if C.glob f then do
      let e ← if isStar e then none else cE C e
      let es ← if es.any isStar then none else cEs C es
      cCall C f (.cons false e es)
      else none
  | .Call (.Name f _) [] (k :: ks) _ => if C.glob f && C.fns.contains f then do
      let (n, es) ← cKs C (k :: ks)
      return .callk f n es
      else none
  | .Call (.Attribute o m ap) es [] cp => do
      let m ← if ap.endLine == cp.line && es.length == 1 then strIn mtNames m else none
      let o ← if isCall0 o then none else cE C o
      let es ← if es.any isStar then none else cEs C es
      return .mt m o es
  | .Subscript a (.Slice none none (some (.UnaryOp .USub (.Constant (.int 1) _ _) _)) _) _ => (cE C a).map .rev
  | .Subscript a (.Slice lo hi none _) _ => do
      let a ← cE C a
      let lo ← cO C lo
      let hi ← cO C hi
      return .sl a lo hi
  | .Subscript a i _ => if isSlice i then none else do
      let a ← cE C a
      let i ← cE C i
      return .ix a i
  | .List es _ => (cEs C es).map .lst
  | .Tuple es _ _ => (cEs C es).map .tup
  | .Dict ks vs _ => if ks.all (·.isSome) && ks.length == vs.length && !vs.any isStar && decide (ks.length ≤ 15) then do
      let ks ← cOs C ks
      let vs ← cEs C vs
      let es ← inter ks vs
      return .dct es
      else none
  | .ListComp elt [⟨tg, iter, ifs, 0⟩] scope _ => do
      let cit := cE C iter
      let it ← (match iter with
        | .Call (.Name f _) [a] [] _ =>
          if f == ("range" : Str) then (if C.glob f && !isStar a then (cE C a).map .rng1 else none)
          else if f == ("enumerate" : Str) then (if C.glob f && !isStar a && isTuple tg then (cE C a).map .enum else none)
          else cit.map .seq
        | .Call (.Name f _) [a, b] [] _ =>
          if f == ("range" : Str) then (if C.glob f && !isStar a && !isStar b then (do
            let a ← cE C a
            let b ← cE C b
            return .rng2 a b) else none)
          else if f == ("zip" : Str) then (if C.glob f && !isStar a && !isStar b && isTuple tg then (do
            let a ← cE C a
            let b ← cE C b
            return .zip a b) else none)
          else cit.map .seq
        | _ => cit.map .seq)
      let C' : CC := { C with sc := relS' scope C.sc, cel := fun x => scope.names.lookup x == some .cell }
      let g ← cP C' tg
      let own := (pNames g).map fun i => (C.N.getD i Str.empty, i)
      if !blkC' C.N C.sc scope own then none
      let ifs ← if ifs.any isStar || 1 < ifs.length then none else cEs C' ifs
      let elt ← cE C' elt
      return .lc g it ifs (own.map (·.2)) elt
  | _ => none
def cEs (C : CC) : List Expr → Option CEs
  | [] => some .nil
  | .Starred e _ :: r => do
      let e ← cE C e
      let r ← cEs C r
      return .cons true e r
  | e :: r => do
      let e ← cE C e
      let r ← cEs C r
      return .cons false e r
def cOs (C : CC) : List (Option Expr) → Option CEs
  | some k :: ks => do
      let k ← cE C k
      let r ← cOs C ks
      return .cons false k r
  | [] => some .nil
  | none :: _ => none
def cKs (C : CC) : List Keyword → Option (List Str × CEs)
  | [] => some ([], .nil)
  | ⟨some n, e, _⟩ :: r => do
      let e ← cE C e
      let (ns, es) ← cKs C r
      return (n :: ns, .cons false e es)
  | ⟨none, _, _⟩ :: _ => none
def cO (C : CC) : Option Expr → Option CO
  | none => some .none
  | some e => (cE C e).map .some
def cTys (C : CC) : List Expr → Option (List String)
  | [] => some []
  | .Name t _ :: r => if C.glob t then do
      let t ← strIn tyNames t
      let r ← cTys C r
      return t :: r
      else none
  | _ => none
def cCall (C : CC) (f : Str) (es : CEs) : Option CE := if C.fns.contains f then some (.call f es) else match strIn C.bis f with
  | some b => some (.bi b es)
  | none => none
end
/-- what a for walks -/
def cI (C : CC) (tg iter : Expr) : Option CI := match iter with
  | .Call (.Name f _) [a] [] _ =>
    if f == ("range" : Str) then (if C.glob f && !isStar a then (cE C a).map .rng1 else none)
    else if f == ("enumerate" : Str) then (if C.glob f && !isStar a && isTuple tg then (cE C a).map .enum else none)
    else (cE C iter).map .seq
  | .Call (.Name f _) [a, b] [] _ =>
    if f == ("range" : Str) then (if C.glob f && !isStar a && !isStar b then (do
      let a ← cE C a
      let b ← cE C b
      return .rng2 a b) else none)
    else if f == ("zip" : Str) then (if C.glob f && !isStar a && !isStar b && isTuple tg then (do
      let a ← cE C a
      let b ← cE C b
      return .zip a b) else none)
    else (cE C iter).map .seq
  | _ => (cE C iter).map .seq

/-! ### the names of comprehensions -/
def scopeOwn (scope : Scope) : List Str := (scope.names.filter fun y => (y.2 == .local || y.2 == .cell) && y.1 != (".0" : Str)).map (·.1)
mutual
def ownE : Expr → List Str
  | .BinOp a _ b _ => ownE a ++ ownE b
  | .UnaryOp _ a _ => ownE a
  | .Compare a _ bs _ => ownE a ++ ownEs bs
  | .BoolOp _ es _ => ownEs es
  | .IfExp c a b _ => ownE c ++ ownE a ++ ownE b
  | .Call f es ks _ => ownE f ++ ownEs es ++ ownKs ks
  | .Attribute o _ _ => ownE o
  | .Subscript a i _ => ownE a ++ ownE i
  | .Slice lo hi st _ => ownO lo ++ ownO hi ++ ownO st
  | .List es _ => ownEs es
  | .Tuple es _ _ => ownEs es
  | .Starred e _ => ownE e
  | .Dict ks vs _ => ownOs ks ++ ownEs vs
  | .ListComp elt [⟨_, iter, ifs, _⟩] scope _ => scopeOwn scope ++ ownE iter ++ ownEs ifs ++ ownE elt
  | _ => []
def ownEs : List Expr → List Str
  | [] => []
  | e :: r => ownE e ++ ownEs r
def ownO : Option Expr → List Str
  | none => []
  | some e => ownE e
def ownOs : List (Option Expr) → List Str
  | [] => []
  | none :: r => ownOs r
  | some e :: r => ownE e ++ ownOs r
def ownKs : List Keyword → List Str
  | [] => []
  | ⟨_, e, _⟩ :: r => ownE e ++ ownKs r
end
mutual
def ownS : Stmt → List Str
  | .Return (some e) _ => ownE e
  | .Assign ts e _ => ownEs ts ++ ownE e
  | .For t it b _ _ => ownE t ++ ownE it ++ ownB b
  | .While c b _ _ => ownE c ++ ownB b
  | .If c a b _ => ownE c ++ ownB a ++ ownB b
  | .Expr e _ => ownE e
  | .Raise (some e) _ _ => ownE e
  | .Try b _ _ _ _ => ownB b
  | _ => []
def ownB : List Stmt → List Str
  | [] => []
  | s :: r => ownS s ++ ownB r
end
/-! ### statements -/
mutual
def cT (C : CC) : Expr → Option CT
  | .Name x _ => match C.sc.names.lookup x with
    | some .local => (idx C.N x).map .nm
    | some .cell => if C.cel x then (idx C.N x).map .nm else none
    | _ => none
  | .Subscript o i _ => if isSlice i then none else do
      let o ← cE C o
      let i ← cE C i
      return .ix o i
  | .Tuple es _ _ => (cTs C es).map .tup
  | _ => none
def cTs (C : CC) : List Expr → Option (List CT)
  | [] => some []
  | e :: r => if isStar e then none else match cT C e, cTs C r with
    | some p, some ps => some (p :: ps)
    | _, _ => none
end
/-- a local name on that line -/
def nameOn (C : CC) (line : Nat) : Expr → Option Str
  | .Name id pos => if C.sc.names.lookup id == some .local && pos.line == line then some id else none
  | _ => none
/-- what the stores of a tuple's display do: none: not looked at; some none: in order; some (some names): exchanged -/
def swS (C : CC) : Expr → Expr → Option (Option (List Str))
  | .Tuple ts _ _, .Tuple vs _ _ =>
    if !(ts.length == 2 || ts.length == 3) || vs.length != ts.length then some none
    else if vs.any isStar then some none
    else
      let line := (ts.head?.map (·.pos.line)).getD 0
      let names := ts.filterMap (nameOn C line)
      if names.length != ts.length || names.eraseDups.length != names.length then some none
      else if vs.all (foldedForSure 8) then some none
      else if vs.all (constantsAlone 8) then none
      else some (some names)
  | _, _ => some none
def isComp : Expr → Bool
  | .ListComp .. => true
  | _ => false
/-- a comprehension's statement: the list is stored within the comprehension -/
def swC (C : CC) (t : Expr) (v : Expr) : Bool := match t, v with
  | .Name x p, .ListComp _ _ scope pos => C.sc.names.lookup x == some .local && p.line == pos.line && !(scope.names.any fun (n, k) => n == x && (k == .local || k == .cell))
  | _, _ => false
def CC.exc (C : CC) (c : Str) : Bool := C.glob c && (C.cls.contains c || c == ("ValueError" : Str) || c == ("WaitError" : Str))
def cH (C : CC) (n : Str) : Expr → Option CH
  | .Constant c _ _ => (cC c).map .cst
  | .Attribute (.Name x _) f _ => if x == n && f == ("given" : Str) then some (.fld f) else none
  | .Call (.Name f _) [.Name x _, .Name c _] [] _ => if f == ("isinstance" : Str) && x == n && C.glob f && C.exc c then some (.isi [c]) else none
  | .BoolOp .And [.Call (.Name f _) [.Name x _, .Name c _] [] _, .Call (.Name f2 _) [.Name x2 _, .Name c2 _] [] _] _ =>
    if f == ("isinstance" : Str) && f2 == ("isinstance" : Str) && x == n && x2 == n && C.glob f && C.exc c && C.exc c2 then some (.isi [c, c2]) else none
  | _ => none
def cHs (C : CC) (n : Str) : List Expr → Option (List CH)
  | [] => some []
  | e :: r => match cH C n e, cHs C n r with
    | some p, some ps => some (p :: ps)
    | _, _ => none
def cHd (C : CC) : ExceptHandler → Option (Str × Nat × List CH)
  | .ExceptHandler (some (.Name c _)) (some n) [.Return (some (.List es _)) _] _ =>
    if C.cls.contains c && C.glob c && decide (C.sc.names.lookup n = some .local) && !badName n then (idx C.N n).bind fun i => (cHs C n es).map fun h => (c, i, h) else none
  | _ => none
def cHds (C : CC) : List ExceptHandler → Option (List (Str × Nat × List CH))
  | [] => some []
  | e :: r => match cHd C e, cHds C r with
    | some p, some ps => some (p :: ps)
    | _, _ => none
mutual
def cS (C : CC) : Stmt → Option CS
  | .Return none _ => some .retN
  | .Return (some e) _ => (cE C e).map .ret
  | .Assign [t] e _ => if (swS C t e).isNone then none else do
      let t ← cT C t
      let e ← cE C e
      return .asg t e
  | .For tg it b [] _ => do
      let g ← cP C tg
      let it ← cI C tg it
      let b ← cB C b
      return .for g it b
  | .While c b [] _ => do
      let c ← cE C c
      let b ← cB C b
      return .whl c b
  | .If c a b _ => do
      let c ← cE C c
      let a ← cB C a
      let b ← cB C b
      return .ife c a b
  | .Expr e _ => if isComp e then none else (cE C e).map .expr
  | .Raise (some (.Call (.Name c _) es [] _)) none _ => if C.glob c && C.cls.contains c && !es.any isStar && es.length == 1 then (cEs C es).map (.raise c) else none
  | .Try b (h :: hs) [] [] _ => do
      let b ← cB C b
      let hs ← cHds C (h :: hs)
      return .tryc b hs
  | .Pass _ => some .pass
  | .Break _ => some .brk
  | .Continue _ => some .cont
  | _ => none
def cB (C : CC) : List Stmt → Option CB
  | [] => some .nil
  | s :: r => do
      let s ← cS C s
      let r ← cB C r
      return .cons s r
end
/-! ### defs -/
structure Top where
  fns : List Str
  cls : List Str
  cons : List Str
  bis : List String
def defN (ps : List Str) (b : List Stmt) (sc : Scope) : List Str :=
  (ps ++ (sc.names.filter fun y => y.2 == .local || y.2 == .cell).map (·.1) ++ ownB b).eraseDups
def plainArgs (a : Arguments) : Bool := a.posonlyargs.isEmpty && a.vararg.isNone && a.kwonlyargs.isEmpty && a.kw_defaults.isEmpty && a.kwarg.isNone && a.defaults.isEmpty
def scopeOk (N ps : List Str) (sc : Scope) : Bool :=
  decide (sc.kind = .function) && !sc.isCoroutine && !sc.isGenerator && decide N.Nodup && decide (N.take ps.length = ps) &&
    (ps.all fun x => decide (sc.names.lookup x = some .local) || decide (sc.names.lookup x = some .cell)) && (sc.names.all fun y => decide (y.2 ≠ .free))
def cDef (t : Top) (a : Arguments) (b : List Stmt) (sc : Scope) : Option CDef :=
  let ps := a.args.map (·.arg)
  let N := defN ps b sc
  if plainArgs a && scopeOk N ps sc then (cB ⟨sc, N, t.fns, t.cls, t.cons, t.bis, fun _ => true⟩ b).map fun c => ⟨ps, N.length, c⟩ else none
end G

end

section
set_option Elab.async false
set_option linter.all false
set_option maxRecDepth 100000
/-! GB: how plain parameters are bound. -/
namespace G
open PySem PySem.Spec PyProof.Rows L2
theorem mapO_zip {α β : Type} {g : α → Option β} : ∀ {ps : List α} {ws : List β}, mapO g ps = some ws → (ps.filterMap fun n => (g n).map (n, ·)) = ps.zip ws ∧ (ps.filter fun n => (g n).isNone) = []
  | [], _, h => by cases h; exact ⟨rfl, rfl⟩
  | p :: ps, ws, h => by
    unfold mapO at h
    split at h
    · rename_i d ds e1 e2
      cases h
      obtain ⟨h1, h2⟩ := mapO_zip e2
      simp [e1, h1, h2]
    · cases h
theorem plainArgs_get {a : Arguments} (h : plainArgs a = true) : a.posonlyargs = [] ∧ a.vararg = none ∧ a.kwonlyargs = [] ∧ a.kw_defaults = [] ∧ a.kwarg = none ∧ a.defaults = [] := by
  unfold plainArgs at h
  simp only [Bool.and_eq_true, List.isEmpty_iff, Option.isNone_iff_eq_none] at h
  obtain ⟨⟨⟨⟨⟨h1, h2⟩, h3⟩, h4⟩, h5⟩, h6⟩ := h
  exact ⟨h1, h2, h3, h4, h5, h6⟩
theorem forIn_slots {f : Str × Value → List (Str × Value) × List (Str × Value) → Sem (ForInStep (List (Str × Value) × List (Str × Value)))} : ∀ {kws sl : List (Str × Value)},
    (∀ (a b : List (Str × Value)) (q : Str × Value), kws = a ++ q :: b → f q (sl ++ a, []) = pure (.yield (sl ++ a ++ [q], []))) → (forIn kws (sl, []) f : Sem _) = pure (sl ++ kws, [])
  | [], sl, _ => by simp
  | q :: kws, sl, h => by
    have h0 := h [] kws q rfl
    rw [List.append_nil] at h0
    rw [List.forIn_cons, h0, pure_bind]
    show (forIn kws (sl ++ [q], []) f : Sem _) = _
    rw [forIn_slots fun a b r e => ?_]
    · simp
    · have := h (q :: a) b r (by rw [e]; rfl)
      simpa using this
theorem bind_gen {fd : FuncData} {us : List Value} {kws : List (Str × Value)} {ws : List Value} {ps : List Str} (hp : plainArgs fd.params = true) (hd : fd.defaults = .none) (he : ps = fd.params.args.map (·.arg)) (hl : us.length ≤ ps.length)
    (hk : ∀ (a b : List (Str × Value)) (q : Str × Value), kws = a ++ q :: b → q.1 ∈ ps ∧ (ps.zip us ++ a).lookup q.1 = none) (hw : mapO (fun p => (ps.zip us ++ kws).lookup p) ps = some ws) :
    bindArgs fd ⟨us, kws⟩ = pure (ps.zip ws) := by
  obtain ⟨p1, p2, p3, p4, p5, p6⟩ := plainArgs_get hp
  obtain ⟨h1, h2⟩ := mapO_zip hw
  unfold bindArgs
  simp only [p1, p2, p3, p5, ← he, hd, List.map_nil, List.nil_append, List.append_nil]
  rw [forIn_slots fun a b q e => ?_]
  · have e0 : seqItems? Value.none = pure none := rfl
    simp only [pure_bind, e0]
    have hn : ¬ us.length > ps.length := by omega
    simp [hn, h1, h2]
  · obtain ⟨h3, h4⟩ := hk a b q e
    have h5 : ps.contains q.1 = true := by simpa using h3
    simp [h3, h4]
theorem lookup_zip {α : Type} : ∀ {ps : List Str} {us : List α}, ps.Nodup → us.length = ps.length → mapO (fun p => (ps.zip us).lookup p) ps = some us
  | [], [], _, _ => rfl
  | [], _ :: _, _, h => by cases h
  | _ :: _, [], _, h => by cases h
  | p :: ps, u :: us, hn, h => by
    have h1 := lookup_zip (us := us) (List.nodup_cons.mp hn).2 (by simpa using h)
    have h2 : mapO (fun q => ((p :: ps).zip (u :: us)).lookup q) ps = some us := by
      rw [← h1]
      have : ∀ l : List Str, (∀ x ∈ l, x ≠ p) → mapO (fun q => ((p :: ps).zip (u :: us)).lookup q) l = mapO (fun q => (ps.zip us).lookup q) l := by
        intro l
        induction l with
        | nil => intro _; rfl
        | cons x l ih =>
          intro hx
          have hxp : (x == p) = false := by simpa using hx x (List.mem_cons_self ..)
          unfold mapO
          rw [ih fun y hy => hx y (List.mem_cons_of_mem _ hy)]
          simp [List.lookup, hxp]
      exact this ps fun x hx e => (List.nodup_cons.mp hn).1 (e ▸ hx)
    show mapO (fun q => ((p :: ps).zip (u :: us)).lookup q) (p :: ps) = some (u :: us)
    unfold mapO
    rw [h2]
    simp [List.lookup]
theorem bind_pos {fd : FuncData} {ps : List Str} (hp : plainArgs fd.params = true) (hd : fd.defaults = .none) (he : ps = fd.params.args.map (·.arg)) (hn : ps.Nodup) (us : List Value) (hl : us.length = ps.length) : bindArgs fd ⟨us, []⟩ = pure (ps.zip us) :=
  bind_gen hp hd he (Nat.le_of_eq hl) (fun a b q e => by cases a <;> cases e) (by rw [List.append_nil]; exact lookup_zip hn hl)
theorem lookup_none {α : Type} {x : Str} : ∀ {l : List (Str × α)}, (∀ q ∈ l, q.1 ≠ x) → l.lookup x = none
  | [], _ => rfl
  | q :: l, h => by
    have e : (x == q.1) = false := by simpa using fun z => h q (List.mem_cons_self ..) z.symm
    rw [List.lookup, e]
    exact lookup_none fun p hp => h p (List.mem_cons_of_mem _ hp)
theorem bind_key {fd : FuncData} {ps ks : List Str} {us ws : List Value} (hp : plainArgs fd.params = true) (hd : fd.defaults = .none) (he : ps = fd.params.args.map (·.arg)) (hw : orderK ps ks us = some ws) : bindArgs fd ⟨[], ks.zip us⟩ = pure (ps.zip ws) := by
  unfold orderK at hw
  split at hw
  · rename_i h
    obtain ⟨h1, h2, h3, h4⟩ := h
    refine bind_gen hp hd he (Nat.zero_le _) (fun a b q e => ?_) (by rw [List.zip_nil_right, List.nil_append]; exact hw)
    have hk : ks = a.map (·.1) ++ q.1 :: b.map (·.1) := by
      have := congrArg (List.map Prod.fst) e
      rw [List.map_fst_zip (by omega)] at this
      simpa using this
    refine ⟨h4 _ (by rw [hk]; simp), ?_⟩
    rw [List.zip_nil_right, List.nil_append]
    refine lookup_none fun p hp z => ?_
    rw [hk, List.nodup_append] at h3
    exact h3.2.2 p.1 (List.mem_map_of_mem hp) q.1 (List.mem_cons_self ..) z
  · cases hw
end G

end

section
set_option Elab.async false
set_option linter.all false
set_option maxRecDepth 100000
/-! G3: how the small language's values and store stand in HandS's heap. -/
namespace G
open PySem PySem.Spec PyProof.Rows L2
theorem big_line {n : Nat} (h : n ≤ 16000000) : n ≤ sizeLine := by rw [sizeLine_eq]; omega
theorem big_lineS {n : Nat} (h : n < 16000000) : n < sizeLine := by rw [sizeLine_eq]; omega

/-! ### pairs of lists -/
section
variable {α β : Type} {F : α → β → Prop}
theorem Pd.get : ∀ {xs : List α} {ys : List β} {i : Nat} {x : α}, Paired F xs ys → xs[i]? = some x → ∃ y, ys[i]? = some y ∧ F x y
  | _, _, _, _, .nil, e => by simp at e
  | _, _, 0, _, .cons r _, e => by simp at e; subst e; exact ⟨_, rfl, r⟩
  | _, _, i + 1, x, .cons _ t, e => by
    obtain ⟨u, h1, h2⟩ := Pd.get (i := i) (x := x) t (by simpa using e)
    exact ⟨u, by simpa using h1, h2⟩
theorem Pd.set {x : α} {u : β} (r : F x u) : ∀ {xs : List α} {us : List β} (i : Nat), Paired F xs us → Paired F (xs.set i x) (us.set i u)
  | _, _, _, .nil => .nil
  | _, _, 0, .cons _ t => .cons r t
  | _, _, i + 1, .cons q t => .cons q (Pd.set r i t)
theorem Pd.append : ∀ {xs ys : List α} {us ws : List β}, Paired F xs us → Paired F ys ws → Paired F (xs ++ ys) (us ++ ws)
  | _, _, _, _, .nil, s => s
  | _, _, _, _, .cons r t, s => .cons r (Pd.append t s)
theorem Pd.take : ∀ {xs : List α} {us : List β} (n : Nat), Paired F xs us → Paired F (xs.take n) (us.take n)
  | _, _, 0, _ => .nil
  | _, _, _ + 1, .nil => .nil
  | _, _, n + 1, .cons r t => .cons r (Pd.take n t)
theorem Pd.drop : ∀ {xs : List α} {us : List β} (n : Nat), Paired F xs us → Paired F (xs.drop n) (us.drop n)
  | _, _, 0, r => r
  | _, _, _ + 1, .nil => .nil
  | _, _, n + 1, .cons _ t => Pd.drop n t
theorem Pd.eraseIdx : ∀ {xs : List α} {us : List β} (i : Nat), Paired F xs us → Paired F (xs.eraseIdx i) (us.eraseIdx i)
  | _, _, _, .nil => .nil
  | _, _, 0, .cons _ t => t
  | _, _, i + 1, .cons r t => .cons r (Pd.eraseIdx i t)
theorem Pd.reverse {xs : List α} {us : List β} (h : Paired F xs us) : Paired F xs.reverse us.reverse := by
  induction h with
  | nil => exact .nil
  | cons r _ ih => rw [List.reverse_cons, List.reverse_cons]; exact Pd.append ih (.cons r .nil)
theorem Pd.rep {xs : List α} {us : List β} (h : Paired F xs us) : ∀ k : Nat, Paired F (List.replicate k xs).flatten (List.replicate k us).flatten
  | 0 => .nil
  | k + 1 => by
    rw [List.replicate_succ, List.replicate_succ, List.flatten_cons, List.flatten_cons]
    exact Pd.append h (Pd.rep h k)
theorem Pd.cut {xs : List α} {us : List β} (h : Paired F xs us) (lo hi : Option Int) : Paired F (cutD xs lo hi) (cutD us lo hi) := by
  unfold cutD
  rw [h.length]
  exact Pd.take _ (Pd.drop _ h)
theorem Pd.map {γ : Type} {f : γ → α} {g : γ → β} {xs : List γ} (h : ∀ x ∈ xs, F (f x) (g x)) : Paired F (xs.map f) (xs.map g) := by
  induction xs with
  | nil => exact .nil
  | cons x r ih => exact .cons (h x (List.mem_cons_self ..)) (ih fun y hy => h y (List.mem_cons_of_mem _ hy))
end
theorem cutV_eq (xs : List V) (lo hi : Option Int) : cutV xs lo hi = cutD xs lo hi := by
  have e : ∀ (n d : Nat) (o : Option Int), HT.sIx n d o = sIx' n d o := fun n d o => by cases o <;> rfl
  unfold cutV cutD
  rw [e, e]
theorem atI_eq {α : Type} (xs : List α) (i : Int) : atI xs i = atD xs i := rfl
theorem ixN_eq (n : Nat) (i : Int) : ixN n i = ixN' n i := rfl

/-! ### values -/
/-- a list that is read only, as the heap has it -/
def SqF (K : PySem.W.Frag) (H : Hp) (a : Addr) (vs : List V) : Prop :=
  (∃ o, H a = some (.frz o (.lst vs))) ∨
    ∃ (o : Obj) (its : Array Value) (n : Nat), K.lookup a = some o ∧ o.cls = .type "list" ∧ o.dict = none ∧ o.data = .seq its n ∧ its.size ≤ sizeLine ∧ Vals vs its.toList
theorem SqF.sq {K : PySem.W.Frag} {H : Hp} {a : Addr} {vs : List V} (h : SqF K H a vs) : SqL K H a vs := by
  rcases h with h | h
  · exact .inl (.inr h)
  · exact .inr h
mutual
inductive RelD (K : PySem.W.Frag) (φ : List Addr) (H : Hp) : D → V → Prop
  | non : RelD K φ H .non .non
  | bl (b : Bool) : RelD K φ H (.bl b) (.bl b)
  | int (i : Int) : RelD K φ H (.int i) (.int i)
  | str (x : Str) : RelD K φ H (.str x) (.str x)
  | tup {a : Addr} {vs : List V} {xs : List D} : SqT K H a vs → RelDs K φ H xs vs → RelD K φ H (.tup xs) (.ref a)
  | fl {a : Addr} {vs : List V} {xs : List D} : SqF K H a vs → RelDs K φ H xs vs → RelD K φ H (.fl xs) (.ref a)
  | ref {n : Nat} {a : Addr} : φ[n]? = some a → RelD K φ H (.ref n) (.ref a)
inductive RelDs (K : PySem.W.Frag) (φ : List Addr) (H : Hp) : List D → List V → Prop
  | nil : RelDs K φ H [] []
  | cons {d : D} {v : V} {ds : List D} {vs : List V} : RelD K φ H d v → RelDs K φ H ds vs → RelDs K φ H (d :: ds) (v :: vs)
end
theorem RelDs.pd {K : PySem.W.Frag} {φ : List Addr} {H : Hp} : ∀ {xs : List D} {vs : List V}, RelDs K φ H xs vs → Paired (RelD K φ H) xs vs
  | [], _, h => by cases h; exact .nil
  | x :: xs, _, h => by cases h with | cons r t => exact .cons r t.pd
theorem RelDs.of {K : PySem.W.Frag} {φ : List Addr} {H : Hp} {xs : List D} {vs : List V} (h : Paired (RelD K φ H) xs vs) : RelDs K φ H xs vs := by
  induction h with
  | nil => exact .nil
  | cons r _ ih => exact .cons r ih

/-- what stands later: the tuples and the read only things as they stood -/
structure Gr0 (φ : List Addr) (H : Hp) (φ' : List Addr) (H' : Hp) : Prop where
  pre : ∃ m, φ' = φ ++ m
  tup : ∀ a xs, Rd H a (.tup xs) → Rd H' a (.tup xs)
  frz : ∀ a o w, H a = some (.frz o (.lst w)) → H' a = some (.frz o (.lst w))
/-- .. and all that is not counted -/
structure Grow (φ : List Addr) (H : Hp) (φ' : List Addr) (H' : Hp) : Prop extends Gr0 φ H φ' H' where
  oth : ∀ a o, H a = some o → a ∉ φ → H' a = some o ∧ a ∉ φ'
  frzA : ∀ a o w, H a = some (.frz o w) → H' a = some (.frz o w)
theorem Grow.mk' {φ φ' : List Addr} {H H' : Hp} (pre : ∃ m, φ' = φ ++ m) (tup : ∀ a xs, Rd H a (.tup xs) → Rd H' a (.tup xs)) (frz : ∀ a o w, H a = some (.frz o w) → H' a = some (.frz o w)) (oth : ∀ a o, H a = some o → a ∉ φ → H' a = some o ∧ a ∉ φ') : Grow φ H φ' H' :=
  ⟨⟨pre, tup, fun a o w => frz a o (.lst w)⟩, oth, frz⟩
theorem Grow.refl (φ : List Addr) (H : Hp) : Grow φ H φ H := .mk' ⟨[], by simp⟩ (fun _ _ h => h) (fun _ _ _ h => h) fun _ _ h n => ⟨h, n⟩
theorem Grow.trans {φ φ1 φ2 : List Addr} {H H1 H2 : Hp} (a : Grow φ H φ1 H1) (b : Grow φ1 H1 φ2 H2) : Grow φ H φ2 H2 := by
  obtain ⟨m, rfl⟩ := a.pre
  obtain ⟨l, rfl⟩ := b.pre
  exact .mk' ⟨m ++ l, by simp⟩ (fun c xs h => b.tup c xs (a.tup c xs h)) (fun c o xs h => b.frzA c o xs (a.frzA c o xs h)) fun c o h n => let ⟨h1, n1⟩ := a.oth c o h n; b.oth c o h1 n1
theorem Gr0.at {φ φ' : List Addr} {H H' : Hp} (g : Gr0 φ H φ' H') {n : Nat} {a : Addr} (h : φ[n]? = some a) : φ'[n]? = some a := by
  obtain ⟨m, rfl⟩ := g.pre
  rw [List.getElem?_append_left (List.getElem?_eq_some_iff.mp h).1]
  exact h
theorem Grow.at {φ φ' : List Addr} {H H' : Hp} (g : Grow φ H φ' H') {n : Nat} {a : Addr} (h : φ[n]? = some a) : φ'[n]? = some a := g.toGr0.at h
theorem Gr0.ext {φ : List Addr} {H : Hp} (m : List Addr) : Gr0 φ H (φ ++ m) H := ⟨⟨m, rfl⟩, fun _ _ h => h, fun _ _ _ h => h⟩
/-- a new object -/
theorem Grow.new {φ : List Addr} {H : Hp} {p : Addr} {o : HO} (h : H p = none) (m : List Addr) (hm : ∀ x ∈ m, x = p := by simp) : Grow φ H (φ ++ m) (upd H p o) := by
  refine .mk' ⟨m, rfl⟩ (fun a xs r => ?_) (fun a o' xs r => ?_) fun a o' r n => ?_
  · rcases r with r | ⟨q, r⟩
    · exact .inl (by rw [upd_ne (ne_of_none r h)]; exact r)
    · exact .inr ⟨q, by rw [upd_ne (ne_of_none r h)]; exact r⟩
  · rw [upd_ne (ne_of_none r h)]; exact r
  · have e := ne_of_none r h
    refine ⟨by rw [upd_ne e]; exact r, fun z => ?_⟩
    rcases List.mem_append.mp z with z | z
    · exact n z
    · exact e (hm a z)
/-- what is no tuple and no read only thing is written -/
theorem Grow.write {φ : List Addr} {H : Hp} {p : Addr} {o u : HO} (hp : p ∈ φ) (h : H p = some u) (h1 : ∀ xs, u ≠ .tup xs) (h2 : ∀ o' w, u ≠ .frz o' w) : Grow φ H φ (upd H p o) := by
  refine .mk' ⟨[], by simp⟩ (fun a xs r => ?_) (fun a o' xs r => ?_) fun a o' r n => ?_
  · rcases r with r | ⟨q, r⟩
    · exact .inl (by rw [upd_ne (ne_of r h (fun e => h1 _ e.symm))]; exact r)
    · exact .inr ⟨q, by rw [upd_ne (ne_of r h (fun e => h2 _ _ e.symm))]; exact r⟩
  · rw [upd_ne (ne_of r h (fun e => h2 _ _ e.symm))]; exact r
  · have e : a ≠ p := fun z => n (z ▸ hp)
    exact ⟨by rw [upd_ne e]; exact r, n⟩
/-- what was not there at the start may change -/
theorem Grow.change {φ φ' : List Addr} {H H' : Hp} {p : Addr} {o : HO} (g : Grow φ H φ' H') (h : H p = none) : Grow φ H φ' (upd H' p o) := by
  refine .mk' g.pre (fun a xs r => ?_) (fun a o' xs r => ?_) fun a o' r n => ?_
  · have z := g.tup a xs r
    rcases r with r | ⟨q, r⟩
    · rcases z with z | ⟨q', z⟩
      · exact .inl (by rw [upd_ne (ne_of_none r h)]; exact z)
      · exact .inr ⟨q', by rw [upd_ne (ne_of_none r h)]; exact z⟩
    · rcases z with z | ⟨q', z⟩
      · exact .inl (by rw [upd_ne (ne_of_none r h)]; exact z)
      · exact .inr ⟨q', by rw [upd_ne (ne_of_none r h)]; exact z⟩
  · rw [upd_ne (ne_of_none r h)]; exact g.frzA a o' xs r
  · rw [upd_ne (ne_of_none r h)]; exact g.oth a o' r n
/-- .. and may be counted -/
theorem Grow.count {φ φ' : List Addr} {H H' : Hp} {p : Addr} (g : Grow φ H φ' H') (h : H p = none) : Grow φ H (φ' ++ [p]) H' := by
  obtain ⟨m, rfl⟩ := g.pre
  refine .mk' ⟨m ++ [p], by simp⟩ g.tup g.frzA fun a o' r n => ?_
  obtain ⟨h1, h2⟩ := g.oth a o' r n
  refine ⟨h1, fun z => ?_⟩
  rcases List.mem_append.mp z with z | z
  · exact h2 z
  · exact ne_of_none r h (List.mem_singleton.mp z)
section
variable {K : PySem.W.Frag} {φ φ' : List Addr} {H H' : Hp}
theorem Gr0.sqT (g : Gr0 φ H φ' H') {a : Addr} {xs : List V} (h : SqT K H a xs) : SqT K H' a xs := by
  rcases h with h | h
  · exact .inl (g.tup _ _ h)
  · exact .inr h
theorem Gr0.sqF (g : Gr0 φ H φ' H') {a : Addr} {xs : List V} (h : SqF K H a xs) : SqF K H' a xs := by
  rcases h with ⟨o, h⟩ | h
  · exact .inl ⟨o, g.frz _ _ _ h⟩
  · exact .inr h
mutual
theorem RelD.grow0 (g : Gr0 φ H φ' H') : ∀ {d : D} {v : V}, RelD K φ H d v → RelD K φ' H' d v
  | .non, _, h => by cases h; exact .non
  | .bl b, _, h => by cases h; exact .bl b
  | .int i, _, h => by cases h; exact .int i
  | .str i, _, h => by cases h; exact .str i
  | .tup xs, _, h => by cases h with | tup s r => exact .tup (g.sqT s) (RelDs.grow0 g r)
  | .fl xs, _, h => by cases h with | fl s r => exact .fl (g.sqF s) (RelDs.grow0 g r)
  | .ref n, _, h => by cases h with | ref e => exact .ref (g.at e)
theorem RelDs.grow0 (g : Gr0 φ H φ' H') : ∀ {ds : List D} {vs : List V}, RelDs K φ H ds vs → RelDs K φ' H' ds vs
  | [], _, h => by cases h; exact .nil
  | d :: ds, _, h => by cases h with | cons r t => exact .cons (RelD.grow0 g r) (RelDs.grow0 g t)
end
abbrev RelKV (K : PySem.W.Frag) (φ : List Addr) (H : Hp) {κ : Type} : List (κ × D) → List (κ × V) → Prop := Paired fun p q => p.1 = q.1 ∧ RelD K φ H p.2 q.2
theorem RelKV.grow0 {κ : Type} (g : Gr0 φ H φ' H') {xs : List (κ × D)} {ys : List (κ × V)} (h : RelKV K φ H xs ys) : RelKV K φ' H' xs ys :=
  Paired.mono (fun _ _ z => ⟨z.1, z.2.grow0 g⟩) h
theorem RelD.grow (g : Grow φ H φ' H') {d : D} {v : V} (h : RelD K φ H d v) : RelD K φ' H' d v := h.grow0 g.toGr0
theorem RelDs.grow (g : Grow φ H φ' H') {d : List D} {v : List V} (h : RelDs K φ H d v) : RelDs K φ' H' d v := h.grow0 g.toGr0
theorem RelKV.grow {κ : Type} (g : Grow φ H φ' H') {xs : List (κ × D)} {ys : List (κ × V)} (h : RelKV K φ H xs ys) : RelKV K φ' H' xs ys := h.grow0 g.toGr0
/-- an object of the store -/
def RelM (K : PySem.W.Frag) (φ : List Addr) (H : Hp) (a : Addr) : MO → Prop
  | .lst xs => ∃ vs, H a = some (.lst vs) ∧ RelDs K φ H xs vs
  | .dK kvs => ∃ ws, H a = some (.dK ws) ∧ RelKV K φ H kvs ws
  | .fK kvs => ∃ o ws, H a = some (.frz o (.dK ws)) ∧ RelKV K φ H kvs ws
  | .dT kvs => ∃ ws, H a = some (.dT ws) ∧ RelKV K φ H kvs ws
theorem RelM.keep {a : Addr} {o : MO} (g : Gr0 φ H φ' H') (e : H' a = H a) (h : RelM K φ H a o) : RelM K φ' H' a o := by
  cases o with
  | lst xs => obtain ⟨vs, h1, h2⟩ := h; exact ⟨vs, e.trans h1, h2.grow0 g⟩
  | dK kvs => obtain ⟨vs, h1, h2⟩ := h; exact ⟨vs, e.trans h1, h2.grow0 g⟩
  | fK kvs => obtain ⟨q, vs, h1, h2⟩ := h; exact ⟨q, vs, e.trans h1, h2.grow0 g⟩
  | dT kvs => obtain ⟨vs, h1, h2⟩ := h; exact ⟨vs, e.trans h1, h2.grow0 g⟩
theorem RelM.there {a : Addr} {o : MO} (h : RelM K φ H a o) : ∃ u, H a = some u ∧ (∀ xs, u ≠ .tup xs) := by
  cases o with
  | lst xs => obtain ⟨vs, h1, h2⟩ := h; exact ⟨_, h1, fun _ => nofun⟩
  | dK kvs => obtain ⟨vs, h1, h2⟩ := h; exact ⟨_, h1, fun _ => nofun⟩
  | fK kvs => obtain ⟨q, vs, h1, h2⟩ := h; exact ⟨_, h1, fun _ => nofun⟩
  | dT kvs => obtain ⟨vs, h1, h2⟩ := h; exact ⟨_, h1, fun _ => nofun⟩
/-- the store, by addresses -/
structure Sim (K : PySem.W.Frag) (φ : List Addr) (S : Sto) (H : Hp) : Prop where
  len : φ.length = S.length
  nd : φ.Nodup
  at_ : ∀ (n : Nat) (o : MO) (a : Addr), S[n]? = some o → φ[n]? = some a → RelM K φ H a o
variable {S S' : Sto}
theorem Sim.get (s : Sim K φ S H) {n : Nat} {a : Addr} (h : φ[n]? = some a) : ∃ o, S[n]? = some o ∧ RelM K φ H a o := by
  have hl := (List.getElem?_eq_some_iff.mp h).1
  rw [s.len] at hl
  exact ⟨S[n], List.getElem?_eq_getElem hl, s.at_ n _ a (List.getElem?_eq_getElem hl) h⟩
theorem Sim.addr (s : Sim K φ S H) {n : Nat} {o : MO} (h : S[n]? = some o) : ∃ a, φ[n]? = some a ∧ RelM K φ H a o := by
  have hl := (List.getElem?_eq_some_iff.mp h).1
  rw [← s.len] at hl
  exact ⟨φ[n], List.getElem?_eq_getElem hl, s.at_ n _ _ h (List.getElem?_eq_getElem hl)⟩
theorem Sim.inj (s : Sim K φ S H) {n m : Nat} {a : Addr} (h : φ[n]? = some a) (h' : φ[m]? = some a) : n = m := by
  obtain ⟨h1, e1⟩ := List.getElem?_eq_some_iff.mp h
  obtain ⟨h2, e2⟩ := List.getElem?_eq_some_iff.mp h'
  exact (List.getElem_inj s.nd).mp (e1.trans e2.symm)
theorem Sim.ne_new (s : Sim K φ S H) {n : Nat} {a p : Addr} (h : φ[n]? = some a) (hp : H p = none) : a ≠ p := by
  obtain ⟨o, _, r⟩ := s.get h
  obtain ⟨u, e, _⟩ := r.there
  exact ne_of_none e hp
/-- an object that is not counted -/
theorem Sim.skip (s : Sim K φ S H) {p : Addr} {o : HO} (hp : H p = none) : Sim K φ S (upd H p o) :=
  ⟨s.len, s.nd, fun n m a e1 e2 => (s.at_ n m a e1 e2).keep (by simpa using (Grow.new hp []).toGr0) (upd_ne (s.ne_new e2 hp))⟩
/-- a new object -/
theorem Sim.new (s : Sim K φ S H) {p : Addr} {o : HO} {m : MO} (hp : H p = none) (h : RelM K (φ ++ [p]) (upd H p o) p m) : Sim K (φ ++ [p]) (S ++ [m]) (upd H p o) := by
  refine ⟨by simp [s.len], ?_, fun n q a e1 e2 => ?_⟩
  · rw [List.nodup_append]
    refine ⟨s.nd, by simp, fun a ha b hb => ?_⟩
    obtain ⟨n, hn⟩ := List.mem_iff_getElem?.mp ha
    rw [List.mem_singleton.mp hb]
    exact s.ne_new hn hp
  · by_cases hn : n < S.length
    · rw [List.getElem?_append_left hn] at e1
      rw [List.getElem?_append_left (by rw [s.len]; exact hn)] at e2
      exact (s.at_ n q a e1 e2).keep (Grow.new hp [p]).toGr0 (upd_ne (s.ne_new e2 hp))
    · have e : n = S.length := by
        have := (List.getElem?_eq_some_iff.mp e1).1
        simp at this; omega
      subst e
      rw [List.getElem?_append_right (by rw [s.len]; exact Nat.le_refl _), s.len] at e2
      simp at e1 e2
      rw [← e1, ← e2]
      exact h
/-- an object is written -/
theorem Sim.write (s : Sim K φ S H) {n : Nat} {a : Addr} {u o : HO} {m : MO} (h : φ[n]? = some a) (hu : H a = some u) (h1 : ∀ xs, u ≠ .tup xs) (h2 : ∀ o' w, u = .frz o' w → ∃ k, w = .dK k) (g : Gr0 φ H φ (upd H a o)) (hm : RelM K φ (upd H a o) a m) :
    Sim K φ (S.set n m) (upd H a o) := by
  refine ⟨by simp [s.len], s.nd, fun k q b e1 e2 => ?_⟩
  by_cases hk : k = n
  · subst hk
    rw [h] at e2
    cases e2
    have hl : k < S.length := by rw [← s.len]; exact (List.getElem?_eq_some_iff.mp h).1
    rw [List.getElem?_set_self hl] at e1
    cases e1
    exact hm
  · rw [List.getElem?_set_ne (Ne.symm hk)] at e1
    exact (s.at_ k q b e1 e2).keep g (upd_ne fun z => hk (s.inj (z ▸ e2) h))
/-- what stands already is counted -/
theorem Sim.count (s : Sim K φ S H) {p : Addr} {m : MO} (hn : p ∉ φ) (h : RelM K (φ ++ [p]) H p m) : Sim K (φ ++ [p]) (S ++ [m]) H := by
  refine ⟨by simp [s.len], ?_, fun n q a e1 e2 => ?_⟩
  · rw [List.nodup_append]
    refine ⟨s.nd, by simp, fun a ha b hb => ?_⟩
    rw [List.mem_singleton.mp hb]
    exact fun z => hn (z ▸ ha)
  · by_cases hn : n < S.length
    · rw [List.getElem?_append_left hn] at e1
      rw [List.getElem?_append_left (by rw [s.len]; exact hn)] at e2
      exact (s.at_ n q a e1 e2).keep (Gr0.ext [p]) rfl
    · have e : n = S.length := by
        have := (List.getElem?_eq_some_iff.mp e1).1
        simp at this; omega
      subst e
      rw [List.getElem?_append_right (by rw [s.len]; exact Nat.le_refl _), s.len] at e2
      simp at e1 e2
      rw [← e1, ← e2]
      exact h
/-- what is not counted changes -/
theorem Sim.other (s : Sim K φ S H) {p : Addr} {o : HO} (hn : p ∉ φ) (g : Gr0 φ H φ (upd H p o)) : Sim K φ S (upd H p o) :=
  ⟨s.len, s.nd, fun n m a e1 e2 => (s.at_ n m a e1 e2).keep g (upd_ne fun z => hn (z ▸ List.mem_of_getElem? e2))⟩
end
/-! ### what is wanted -/
/-- an error: its class, its field -/
def RelX (K : PySem.W.Frag) (mg : Str → Option Value) (φ : List Addr) (H : Hp) (c : Str) (x : Option (Str × D)) (cls : Value) (d : Option Addr) : Prop :=
  mg c = some cls ∧ (∃ C, cls = .ref C) ∧ match x with
    | none => True
    | some (f, y) => ∃ a v, d = some a ∧ H a = some (.xd [(f, v)]) ∧ RelD K φ H y v
def PostG {α β : Type} (K : PySem.W.Frag) (mg : Str → Option Value) (R : List Addr → Hp → α → β → Prop) (r : Res α) (φ : List Addr) (H : Hp) (Q : β → Hp → Prop) (W : XK) : Prop := match r with
  | .ok a S' => ∀ φ' y H', Grow φ H φ' H' → Sim K φ' S' H' → R φ' H' a y → Q y H'
  | .exc c x S' => ∀ φ' cls d H', Grow φ H φ' H' → Sim K φ' S' H' → RelX K mg φ' H' c x cls d → W cls d H'
  | .fail => False
section
variable {K : PySem.W.Frag} {mg : Str → Option Value} {α β γ δ : Type} {R : List Addr → Hp → α → β → Prop} {R' : List Addr → Hp → γ → δ → Prop} {φ φ' : List Addr} {H H' : Hp} {Q Q' : β → Hp → Prop} {W W' : XK} {r : Res α}
theorem PostG.grow (h : PostG K mg R r φ H Q W) (g : Grow φ H φ' H') : PostG K mg R r φ' H' Q W := by
  cases r with
  | ok a S' => exact fun φ2 y H2 g2 => h φ2 y H2 (g.trans g2)
  | exc c x S' => exact fun φ2 y d H2 g2 => h φ2 y d H2 (g.trans g2)
  | fail => exact h
theorem PostG.mono (h : PostG K mg R r φ H Q W) (k : ∀ y H, Q y H → Q' y H) : PostG K mg R r φ H Q' W := by
  cases r with
  | ok a S' => exact fun φ2 y H2 g2 s r => k _ _ (h φ2 y H2 g2 s r)
  | exc c x S' => exact h
  | fail => exact h
theorem PostG.bind {f : α → Sto → Res γ} {Q : δ → Hp → Prop} (h : PostG K mg R' (r.bind f) φ H Q W) :
    PostG K mg R r φ H (fun y H1 => ∃ φ1 S1 a, Grow φ H φ1 H1 ∧ Sim K φ1 S1 H1 ∧ R φ1 H1 a y ∧ r = .ok a S1 ∧ PostG K mg R' (f a S1) φ1 H1 Q W) W := by
  cases r with
  | ok a S' => exact fun φ2 y H2 g2 s r => ⟨φ2, S', a, g2, s, r, rfl, PostG.grow (r := f a S') h g2⟩
  | exc c x S' => exact h
  | fail => exact h
theorem PostG.here {a : α} {S : Sto} {y : β} (h : PostG K mg R (.ok a S) φ H Q W) (s : Sim K φ S H) (r : R φ H a y) : Q y H := h φ y H (.refl _ _) s r
theorem PostG.noexc {a : Op α} (h : PostG K mg R (.of a) φ H Q W) : ∃ x S, a = some (x, S) ∧ ∀ φ' y H', Grow φ H φ' H' → Sim K φ' S H' → R φ' H' x y → Q y H' := by
  cases a with
  | none => exact h.elim
  | some p => exact ⟨p.1, p.2, rfl, h⟩
end
end G

end

section
set_option Elab.async false
set_option linter.all false
set_option maxRecDepth 100000
/-! G4: each operation over HandS's rules. -/
namespace G
open PySem PySem.Spec PyProof.Rows L2
section
variable {K : PySem.W.Frag} {mg : Str → Option Value} {φ : List Addr} {S S' : Sto} {H : Hp} {Q : VK} {a b d : D} {x y : V}
abbrev noW : XK := fun _ _ _ => False
/-- what is wanted of a value -/
abbrev PostV (K : PySem.W.Frag) (mg : Str → Option Value) (r : Op D) (φ : List Addr) (H : Hp) (Q : VK) : Prop := PostG K mg (RelD K) (.of r) φ H Q noW
theorem PostV.get (h : PostV K mg r φ H Q) : ∃ d S, r = some (d, S) ∧ ∀ φ' y H', Grow φ H φ' H' → Sim K φ' S H' → RelD K φ' H' d y → Q y H' := PostG.noexc h
theorem lstAt_iff {S : Sto} {k : Nat} {xs : List D} : lstAt S k = some xs ↔ S[k]? = some (.lst xs) := by
  unfold lstAt
  split <;> simp_all
/-- the list that a reference stands for -/
theorem Sim.lst (s : Sim K φ S H) {k : Nat} {xs : List D} (h : lstAt S k = some xs) (r : RelD K φ H (.ref k) x) : ∃ p vs, x = .ref p ∧ φ[k]? = some p ∧ H p = some (.lst vs) ∧ RelDs K φ H xs vs := by
  cases r with
  | ref e =>
    obtain ⟨vs, h1, h2⟩ := s.at_ _ _ _ (lstAt_iff.mp h) e
    exact ⟨_, vs, rfl, e, h1, h2⟩
/-- a list, a tuple: its items -/
theorem Sim.seq (s : Sim K φ S H) {xs : List D} (h : seqD S d = some xs) (r : RelD K φ H d x) : ∃ p vs, x = .ref p ∧ (SqL K H p vs ∨ SqT K H p vs) ∧ RelDs K φ H xs vs := by
  cases d with
  | tup ys => cases h; cases r with | tup q t => exact ⟨_, _, rfl, .inr q, t⟩
  | fl ys => cases h; cases r with | fl q t => exact ⟨_, _, rfl, .inl q.sq, t⟩
  | ref k =>
    obtain ⟨p, vs, e, _, h1, h2⟩ := s.lst h r
    exact ⟨p, vs, e, .inl (.of h1), h2⟩
  | _ => cases h
/-- a new list -/
theorem newR_lst (s : Sim K φ S H) {xs : List D} {vs : List V} (r : RelDs K φ H xs vs) (h : ∀ φ' y H', Grow φ H φ' H' → Sim K φ' (S ++ [.lst xs]) H' → RelD K φ' H' (.ref S.length) y → Q y H') {p : Addr} (hp : H p = none) :
    Q (.ref p) (upd H p (.lst vs)) :=
  h (φ ++ [p]) (.ref p) _ (.new hp [p]) (s.new hp ⟨vs, upd_same, r.grow (.new hp [p])⟩) (.ref (by rw [← s.len]; simp))
theorem newL_ok (s : Sim K φ S H) {xs : List D} {vs : List V} (r : RelDs K φ H xs vs) (e : newL xs S = some (d, S')) (h : ∀ φ' y H', Grow φ H φ' H' → Sim K φ' S' H' → RelD K φ' H' d y → Q y H') :
    vs.length ≤ sizeLine ∧ ∀ p, H p = none → Q (.ref p) (upd H p (.lst vs)) := by
  unfold newL at e
  split at e
  · rename_i hl
    cases e
    exact ⟨by rw [← r.pd.length]; exact big_line hl, fun p hp => newR_lst s r h hp⟩
  · cases e
theorem newT_ok (s : Sim K φ S H) {xs : List D} {vs : List V} (r : RelDs K φ H xs vs) (e : newT xs S = some (d, S')) (h : ∀ φ' y H', Grow φ H φ' H' → Sim K φ' S' H' → RelD K φ' H' d y → Q y H') :
    d = .tup xs ∧ S' = S ∧ vs.length ≤ sizeLine ∧ ∀ p, H p = none → Q (.ref p) (upd H p (.tup vs)) := by
  unfold newT at e
  split at e
  · rename_i hl
    cases e
    refine ⟨rfl, rfl, by rw [← r.pd.length]; exact big_line hl, fun p hp => ?_⟩
    have g : Grow φ H φ (upd H p (.tup vs)) := by simpa using Grow.new (φ := φ) (H := H) (o := .tup vs) hp []
    exact h φ (.ref p) _ g (s.skip hp) (.tup (.of upd_same) (r.grow g))
  · cases e
theorem divOk_iff {j : Int} (h : divOk j = true) : j ≠ 0 ∧ j.natAbs.log2 < 9000 := by
  unfold divOk at h
  simp at h
  exact h
theorem op_fdivG {X : Cx} : OpR X (binaryOp .FloorDiv) (rI (fun _ j => j ≠ 0 ∧ j.natAbs.log2 < 9000) fun i j => .int (i.fdiv j)) := opI fun i j _ _ _ _ _ hc q =>
  floordiv_int hc.1 q (.inl (PyProof.noPylong_of_log2 hc.2))
theorem mulOk_iff {i j : Int} (h : mulOk i j = true) : CMulW i j := by
  unfold mulOk at h
  exact (show i.natAbs.log2 + j.natAbs.log2 < 1000000 from of_decide_eq_true h)
theorem powOk_iff {i j : Int} (h : powOk i j = true) : CPow i j := by
  unfold powOk at h
  simp at h
  exact ⟨h.1.1, h.1.2, h.2⟩
end
abbrev rOp2 (K : PySem.W.Frag) (mg : Str → Option Value) (f : D → D → Sto → Op D) : R2 := fun x y H Q => ∃ φ S a b, Sim K φ S H ∧ RelD K φ H a x ∧ RelD K φ H b y ∧ PostV K mg (f a b S) φ H Q
abbrev rOp1 (K : PySem.W.Frag) (mg : Str → Option Value) (f : D → Sto → Op D) : V → Hp → VK → Prop := fun x H Q => ∃ φ S a, Sim K φ S H ∧ RelD K φ H a x ∧ PostV K mg (f a S) φ H Q
section
variable {X : Cx} {mg : Str → Option Value}
set_option maxHeartbeats 1000000 in
theorem op_binD (op : Operator) : OpR X (binaryOp op) (rOp2 X.K mg (binD op)) := by
  intro pins s σ H x y v u Q I rx ry ⟨φ, S, a, b, sim, ra, rb, h⟩
  obtain ⟨d, S', e, k⟩ := h.get
  unfold binD at e
  split at e
  case h_1 i j => cases e; cases ra; cases rb; exact op_add pins s σ H _ _ v u Q I rx ry ⟨_, _, rfl, rfl, k φ _ H (.refl _ _) sim (.int _)⟩
  case h_2 i j =>
    split at e
    · rename_i hl
      cases e; cases ra; cases rb; exact op_add_str pins s σ H _ _ v u Q I rx ry ⟨_, _, rfl, rfl, big_line hl, k φ _ H (.refl _ _) sim (.str _)⟩
    · cases e
  case h_3 xs ys =>
    cases ra with | tup q1 t1 => cases rb with | tup q2 t2 =>
    obtain ⟨rfl, rfl, hl, k2⟩ := newT_ok sim (RelDs.of (Pd.append t1.pd t2.pd)) e k
    rw [List.length_append] at hl
    refine op_catA pins s σ H _ _ v u Q I rx ry ⟨_, _, _, _, rfl, rfl, q1, q2, hl, fun e1 => ?_, fun _ e2 => ?_, fun _ _ p hp => k2 p hp⟩
    · subst e1
      have := t1.pd.length
      have e3 : xs = [] := by simpa using this
      subst e3
      exact k φ _ H (.refl _ _) sim (.tup q2 (by simpa using t2))
    · subst e2
      have := t2.pd.length
      have e3 : ys = [] := by simpa using this
      subst e3
      exact k φ _ H (.refl _ _) sim (.tup q1 (by simpa using t1))
  case h_4 m n =>
    split at e
    · rename_i xs ys h1 h2
      obtain ⟨p, vs, rfl, e1, hp, r1⟩ := sim.lst h1 ra
      obtain ⟨q, ws, rfl, e2, hq, r2⟩ := sim.lst h2 rb
      obtain ⟨hl, k2⟩ := newL_ok sim (RelDs.of (Pd.append r1.pd r2.pd)) e k
      rw [List.length_append] at hl
      exact op_cat pins s σ H _ _ v u Q I rx ry ⟨_, _, _, _, rfl, rfl, hp, hq, hl, k2⟩
    · cases e
  case h_5 i j => cases e; cases ra; cases rb; exact op_sub pins s σ H _ _ v u Q I rx ry ⟨_, _, rfl, rfl, k φ _ H (.refl _ _) sim (.int _)⟩
  case h_6 i j =>
    split at e
    · rename_i hl
      cases e; cases ra; cases rb; exact op_mulW pins s σ H _ _ v u Q I rx ry ⟨_, _, rfl, rfl, mulOk_iff hl, k φ _ H (.refl _ _) sim (.int _)⟩
    · cases e
  case h_7 m n =>
    split at e
    · rename_i xs h1
      split at e
      · rename_i hb
        obtain ⟨p, vs, rfl, e1, hp, r1⟩ := sim.lst h1 ra
        cases rb
        obtain ⟨hl, k2⟩ := newL_ok sim (RelDs.of (Pd.rep r1.pd n.toNat)) e k
        simp at hb
        refine op_rep pins s σ H _ _ v u Q I rx ry ⟨_, _, _, rfl, rfl, hp, by omega, by omega, ?_, k2⟩
        have : (List.replicate n.toNat vs).flatten.length = vs.length * n.toNat := by
          rw [List.length_flatten, List.map_replicate, List.sum_replicate_nat]
          exact Nat.mul_comm _ _
        rw [← this]
        exact hl
      · cases e
    · cases e
  case h_8 i j =>
    split at e
    · rename_i hl
      cases e; cases ra; cases rb; exact op_fdivG pins s σ H _ _ v u Q I rx ry ⟨_, _, rfl, rfl, divOk_iff hl, k φ _ H (.refl _ _) sim (.int _)⟩
    · cases e
  case h_9 i j =>
    split at e
    · rename_i hl
      cases e; cases ra; cases rb; exact op_modN pins s σ H _ _ v u Q I rx ry ⟨_, _, rfl, rfl, by simpa using hl, k φ _ H (.refl _ _) sim (.int _)⟩
    · cases e
  case h_10 i j =>
    split at e
    · rename_i hl
      cases e; cases ra; cases rb; exact op_pow pins s σ H _ _ v u Q I rx ry ⟨_, _, rfl, rfl, powOk_iff hl, k φ _ H (.refl _ _) sim (.int _)⟩
    · cases e
  case h_11 i j =>
    split at e
    · rename_i hl
      cases e; cases ra; cases rb; exact op_shl pins s σ H _ _ v u Q I rx ry ⟨_, _, rfl, rfl, powOk_iff hl, k φ _ H (.refl _ _) sim (.int _)⟩
    · cases e
  case h_12 i j =>
    split at e
    · rename_i hl
      cases e; cases ra; cases rb; exact op_shr pins s σ H _ _ v u Q I rx ry ⟨_, _, rfl, rfl, hl, k φ _ H (.refl _ _) sim (.int _)⟩
    · cases e
  case h_13 i j => cases e; cases ra; cases rb; exact op_and pins s σ H _ _ v u Q I rx ry ⟨_, _, rfl, rfl, k φ _ H (.refl _ _) sim (.int _)⟩
  case h_14 i j => cases e; cases ra; cases rb; exact op_or pins s σ H _ _ v u Q I rx ry ⟨_, _, rfl, rfl, k φ _ H (.refl _ _) sim (.int _)⟩
  case h_15 i j => cases e; cases ra; cases rb; exact op_xor pins s σ H _ _ v u Q I rx ry ⟨_, _, rfl, rfl, k φ _ H (.refl _ _) sim (.int _)⟩
  case h_16 => cases e
theorem un_negD : UnR X (unaryOp .USub) (rOp1 X.K mg negD) := by
  intro pins s σ H x v Q I rx ⟨φ, S, a, sim, ra, h⟩
  obtain ⟨d, S', e, k⟩ := h.get
  unfold negD at e
  split at e
  · cases e; cases ra; exact un_neg pins s σ H _ v Q I rx ⟨_, rfl, k φ _ H (.refl _ _) sim (.int _)⟩
  · cases e
theorem mapO_pd {α β γ : Type} {F : α → γ → Prop} {G' : β → γ → Prop} {f : α → Option β} (h : ∀ a b c, f a = some b → F a c → G' b c) : ∀ {xs : List α} {ys : List β} {zs : List γ}, mapO f xs = some ys → Paired F xs zs → Paired G' ys zs
  | [], _, _, e, .nil => by cases e; exact .nil
  | x :: xs, ys, _, e, .cons r t => by
    unfold mapO at e
    split at e
    · rename_i d ds e1 e2
      cases e
      exact .cons (h _ _ _ e1 r) (mapO_pd h e2 t)
    · cases e
theorem pd_dp {K : PySem.W.Frag} {H : Hp} {ys : List PyData} {vs : List V} (h : Paired (fun d v => Dp K H v d) ys vs) : DpAll K H vs ys := by
  induction h with
  | nil => exact .nil
  | cons r _ ih => exact .cons r ih
/-- the data of a value -/
theorem dat_dp {K : PySem.W.Frag} {φ : List Addr} {S : Sto} {H : Hp} (sim : Sim K φ S H) : ∀ (n : Nat) (d : D) (p : PyData) (v : V), datD S n d = some p → RelD K φ H d v → Dp K H v p
  | n, .non, p, v, e, r => by cases r; cases n <;> (cases e; exact .non)
  | n, .bl b, p, v, e, r => by cases r; cases n <;> (cases e; exact .bl b)
  | n, .int b, p, v, e, r => by cases r; cases n <;> (cases e; exact .int b)
  | n, .str b, p, v, e, r => by cases r; cases n <;> (cases e; exact .str b)
  | 0, .tup xs, p, v, e, r => by cases e
  | 0, .fl xs, p, v, e, r => by cases e
  | 0, .ref k, p, v, e, r => by cases e
  | n + 1, .tup xs, p, v, e, r => by
    unfold datD at e
    obtain ⟨ys, e1, rfl⟩ := Option.map_eq_some_iff.mp e
    cases r with | tup q t => exact .tup q (pd_dp (mapO_pd (fun a b c e r => dat_dp sim n a b c e r) e1 t.pd))
  | n + 1, .fl xs, p, v, e, r => by
    unfold datD at e
    obtain ⟨ys, e1, rfl⟩ := Option.map_eq_some_iff.mp e
    cases r with | fl q t => exact .lst q.sq (pd_dp (mapO_pd (fun a b c e r => dat_dp sim n a b c e r) e1 t.pd))
  | n + 1, .ref k, p, v, e, r => by
    unfold datD at e
    split at e
    · rename_i xs hx
      obtain ⟨ys, e1, rfl⟩ := Option.map_eq_some_iff.mp e
      obtain ⟨p, vs, rfl, e2, h1, h2⟩ := sim.lst (lstAt_iff.mpr hx) r
      exact .lst (.of h1) (pd_dp (mapO_pd (fun a b c e r => dat_dp sim n a b c e r) e1 h2.pd))
    · cases e
theorem eqD_get {K : PySem.W.Frag} {φ : List Addr} {S : Sto} {H : Hp} (sim : Sim K φ S H) {a b : D} {x y : V} {r : Bool} (e : eqD S a b = some r) (ra : RelD K φ H a x) (rb : RelD K φ H b y) :
    ∃ d e, Dp K H x d ∧ Dp K H y e ∧ SeqAt.shaped d = true ∧ SeqAt.shaped e = true ∧ r = PyData.eqv d e := by
  unfold eqD at e
  split at e
  · rename_i d f h1 h2
    split at e
    · rename_i hs
      cases e
      rw [Bool.and_eq_true] at hs
      exact ⟨d, f, dat_dp sim _ _ _ _ h1 ra, dat_dp sim _ _ _ _ h2 rb, hs.1, hs.2, rfl⟩
    · cases e
  · cases e
theorem inL_get {K : PySem.W.Frag} {φ : List Addr} {S : Sto} {H : Hp} (sim : Sim K φ S H) {mk : List PyData → PyData} {a : D} {ys : List D} {x : V} {vs : List V} {r : Bool} (e : inL mk S a ys = some r) (ra : RelD K φ H a x) (rb : RelDs K φ H ys vs) :
    ∃ d ds, Dp K H x d ∧ DpAll K H vs ds ∧ SeqAt.shaped d = true ∧ SeqAt.shaped (mk ds) = true ∧ r = ds.any fun z => PyData.eqv z d := by
  unfold inL at e
  split at e
  · rename_i d f h1 h2
    split at e
    · rename_i hs
      cases e
      rw [Bool.and_eq_true] at hs
      exact ⟨d, f, dat_dp sim _ _ _ _ h1 ra, pd_dp (mapO_pd (fun a b c e r => dat_dp sim _ a b c e r) h2 rb.pd), hs.1, hs.2, rfl⟩
    · cases e
  · cases e
def rInT (K : PySem.W.Frag) : R2 := fun x y H Q => ∃ d ds, Dp K H x d ∧ Dp K H y (.tuple ds) ∧ SeqAt.shaped d = true ∧ SeqAt.shaped (.tuple ds) = true ∧ Q (.bl (ds.any fun z => PyData.eqv z d)) H
def rNotInT (K : PySem.W.Frag) : R2 := fun x y H Q => ∃ d ds, Dp K H x d ∧ Dp K H y (.tuple ds) ∧ SeqAt.shaped d = true ∧ SeqAt.shaped (.tuple ds) = true ∧ Q (.bl (!ds.any fun z => PyData.eqv z d)) H
theorem op_inT (hu : X.A.units + 65 < cLine) : OpR X (compareOp .In) (rInT X.K) := by
  intro pins s σ H x y v u Q I rx ry h
  obtain ⟨d, ds, hd, he, sd, se, q⟩ := h
  obtain ⟨as, r1⟩ := Dp.reads I d x v hd rx
  obtain ⟨bs, r2⟩ := Dp.reads I (.tuple ds) y u he ry
  exact SeqAt.in_tuple_reads r2 r1 (SeqAt.canLay_of_shaped se) (SeqAt.canLay_of_shaped sd) (room_in_shaped sd hu) ⟨.bl _, H, I, rfl, q⟩
theorem op_notInT (hu : X.A.units + 65 < cLine) : OpR X (compareOp .NotIn) (rNotInT X.K) := by
  intro pins s σ H x y v u Q I rx ry h
  obtain ⟨d, ds, hd, he, sd, se, q⟩ := h
  obtain ⟨as, r1⟩ := Dp.reads I d x v hd rx
  obtain ⟨bs, r2⟩ := Dp.reads I (.tuple ds) y u he ry
  exact SeqAt.notIn_tuple_reads r2 r1 (SeqAt.canLay_of_shaped se) (SeqAt.canLay_of_shaped sd) (room_in_shaped sd hu) ⟨.bl _, H, I, rfl, q⟩
/-! ### dicts -/
theorem keyD_rel {K : PySem.W.Frag} {φ : List Addr} {H : Hp} {d : D} {q : Key} {y : V} (e : keyD d = some q) (r : RelD K φ H d y) : y = kV q := by
  cases d with
  | int i => cases e; cases r; rfl
  | str i => cases e; cases r; rfl
  | _ => cases e
theorem getK_rel {K : PySem.W.Frag} {φ : List Addr} {H : Hp} {kvs : List (Key × D)} {ws : List (Key × V)} (r : RelKV K φ H kvs ws) (q : Key) :
    match getK kvs q, valV ws q with
    | some d, some v => RelD K φ H d v
    | none, none => True
    | _, _ => False := by
  induction r with
  | nil => exact True.intro
  | @cons p w kvs ws h t ih =>
    by_cases e : p.1 = q
    · have e1 : getK (p :: kvs) q = some p.2 := by simp [getK, e]
      have e2 : valV (w :: ws) q = some w.2 := valV_pos (h.1.symm.trans e)
      rw [e1, e2]
      exact h.2
    · have e1 : getK (p :: kvs) q = getK kvs q := by simp [getK, e]
      have e2 : valV (w :: ws) q = valV ws q := valV_neg (fun z => e (h.1.trans z))
      rw [e1, e2]
      exact ih
theorem getK_some {K : PySem.W.Frag} {φ : List Addr} {H : Hp} {kvs : List (Key × D)} {ws : List (Key × V)} (r : RelKV K φ H kvs ws) {q : Key} {d : D} (e : getK kvs q = some d) : ∃ v, valV ws q = some v ∧ RelD K φ H d v := by
  have h := getK_rel r q
  rw [e] at h
  cases hv : valV ws q with
  | none => rw [hv] at h; exact h.elim
  | some v => rw [hv] at h; exact ⟨v, rfl, h⟩
theorem getK_isSome {K : PySem.W.Frag} {φ : List Addr} {H : Hp} {kvs : List (Key × D)} {ws : List (Key × V)} (r : RelKV K φ H kvs ws) (q : Key) : (getK kvs q).isSome = (valV ws q).isSome := by
  have h := getK_rel r q
  cases h1 : getK kvs q with
  | none => cases h2 : valV ws q with
    | none => rfl
    | some v => rw [h1, h2] at h; exact h.elim
  | some d => cases h2 : valV ws q with
    | none => rw [h1, h2] at h; exact h.elim
    | some v => rfl
theorem putK_rel {K : PySem.W.Frag} {φ : List Addr} {H : Hp} {kvs : List (Key × D)} {ws : List (Key × V)} (r : RelKV K φ H kvs ws) {q : Key} {d : D} {v : V} (rd : RelD K φ H d v) : RelKV K φ H (putK kvs q d) (L2.putK ws q v) := by
  have any : ∀ {kvs : List (Key × D)} {ws : List (Key × V)}, RelKV K φ H kvs ws → (kvs.any fun kv => decide (kv.1 = q)) = (ws.any fun kv => decide (kv.1 = q)) := by
    intro kvs ws r
    induction r with
    | nil => rfl
    | cons h _ ih => rw [List.any_cons, List.any_cons, ih, h.1]
  unfold putK L2.putK
  rw [any r]
  split
  · rename_i hh
    clear any hh
    induction r with
    | nil => exact .nil
    | @cons p w kvs ws h t ih =>
      rw [List.map_cons, List.map_cons]
      refine .cons ?_ ih
      by_cases e : p.1 = q
      · rw [if_pos e, if_pos (h.1.symm.trans e)]; exact ⟨h.1, rd⟩
      · rw [if_neg e, if_neg (fun z => e (h.1.trans z))]; exact h
  · exact Pd.append r (.cons ⟨rfl, rd⟩ .nil)
theorem mergeD_rel {K : PySem.W.Frag} {φ : List Addr} {H : Hp} {kvs : List (Key × D)} {ws : List (Key × V)} (r : RelKV K φ H kvs ws) : RelKV K φ H (mergeD kvs) (mergeK [] ws) := by
  unfold mergeD mergeK
  have : ∀ {kvs : List (Key × D)} {ws : List (Key × V)}, RelKV K φ H kvs ws → ∀ {acc : List (Key × D)} {acc' : List (Key × V)}, RelKV K φ H acc acc' → RelKV K φ H (kvs.foldl (fun acc p => putK acc p.1 p.2) acc) (ws.foldl (fun acc kv => L2.putK acc kv.1 kv.2) acc') := by
    intro kvs ws r
    induction r with
    | nil => intro _ _ ra; exact ra
    | @cons p w kvs ws h t ih => intro _ _ ra; rw [List.foldl_cons, List.foldl_cons]; exact ih (by rw [← h.1]; exact putK_rel ra h.2)
  exact this r .nil
/-- a dict with int and text keys, read -/
theorem Sim.dic {K : PySem.W.Frag} {φ : List Addr} {S : Sto} {H : Hp} (s : Sim K φ S H) {k : Nat} {x : V} {kvs : List (Key × D)} (h : S[k]? = some (.dK kvs) ∨ S[k]? = some (.fK kvs)) (r : RelD K φ H (.ref k) x) :
    ∃ p ws, x = .ref p ∧ φ[k]? = some p ∧ Rd H p (.dK ws) ∧ RelKV K φ H kvs ws := by
  cases r with
  | ref e =>
    rcases h with h | h
    · obtain ⟨vs, h1, h2⟩ := s.at_ _ _ _ h e
      exact ⟨_, vs, rfl, e, .inl h1, h2⟩
    · obtain ⟨o, vs, h1, h2⟩ := s.at_ _ _ _ h e
      exact ⟨_, vs, rfl, e, .inr ⟨o, h1⟩, h2⟩
theorem in_get {K : PySem.W.Frag} {φ : List Addr} {S : Sto} {H : Hp} (sim : Sim K φ S H) {a b : D} {x y : V} {r : Bool} (e : inD S a b = some r) (ra : RelD K φ H a x) (rb : RelD K φ H b y) :
    (∃ p ws q, y = .ref p ∧ Rd H p (.dK ws) ∧ x = kV q ∧ r = (valV ws q).isSome) ∨
    (∃ d ds, Dp K H x d ∧ Dp K H y (.list ds) ∧ SeqAt.shaped d = true ∧ SeqAt.shaped (.list ds) = true ∧ r = ds.any fun z => PyData.eqv z d) ∨
    (∃ d ds, Dp K H x d ∧ Dp K H y (.tuple ds) ∧ SeqAt.shaped d = true ∧ SeqAt.shaped (.tuple ds) = true ∧ r = ds.any fun z => PyData.eqv z d) := by
  unfold inD at e
  split at e
  · split at e
    · rename_i kvs hx
      obtain ⟨q, e1, rfl⟩ := Option.map_eq_some_iff.mp e
      obtain ⟨p, ws, rfl, _, h1, h2⟩ := sim.dic (.inl hx) rb
      exact .inl ⟨p, ws, q, rfl, h1, keyD_rel e1 ra, getK_isSome h2 q⟩
    · rename_i kvs hx
      obtain ⟨q, e1, rfl⟩ := Option.map_eq_some_iff.mp e
      obtain ⟨p, ws, rfl, _, h1, h2⟩ := sim.dic (.inr hx) rb
      exact .inl ⟨p, ws, q, rfl, h1, keyD_rel e1 ra, getK_isSome h2 q⟩
    · rename_i ys hx
      obtain ⟨p, vs, rfl, _, h1, h2⟩ := sim.lst (lstAt_iff.mpr hx) rb
      obtain ⟨d, ds, h3, h4, h5, h6, rfl⟩ := inL_get sim e ra h2
      exact .inr (.inl ⟨d, ds, h3, .lst (.of h1) h4, h5, h6, rfl⟩)
    · cases e
  · cases rb with
    | tup q t =>
      obtain ⟨d, ds, h3, h4, h5, h6, rfl⟩ := inL_get sim e ra t
      exact .inr (.inr ⟨d, ds, h3, .tup q h4, h5, h6, rfl⟩)
  · cases e
theorem ints_rel {K : PySem.W.Frag} {φ : List Addr} {H : Hp} {xs : List D} {ns : List Int} {vs : List V} (e : mapO intD xs = some ns) (r : RelDs K φ H xs vs) : vs = ns.map V.int := by
  have h : Paired (fun (n : Int) v => v = V.int n) ns vs := mapO_pd (fun a b c e r => by
    cases a with
    | int i => cases e; cases r; rfl
    | _ => cases e) e r.pd
  clear e r
  induction h with
  | nil => rfl
  | cons h1 _ ih => rw [List.map_cons, h1, ih]
theorem bls_rel {K : PySem.W.Frag} {φ : List Addr} {H : Hp} {xs : List D} {ns : List Bool} {vs : List V} (e : mapO blD xs = some ns) (r : RelDs K φ H xs vs) : vs = ns.map V.bl := by
  have h : Paired (fun (n : Bool) v => v = V.bl n) ns vs := mapO_pd (fun a b c e r => by
    cases a with
    | bl i => cases e; cases r; rfl
    | _ => cases e) e r.pd
  clear e r
  induction h with
  | nil => rfl
  | cons h1 _ ih => rw [List.map_cons, h1, ih]
end
end G

end

section
set_option Elab.async false
set_option linter.all false
set_option maxRecDepth 100000
/-! G5: comparisons, subscripts, slices, stores, built-ins, methods. -/
namespace G
open PySem PySem.Spec PyProof.Rows L2
section
variable {X : Cx} {mg : Str → Option Value}
theorem isD_get {K : PySem.W.Frag} {φ : List Addr} {H : Hp} {a b : D} {x y : V} {r : Bool} (e : isD a b = some r) (ra : RelD K φ H a x) (rb : RelD K φ H b y) :
    (∃ i j, x = .bl i ∧ y = .bl j ∧ r = decide (i = j)) ∨ (y = .non ∧ r = decide (x = .non)) := by
  unfold isD at e
  split at e
  case h_1 i j => cases e; cases ra; cases rb; exact .inl ⟨i, j, rfl, rfl, rfl⟩
  case h_2 => cases e; cases ra; cases rb; exact .inr ⟨rfl, rfl⟩
  case h_9 => cases e
  all_goals (cases e; cases ra; cases rb; exact .inr ⟨rfl, rfl⟩)
theorem op_isG : OpR X (compareOp .Is) (fun x y H Q => (∃ i j, x = .bl i ∧ y = .bl j ∧ Q (.bl (decide (i = j))) H) ∨ (y = .non ∧ Q (.bl (decide (x = .non))) H)) := by
  intro pins s σ H x y v u Q I rx ry h
  rcases h with ⟨i, j, h1, h2, h3⟩ | h
  · exact op_isBl pins s σ H x y v u Q I rx ry ⟨i, j, h1, h2, h3⟩
  · exact op_isN pins s σ H x y v u Q I rx ry h
theorem op_isNotG : OpR X (compareOp .IsNot) (fun x y H Q => (∃ i j, x = .bl i ∧ y = .bl j ∧ Q (.bl (!decide (i = j))) H) ∨ (y = .non ∧ Q (.bl (!decide (x = .non))) H)) := by
  intro pins s σ H x y v u Q I rx ry h
  rcases h with ⟨i, j, h1, h2, h3⟩ | h
  · exact op_notBl pins s σ H x y v u Q I rx ry ⟨i, j, h1, h2, h3⟩
  · exact op_notN pins s σ H x y v u Q I rx ry h
set_option maxHeartbeats 1000000 in
theorem op_cmpD (hu : X.A.units + 200 < cLine) (op : CmpOp) : OpR X (compareOp op) (rOp2 X.K mg (cmpD op)) := by
  intro pins s σ H x y v u Q I rx ry ⟨φ, S, a, b, sim, ra, rb, h⟩
  obtain ⟨d, S', e, k⟩ := h.get
  unfold cmpD at e
  obtain ⟨r, e1, e2⟩ := Option.map_eq_some_iff.mp e
  cases e2
  have q : Q (.bl r) H := k φ _ H (.refl _ _) sim (.bl _)
  clear k h e
  have e := e1
  clear e1
  unfold cmpO at e
  cases op with
  | Eq =>
    simp only at e
    obtain ⟨d, f, h1, h2, h3, h4, rfl⟩ := eqD_get sim e ra rb
    exact op_eqD (by omega) pins s σ H _ _ v u Q I rx ry ⟨d, f, h1, h2, h3, h4, q⟩
  | NotEq =>
    simp only at e
    obtain ⟨r, e1, rfl⟩ := Option.map_eq_some_iff.mp e
    obtain ⟨d, f, h1, h2, h3, h4, rfl⟩ := eqD_get sim e1 ra rb
    exact op_neD (by omega) pins s σ H _ _ v u Q I rx ry ⟨d, f, h1, h2, h3, h4, q⟩
  | Lt =>
    simp only at e
    split at e
    · cases e; cases ra; cases rb; exact op_lt pins s σ H _ _ v u Q I rx ry ⟨_, _, rfl, rfl, q⟩
    · split at e
      · rename_i ns ms h1 h2
        cases e
        cases ra with | tup q1 t1 => cases rb with | tup q2 t2 =>
        rw [ints_rel h1 t1] at q1
        rw [ints_rel h2 t2] at q2
        exact op_ltT (by omega) pins s σ H _ _ v u Q I rx ry ⟨_, _, _, _, rfl, rfl, q1, q2, q⟩
      · cases e
    · cases e
  | LtE =>
    simp only at e
    split at e
    · cases e; cases ra; cases rb; exact op_le pins s σ H _ _ v u Q I rx ry ⟨_, _, rfl, rfl, q⟩
    · cases e
  | Gt =>
    simp only at e
    split at e
    · cases e; cases ra; cases rb; exact op_gt pins s σ H _ _ v u Q I rx ry ⟨_, _, rfl, rfl, q⟩
    · cases e
  | GtE =>
    simp only at e
    split at e
    · cases e; cases ra; cases rb; exact op_ge pins s σ H _ _ v u Q I rx ry ⟨_, _, rfl, rfl, q⟩
    · cases e
  | Is =>
    simp only at e
    refine op_isG pins s σ H _ _ v u Q I rx ry ?_
    rcases isD_get e ra rb with ⟨i, j, h1, h2, rfl⟩ | ⟨h1, rfl⟩
    · exact .inl ⟨i, j, h1, h2, q⟩
    · exact .inr ⟨h1, q⟩
  | IsNot =>
    simp only at e
    obtain ⟨r, e1, rfl⟩ := Option.map_eq_some_iff.mp e
    refine op_isNotG pins s σ H _ _ v u Q I rx ry ?_
    rcases isD_get e1 ra rb with ⟨i, j, h1, h2, rfl⟩ | ⟨h1, rfl⟩
    · exact .inl ⟨i, j, h1, h2, q⟩
    · exact .inr ⟨h1, q⟩
  | In =>
    simp only at e
    rcases in_get sim e ra rb with ⟨p, ws, q', rfl, h1, h2, rfl⟩ | ⟨d, ds, h1, h2, h3, h4, rfl⟩ | ⟨d, ds, h1, h2, h3, h4, rfl⟩
    · cases ry
      exact d_in (by omega) I (.inl ⟨ws, q', h1, h2, rfl⟩) rx fun s' I' => ⟨.bl _, H, I', rfl, q⟩
    · exact op_inD (by omega) pins s σ H _ _ v u Q I rx ry ⟨d, ds, h1, h2, h3, h4, q⟩
    · exact op_inT (by omega) pins s σ H _ _ v u Q I rx ry ⟨d, ds, h1, h2, h3, h4, q⟩
  | NotIn =>
    simp only at e
    obtain ⟨r, e1, rfl⟩ := Option.map_eq_some_iff.mp e
    rcases in_get sim e1 ra rb with ⟨p, ws, q', rfl, h1, h2, rfl⟩ | ⟨d, ds, h1, h2, h3, h4, rfl⟩ | ⟨d, ds, h1, h2, h3, h4, rfl⟩
    · cases ry
      exact d_notIn (by omega) I (.inl ⟨ws, q', h1, h2, rfl⟩) rx fun s' I' => ⟨.bl _, H, I', rfl, q⟩
    · exact op_notInD (by omega) pins s σ H _ _ v u Q I rx ry ⟨d, ds, h1, h2, h3, h4, q⟩
    · exact op_notInT (by omega) pins s σ H _ _ v u Q I rx ry ⟨d, ds, h1, h2, h3, h4, q⟩
/-! ### subscripts -/
theorem atD_pd {α β : Type} {F : α → β → Prop} {xs : List α} {ys : List β} (h : Paired F xs ys) {i : Int} {x : α} (e : atD xs i = some x) : ∃ y, atD ys i = some y ∧ F x y := by
  unfold atD at e ⊢
  rw [h.length] at e
  cases hj : ixN' ys.length i with
  | none => rw [hj] at e; cases e
  | some j =>
    rw [hj] at e
    exact Pd.get h e
theorem ixL_get {K : PySem.W.Frag} {φ : List Addr} {H : Hp} {S S' : Sto} {xs : List D} {vs : List V} {i d : D} {y : V} (e : ixL xs i S = some (d, S')) (r : RelDs K φ H xs vs) (ri : RelD K φ H i y) : ∃ j v, y = .int j ∧ atI vs j = some v ∧ RelD K φ H d v ∧ S' = S := by
  unfold ixL at e
  split at e
  · obtain ⟨w, e1, e2⟩ := Option.map_eq_some_iff.mp e
    cases e2
    cases ri
    obtain ⟨v, h1, h2⟩ := atD_pd r.pd e1
    exact ⟨_, v, rfl, h1, h2, rfl⟩
  · cases e
/-- what a subscript reads: an item of a list, a tuple, a text; of a dict -/
def rIxG (K : PySem.W.Frag) : R2 := fun x y H Q => rIx K x y H Q ∨ ∃ a v, x = .ref a ∧ DGet H a y (some v) ∧ Q v H
theorem ixD_get {K : PySem.W.Frag} {mg : Str → Option Value} {φ : List Addr} {H : Hp} {S : Sto} (sim : Sim K φ S H) {a i : D} {x y : V} {Q : VK} (ra : RelD K φ H a x) (ri : RelD K φ H i y) (h : PostV K mg (ixD a i S) φ H Q) : rIxG K x y H Q := by
  obtain ⟨d, S', e, k⟩ := h.get
  unfold ixD at e
  have seq : ∀ {xs : List D} {p : Addr} {vs : List V}, ixL xs i S = some (d, S') → (SqL K H p vs ∨ SqT K H p vs) → RelDs K φ H xs vs → rIxG K (.ref p) y H Q := by
    intro xs p vs e hs r
    obtain ⟨j, v, rfl, h1, h2, rfl⟩ := ixL_get e r ri
    have q := k φ v H (.refl _ _) sim h2
    rcases hs with hs | hs
    · exact .inl (.inl ⟨_, _, _, _, rfl, rfl, hs, h1, q⟩)
    · exact .inl (.inr (.inl ⟨_, _, _, _, rfl, rfl, hs, h1, q⟩))
  have dic : ∀ {k' : Nat} {kvs : List (Key × D)}, a = .ref k' → (S[k']? = some (.dK kvs) ∨ S[k']? = some (.fK kvs)) → (((keyD i).bind fun q => getK kvs q).map fun d => (d, S)) = some (d, S') → rIxG K x y H Q := by
    intro k' kvs ha hx e9
    subst ha
    obtain ⟨d', e1, e2⟩ := Option.map_eq_some_iff.mp e9
    cases e2
    obtain ⟨q, e3, e4⟩ := Option.bind_eq_some_iff.mp e1
    obtain ⟨p, ws, rfl, _, h1, h2⟩ := sim.dic hx ra
    obtain ⟨v, h3, h4⟩ := getK_some h2 e4
    refine .inr ⟨p, v, rfl, ?_, k φ v H (.refl _ _) sim h4⟩
    rw [← h3]
    exact .inl ⟨ws, q, h1, keyD_rel e3 ri, rfl⟩
  split at e
  · split at e
    · rename_i xs hx
      obtain ⟨p, vs, rfl, _, h1, h2⟩ := sim.lst (lstAt_iff.mpr hx) ra
      exact seq e (.inl (.of h1)) h2
    · rename_i kvs hx
      exact dic rfl (.inl hx) e
    · rename_i kvs hx
      exact dic rfl (.inr hx) e
    · cases e
  · cases ra with | tup q t => exact seq e (.inr q) t
  · cases ra with | fl q t => exact seq e (.inl q.sq) t
  · split at e
    · split at e
      · rename_i hl
        obtain ⟨c, e1, e2⟩ := Option.map_eq_some_iff.mp e
        cases e2
        cases ra
        cases ri
        exact .inl (.inr (.inr ⟨_, _, c, rfl, rfl, big_line hl, e1, k φ _ H (.refl _ _) sim (.str _)⟩))
      · cases e
    · cases e
  · cases e
theorem ix_dict (hu : X.A.units + 1 < cLine) : IxR X (fun x y H Q => ∃ a v, x = .ref a ∧ DGet H a y (some v) ∧ Q v H) := by
  intro value slice pins s σ H x y v u Q I rx ry ⟨a, z, ex, g, q⟩ hs
  subst ex
  obtain rfl : v = Value.ref a := rx
  exact tail_any (dict_typeIs I g) PySem.F.slot_dict_getitem.lookup (d_getItem hu I g ry fun w' s3 I3 rw' => ⟨z, H, I3, rw', q⟩) hs
theorem ix_G (hu : X.A.units + 1 < cLine) : IxR X (rIxG X.K) := IxR.or ix_seq (ix_dict hu)

/-! ### slices -/
def rSlG (K : PySem.W.Frag) : V → Option Int → Option Int → Hp → VK → Prop := fun x lo hi H Q => rSlL K x lo hi H Q ∨ rSlA K x lo hi H Q ∨
  ∃ z, x = .str z ∧ z.length ≤ sizeLine ∧ Q (.str ⟨(cutD z.cps.toList lo hi).toArray⟩) H
theorem slD_get {K : PySem.W.Frag} {mg : Str → Option Value} {φ : List Addr} {H : Hp} {S : Sto} (sim : Sim K φ S H) {a : D} {lo hi : Option Int} {x : V} {Q : VK} (ra : RelD K φ H a x) (h : PostV K mg (slD a lo hi S) φ H Q) : rSlG K x lo hi H Q := by
  obtain ⟨d, S', e, k⟩ := h.get
  unfold slD at e
  split at e
  · split at e
    · rename_i xs hx
      obtain ⟨p, vs, rfl, _, h1, h2⟩ := sim.lst hx ra
      obtain ⟨_, k2⟩ := newL_ok sim (RelDs.of (Pd.cut h2.pd lo hi)) e k
      exact .inl ⟨p, vs, rfl, .of h1, by rw [cutV_eq]; exact k2⟩
    · cases e
  · cases ra with | fl q t =>
    obtain ⟨_, k2⟩ := newL_ok sim (RelDs.of (Pd.cut t.pd lo hi)) e k
    exact .inl ⟨_, _, rfl, q.sq, by rw [cutV_eq]; exact k2⟩
  · rename_i xs
    cases e
    cases ra with | @tup p vs _ q t =>
    refine .inr (.inl ⟨p, vs, rfl, q, fun hw => ?_, fun _ p' hp => ?_⟩)
    · refine k φ _ H (.refl _ _) sim (.tup q ?_)
      have e0 : ∀ (n d : Nat) (o : Option Int), HT.sIx n d o = sIx' n d o := fun n d o => by cases o <;> rfl
      rw [e0, e0] at hw
      have hl := t.pd.length
      have ec : cutD xs lo hi = xs := by
        unfold cutD
        rw [hl, hw.1, hw.2, Nat.sub_zero, List.drop_zero]
        exact List.take_of_length_le (Nat.le_of_eq hl)
      rw [ec]
      exact t
    · have g : Grow φ H φ (upd H p' (.tup (cutV vs lo hi))) := by simpa using Grow.new (φ := φ) (H := H) (o := .tup (cutV vs lo hi)) hp []
      refine k φ (.ref p') _ g (sim.skip hp) (.tup (.of upd_same) (RelDs.grow g ?_))
      rw [cutV_eq]
      exact RelDs.of (Pd.cut t.pd lo hi)
  · split at e
    · rename_i hl
      cases e
      cases ra
      exact .inr (.inr ⟨_, rfl, big_line hl, k φ _ H (.refl _ _) sim (.str _)⟩)
    · cases e
  · cases e
/-! ### stores -/
theorem write_lst {K : PySem.W.Frag} {φ : List Addr} {H : Hp} {S : Sto} (sim : Sim K φ S H) {n : Nat} {p : Addr} {vs ws : List V} {ys : List D} (e : φ[n]? = some p) (h : H p = some (.lst vs)) (r : RelDs K φ H ys ws) :
    Grow φ H φ (upd H p (.lst ws)) ∧ Sim K φ (S.set n (.lst ys)) (upd H p (.lst ws)) := by
  have g : Grow φ H φ (upd H p (.lst ws)) := Grow.write (List.mem_of_getElem? e) h (fun _ => nofun) (fun _ _ => nofun)
  exact ⟨g, sim.write e h (fun _ => nofun) (fun _ _ => nofun) g.toGr0 ⟨ws, upd_same, r.grow g⟩⟩
theorem write_dic {K : PySem.W.Frag} {φ : List Addr} {H : Hp} {S : Sto} (sim : Sim K φ S H) {n : Nat} {p : Addr} {vs ws : List (Key × V)} {ys : List (Key × D)} (e : φ[n]? = some p) (h : H p = some (.dK vs)) (r : RelKV K φ H ys ws) :
    Grow φ H φ (upd H p (.dK ws)) ∧ Sim K φ (S.set n (.dK ys)) (upd H p (.dK ws)) := by
  have g : Grow φ H φ (upd H p (.dK ws)) := Grow.write (List.mem_of_getElem? e) h (fun _ => nofun) (fun _ _ => nofun)
  exact ⟨g, sim.write e h (fun _ => nofun) (fun _ _ => nofun) g.toGr0 ⟨ws, upd_same, r.grow g⟩⟩
/-- o[i] = v -/
def rSetG : V → V → V → Hp → (Hp → Prop) → Prop := fun o i v H Q => rSetL o i v H Q ∨ ∃ a H', o = .ref a ∧ DPut H a i v H' ∧ Q H'
theorem setD_get {K : PySem.W.Frag} {mg : Str → Option Value} {φ : List Addr} {H : Hp} {S : Sto} (sim : Sim K φ S H) {o i w : D} {x y z : V} {Q : Hp → Prop} (ro : RelD K φ H o x) (ri : RelD K φ H i y) (rw' : RelD K φ H w z)
    (h : PostG K mg (fun _ _ (_ : Unit) (_ : Unit) => True) (.of (setD o i w S)) φ H (fun _ H' => Q H') noW) : rSetG x y z H Q := by
  obtain ⟨d, S', e, k⟩ := PostG.noexc h
  unfold setD at e
  split at e
  · split at e
    · rename_i kk _ xs hx
      split at e
      · obtain ⟨m, e1, e2⟩ := Option.map_eq_some_iff.mp e
        cases e2
        obtain ⟨p, vs, rfl, e3, h1, h2⟩ := sim.lst (lstAt_iff.mpr hx) ro
        cases ri
        obtain ⟨g, s2⟩ := write_lst sim e3 h1 (RelDs.of (Pd.set rw' m h2.pd))
        refine .inl ⟨p, vs, _, m, rfl, rfl, h1, ?_, k φ () _ g s2 True.intro⟩
        rw [← h2.pd.length]
        exact e1
      · cases e
    · rename_i kk _ kvs hx
      obtain ⟨q, e1, e2⟩ := Option.bind_eq_some_iff.mp e
      split at e2
      · rename_i hl
        cases e2
        cases ro with | @ref _ p e3 =>
        obtain ⟨ws, h1, h2⟩ := sim.at_ _ _ _ hx e3
        obtain ⟨g, s2⟩ := write_dic sim e3 h1 (putK_rel h2 rw')
        refine .inr ⟨p, _, rfl, ?_, k φ () _ g s2 True.intro⟩
        rw [keyD_rel e1 ri]
        exact DPut.k h1 (by rw [← Paired.length h2]; exact big_lineS hl)
      · cases e2
    · cases e
  · cases e
theorem set_G (hu : X.A.units + 1 < cLine) : PSet X rSetG := by
  intro pins s σ H o i v ov iv u Q I ro ri rv h
  rcases h with h | ⟨a, H', rfl, h1, h2⟩
  · exact set_list pins s σ H o i v ov iv u Q I ro ri rv h
  · cases ro
    exact d_setItem hu I h1 ri rv fun s' I' => ⟨H', I', h2⟩
/-! ### built-ins -/
abbrev rCall (K : PySem.W.Frag) (mg : Str → Option Value) (f : String) : List V → Hp → VK → Prop := fun xs H Q => ∃ φ S ds, Sim K φ S H ∧ RelDs K φ H ds xs ∧ PostV K mg (biD f ds S) φ H Q
def biV : String → Value
  | "int" => .type "int"
  | "list" => .type "list"
  | "tuple" => .type "tuple"
  | "dict" => .type "dict"
  | "gcd" => .builtin "math.gcd"
  | s => .builtin s
theorem bi1_get {K : PySem.W.Frag} {mg : Str → Option Value} {f : String} {xs : List V} {H : Hp} {Q : VK} (h : rCall K mg f xs H Q) :
    (∃ φ S a x, Sim K φ S H ∧ xs = [x] ∧ RelD K φ H a x ∧ PostV K mg (bi1 f a S) φ H Q) ∨ ∃ φ S a b x y, Sim K φ S H ∧ xs = [x, y] ∧ RelD K φ H a x ∧ RelD K φ H b y ∧ PostV K mg (bi2 f a b S) φ H Q := by
  obtain ⟨φ, S, ds, sim, r, h⟩ := h
  match ds, r, h with
  | [], r, h => exact (PostG.noexc h).elim fun _ ⟨_, e, _⟩ => by cases e
  | [a], .cons r1 .nil, h => exact .inl ⟨φ, S, a, _, sim, rfl, r1, h⟩
  | [a, b], .cons r1 (.cons r2 .nil), h => exact .inr ⟨φ, S, a, b, _, _, sim, rfl, r1, r2, h⟩
  | _ :: _ :: _ :: _, r, h => exact (PostG.noexc h).elim fun _ ⟨_, e, _⟩ => by cases e
theorem Srt_eq {ns ns' : List Int} (h1 : ns'.Perm ns) (h2 : ns'.Pairwise (· ≤ ·)) : ns' = sortI ns := by
  refine PySem.W.ksm_same (h1.trans (List.mergeSort_perm ns _).symm) h2 ?_
  have h := List.pairwise_mergeSort (le := fun (a b : Int) => decide (a ≤ b)) (fun a b c h1 h2 => by simp at *; omega) (fun a b => by simp; omega) ns
  exact h.imp fun h => by simpa using h
end
end G

end

section
set_option Elab.async false
set_option linter.all false
set_option maxRecDepth 100000
/-! G6: calls of built-ins, methods, truth, isinstance. -/
namespace G
open PySem PySem.Spec PyProof.Rows L2
section
variable {X : Cx} {mg : Str → Option Value}
theorem bi_len : CallR X (.builtin "len") (rCall X.K mg "len") := by
  intro pins s σ H xs us Q I r h
  rcases bi1_get h with ⟨φ, S, a, x, sim, rfl, ra, h⟩ | ⟨φ, S, a, b, x, y, sim, rfl, ra, rb, h⟩
  · obtain ⟨d, S', e, k⟩ := h.get
    obtain ⟨n, e1, e2⟩ := Option.map_eq_some_iff.mp (show (lenD S a).map (fun n => (D.int n, S)) = some (d, S') from e)
    cases e2
    have q : Q (.int n) H := k φ _ H (.refl _ _) sim (.int _)
    have seq : ∀ {p : Addr} {vs : List V} {ys : List D}, x = .ref p → (SqL X.K H p vs ∨ SqT X.K H p vs) → RelDs X.K φ H ys vs → ys.length = n → wpAny (model X.prog X.w) X.A (PySem.call (.builtin "len") us) (EP X pins σ Q) X.xe s := by
      intro p vs ys e hs r2 hl
      subst e
      exact call_len_seq pins s σ H _ us Q I r ⟨p, vs, rfl, hs, by rw [← r2.pd.length, hl]; exact q⟩
    have dic : ∀ {kk : Nat} {kvs : List (Key × D)}, a = .ref kk → (S[kk]? = some (.dK kvs) ∨ S[kk]? = some (.fK kvs)) → kvs.length = n → wpAny (model X.prog X.w) X.A (PySem.call (.builtin "len") us) (EP X pins σ Q) X.xe s := by
      intro kk kvs ha hx hl
      subst ha
      obtain ⟨p, ws, rfl, _, h1, h2⟩ := sim.dic hx ra
      obtain ⟨u, rfl, ru⟩ := vals1 r
      cases ru
      exact d_len I h1 fun t s' I' => ⟨.int ws.length, H, I', ⟨t, rfl⟩, by rw [← Paired.length h2, hl]; exact q⟩
    unfold lenD at e1
    split at e1
    · cases ra with | tup q1 t => cases e1; exact seq rfl (.inr q1) t rfl
    · cases ra with | fl q1 t => cases e1; exact seq rfl (.inl q1.sq) t rfl
    · split at e1
      · rename_i hl
        cases e1
        cases ra
        exact call_len_str pins s σ H _ us Q I r ⟨_, rfl, big_line hl, q⟩
      · cases e1
    · split at e1
      · rename_i ys hx
        cases e1
        obtain ⟨p, vs, e3, _, h1, h2⟩ := sim.lst (lstAt_iff.mpr hx) ra
        exact seq e3 (.inl (.of h1)) h2 rfl
      · rename_i kvs hx
        cases e1
        exact dic rfl (.inl hx) rfl
      · rename_i kvs hx
        cases e1
        exact dic rfl (.inr hx) rfl
      · cases e1
    · cases e1
  · obtain ⟨d, S', e, k⟩ := h.get
    unfold bi2 at e
    split at e <;> first | (cases e; done) | simp_all
theorem bi_abs : CallR X (.builtin "abs") (rCall X.K mg "abs") := by
  intro pins s σ H xs us Q I r h
  rcases bi1_get h with ⟨φ, S, a, x, sim, rfl, ra, h⟩ | ⟨φ, S, a, b, x, y, sim, rfl, ra, rb, h⟩
  · obtain ⟨d, S', e, k⟩ := h.get
    obtain ⟨n, e1, e2⟩ := Option.map_eq_some_iff.mp (show (intD a).map (fun i => (D.int (if i < 0 then -i else i), S)) = some (d, S') from e)
    cases e2
    cases a with
    | int i => cases e1; cases ra; exact call_abs pins s σ H _ us Q I r ⟨_, rfl, k φ _ H (.refl _ _) sim (.int _)⟩
    | _ => cases e1
  · obtain ⟨d, S', e, k⟩ := h.get
    unfold bi2 at e
    split at e <;> first | (cases e; done) | simp_all
theorem bi_int : CallR X (.type "int") (rCall X.K mg "int") := by
  intro pins s σ H xs us Q I r h
  rcases bi1_get h with ⟨φ, S, a, x, sim, rfl, ra, h⟩ | ⟨φ, S, a, b, x, y, sim, rfl, ra, rb, h⟩
  · obtain ⟨d, S', e, k⟩ := h.get
    cases a with
    | int i =>
      cases (show some (D.int i, S) = some (d, S') from e)
      cases ra
      exact call_int1 pins s σ H _ us Q I r (.inl ⟨_, rfl, k φ _ H (.refl _ _) sim (.int _)⟩)
    | bl i =>
      cases (show some (D.int (if i then 1 else 0), S) = some (d, S') from e)
      cases ra
      exact call_int1 pins s σ H _ us Q I r (.inr ⟨_, rfl, k φ _ H (.refl _ _) sim (.int _)⟩)
    | _ => cases (show none = some (d, S') from e)
  · obtain ⟨d, S', e, k⟩ := h.get
    unfold bi2 at e
    split at e <;> first | (cases e; done) | simp_all
theorem bi_all (hc : X.calm = true) : CallR X (.builtin "all") (rCall X.K mg "all") := by
  intro pins s σ H xs us Q I r h
  rcases bi1_get h with ⟨φ, S, a, x, sim, rfl, ra, h⟩ | ⟨φ, S, a, b, x, y, sim, rfl, ra, rb, h⟩
  · obtain ⟨d, S', e, k⟩ := h.get
    cases a with
    | ref kk =>
      obtain ⟨n, e1, e2⟩ := Option.map_eq_some_iff.mp (show ((lstAt S kk).bind (mapO blD)).map (fun bs => (D.bl (bs.all id), S)) = some (d, S') from e)
      cases e2
      obtain ⟨ys, e3, e4⟩ := Option.bind_eq_some_iff.mp e1
      obtain ⟨p, vs, rfl, _, h1, h2⟩ := sim.lst e3 ra
      rw [bls_rel e4 h2] at h1
      exact cr_all hc pins s σ H _ us Q I r ⟨p, n, rfl, .of h1, k φ _ H (.refl _ _) sim (.bl _)⟩
    | _ => cases (show none = some (d, S') from e)
  · obtain ⟨d, S', e, k⟩ := h.get
    unfold bi2 at e
    split at e <;> first | (cases e; done) | simp_all
theorem bi_any (hc : X.calm = true) : CallR X (.builtin "any") (rCall X.K mg "any") := by
  intro pins s σ H xs us Q I r h
  rcases bi1_get h with ⟨φ, S, a, x, sim, rfl, ra, h⟩ | ⟨φ, S, a, b, x, y, sim, rfl, ra, rb, h⟩
  · obtain ⟨d, S', e, k⟩ := h.get
    cases a with
    | ref kk =>
      obtain ⟨n, e1, e2⟩ := Option.map_eq_some_iff.mp (show ((lstAt S kk).bind (mapO blD)).map (fun bs => (D.bl (bs.any id), S)) = some (d, S') from e)
      cases e2
      obtain ⟨ys, e3, e4⟩ := Option.bind_eq_some_iff.mp e1
      obtain ⟨p, vs, rfl, _, h1, h2⟩ := sim.lst e3 ra
      rw [bls_rel e4 h2] at h1
      exact cr_any hc pins s σ H _ us Q I r ⟨p, n, rfl, .of h1, k φ _ H (.refl _ _) sim (.bl _)⟩
    | _ => cases (show none = some (d, S') from e)
  · obtain ⟨d, S', e, k⟩ := h.get
    unfold bi2 at e
    split at e <;> first | (cases e; done) | simp_all
theorem bi_sum (hc : X.calm = true) : CallR X (.builtin "sum") (rCall X.K mg "sum") := by
  intro pins s σ H xs us Q I r h
  rcases bi1_get h with ⟨φ, S, a, x, sim, rfl, ra, h⟩ | ⟨φ, S, a, b, x, y, sim, rfl, ra, rb, h⟩
  · obtain ⟨d, S', e, k⟩ := h.get
    cases a with
    | ref kk =>
      obtain ⟨n, e1, e2⟩ := Option.map_eq_some_iff.mp (show ((lstAt S kk).bind (mapO intD)).map (fun ns => (D.int ns.sum, S)) = some (d, S') from e)
      cases e2
      obtain ⟨ys, e3, e4⟩ := Option.bind_eq_some_iff.mp e1
      obtain ⟨p, vs, rfl, _, h1, h2⟩ := sim.lst e3 ra
      rw [ints_rel e4 h2] at h1
      exact cr_sum hc pins s σ H _ us Q I r ⟨p, n, rfl, .of h1, k φ _ H (.refl _ _) sim (.int _)⟩
    | _ => cases (show none = some (d, S') from e)
  · obtain ⟨d, S', e, k⟩ := h.get
    unfold bi2 at e
    split at e <;> first | (cases e; done) | simp_all
theorem bi_list : CallR X (.type "list") (rCall X.K mg "list") := by
  intro pins s σ H xs us Q I r h
  rcases bi1_get h with ⟨φ, S, a, x, sim, rfl, ra, h⟩ | ⟨φ, S, a, b, x, y, sim, rfl, ra, rb, h⟩
  · obtain ⟨d, S', e, k⟩ := h.get
    obtain ⟨ys, e3, e4⟩ := Option.bind_eq_some_iff.mp (show (seqD S a).bind (fun xs => newL xs S) = some (d, S') from e)
    obtain ⟨p, vs, rfl, h1, h2⟩ := sim.seq e3 ra
    exact call_list_of pins s σ H _ us Q I r ⟨p, vs, rfl, h1, (newL_ok sim h2 e4 k).2⟩
  · obtain ⟨d, S', e, k⟩ := h.get
    unfold bi2 at e
    split at e <;> first | (cases e; done) | simp_all
theorem bi_tuple : CallR X (.type "tuple") (rCall X.K mg "tuple") := by
  intro pins s σ H xs us Q I r h
  rcases bi1_get h with ⟨φ, S, a, x, sim, rfl, ra, h⟩ | ⟨φ, S, a, b, x, y, sim, rfl, ra, rb, h⟩
  · obtain ⟨d, S', e, k⟩ := h.get
    obtain ⟨ys, e3, e4⟩ := Option.bind_eq_some_iff.mp (show (seqD S a).bind (fun xs => newT xs S) = some (d, S') from e)
    obtain ⟨p, vs, rfl, h1, h2⟩ := sim.seq e3 ra
    obtain ⟨rfl, rfl, _, k2⟩ := newT_ok sim h2 e4 k
    refine call_tuple_of pins s σ H _ us Q I r ⟨p, vs, rfl, ?_⟩
    rcases h1 with h1 | h1
    · exact .inl ⟨h1, k2⟩
    · exact .inr ⟨h1, k φ _ H (.refl _ _) sim (.tup h1 h2)⟩
  · obtain ⟨d, S', e, k⟩ := h.get
    unfold bi2 at e
    split at e <;> first | (cases e; done) | simp_all
theorem pair_rel {K : PySem.W.Frag} {φ : List Addr} {H : Hp} {d : D} {q : Key × D} {y : V} (e : pairD d = some q) (r : RelD K φ H d y) : ∃ p v, y = .ref p ∧ SqT K H p [kV q.1, v] ∧ RelD K φ H q.2 v := by
  unfold pairD at e
  split at e
  · obtain ⟨k, e1, rfl⟩ := Option.map_eq_some_iff.mp e
    cases r with
    | tup q t =>
      cases t with | cons r1 t => cases t with | cons r2 t => cases t with | nil =>
      rw [keyD_rel e1 r1] at q
      exact ⟨_, _, rfl, q, r2⟩
  · cases e
theorem pairs_rel {K : PySem.W.Frag} {φ : List Addr} {H : Hp} : ∀ {xs : List D} {kvs : List (Key × D)} {vs : List V}, mapO pairD xs = some kvs → Paired (RelD K φ H) xs vs →
    ∃ (ps : List Addr) (ws : List (Key × V)), vs = ps.map V.ref ∧ Paired (fun p kv => SqT K H p [kV kv.1, kv.2]) ps ws ∧ RelKV K φ H kvs ws
  | [], _, _, e, .nil => by cases e; exact ⟨[], [], rfl, .nil, .nil⟩
  | x :: xs, kvs, _, e, .cons r t => by
    unfold mapO at e
    split at e
    · rename_i d ds e1 e2
      cases e
      obtain ⟨p, v, rfl, h1, h2⟩ := pair_rel e1 r
      obtain ⟨ps, ws, rfl, h3, h4⟩ := pairs_rel e2 t
      exact ⟨p :: ps, (d.1, v) :: ws, rfl, .cons h1 h3, .cons ⟨rfl, h2⟩ h4⟩
    · cases e
theorem newR_dic {K : PySem.W.Frag} {φ : List Addr} {H : Hp} {S : Sto} {Q : VK} (s : Sim K φ S H) {kvs : List (Key × D)} {ws : List (Key × V)} (r : RelKV K φ H kvs ws) (h : ∀ φ' y H', Grow φ H φ' H' → Sim K φ' (S ++ [.dK kvs]) H' → RelD K φ' H' (.ref S.length) y → Q y H') {p : Addr} (hp : H p = none) :
    Q (.ref p) (upd H p (.dK ws)) :=
  h (φ ++ [p]) (.ref p) _ (.new hp [p]) (s.new hp ⟨ws, upd_same, r.grow (.new hp [p])⟩) (.ref (by rw [← s.len]; simp))
theorem bi_dict (hc : X.calm = true) : CallR X (.type "dict") (rCall X.K mg "dict") := by
  intro pins s σ H xs us Q I r h
  rcases bi1_get h with ⟨φ, S, a, x, sim, rfl, ra, h⟩ | ⟨φ, S, a, b, x, y, sim, rfl, ra, rb, h⟩
  · obtain ⟨d, S', e, k⟩ := h.get
    cases a with
    | ref kk =>
      obtain ⟨kvs, e3, e4⟩ := Option.bind_eq_some_iff.mp (show ((lstAt S kk).bind (mapO pairD)).bind (fun kvs => newR (.dK (mergeD kvs)) S) = some (d, S') from e)
      cases e4
      obtain ⟨ys, e5, e6⟩ := Option.bind_eq_some_iff.mp e3
      obtain ⟨p, vs, rfl, _, h1, h2⟩ := sim.lst e5 ra
      obtain ⟨ps, ws, rfl, h3, h4⟩ := pairs_rel e6 h2.pd
      exact call_dictP hc pins s σ H _ us Q I r ⟨p, ps, ws, rfl, .of h1, h3, fun p hp => newR_dic sim (mergeD_rel h4) k hp⟩
    | _ => cases (show none = some (d, S') from e)
  · obtain ⟨d, S', e, k⟩ := h.get
    unfold bi2 at e
    split at e <;> first | (cases e; done) | simp_all
theorem bi_sorted (hc : X.calm = true) : CallR X (.builtin "sorted") (rCall X.K mg "sorted") := by
  intro pins s σ H xs us Q I r h
  rcases bi1_get h with ⟨φ, S, a, x, sim, rfl, ra, h⟩ | ⟨φ, S, a, b, x, y, sim, rfl, ra, rb, h⟩
  · obtain ⟨d, S', e, k⟩ := h.get
    cases a with
    | ref kk =>
      have e' : (match S[kk]? with
        | some (MO.dK []) => newR (.lst []) S
        | some (.lst xs) => (mapO intD xs).bind fun ns => if ns.length < 64 then newL ((sortI ns).map .int) S else none
        | _ => none) = some (d, S') := e
      split at e'
      · rename_i hx
        cases e'
        obtain ⟨p, ws, rfl, _, h1, h2⟩ := sim.dic (.inl hx) ra
        cases h2
        refine call_sortedD hc pins s σ H _ us Q I r ⟨p, [], [], rfl, h1, rfl, by decide, fun ys p' hp _ hn => ?_⟩
        have e : ys = [] := hp.eq_nil
        subst e
        exact newR_lst sim .nil k hn
      · rename_i ys hx
        obtain ⟨ns, e1, e2⟩ := Option.bind_eq_some_iff.mp e'
        split at e2
        · rename_i hl
          obtain ⟨p, vs, rfl, _, h1, h2⟩ := sim.lst (lstAt_iff.mpr hx) ra
          rw [ints_rel e1 h2] at h1
          refine cr_sorted pins s σ H _ us Q I r ⟨p, ns, rfl, .of h1, hl, fun ns' p' hp1 hp2 hn => ?_⟩
          rw [Srt_eq hp1 hp2]
          exact (newL_ok sim (RelDs.of (Pd.map (f := D.int) (g := V.int) fun x _ => RelD.int x)) e2 k).2 p' hn
        · cases e2
      · cases e'
    | _ => cases (show none = some (d, S') from e)
  · obtain ⟨d, S', e, k⟩ := h.get
    unfold bi2 at e
    split at e <;> first | (cases e; done) | simp_all
theorem bi2_get {f : String} {K : PySem.W.Frag} {xs : List V} {H : Hp} {Q : VK} (h : rCall K mg f xs H Q) (h1 : ∀ a S, bi1 f a S = none) : ∃ φ S a b x y, Sim K φ S H ∧ xs = [x, y] ∧ RelD K φ H a x ∧ RelD K φ H b y ∧ PostV K mg (bi2 f a b S) φ H Q := by
  rcases bi1_get h with ⟨φ, S, a, x, sim, rfl, ra, h⟩ | h
  · obtain ⟨d, S', e, k⟩ := h.get
    rw [h1] at e
    cases e
  · exact h
theorem bi_max (hc : X.calm = true) : CallR X (.builtin "max") (rCall X.K mg "max") := by
  intro pins s σ H xs us Q I r h
  obtain ⟨φ, S, a, b, x, y, sim, rfl, ra, rb, h⟩ := bi2_get h fun _ _ => rfl
  obtain ⟨d, S', e, k⟩ := h.get
  unfold bi2 at e
  split at e
  · cases e; cases ra; cases rb; exact call_max2 hc pins s σ H _ us Q I r ⟨_, _, rfl, k φ _ H (.refl _ _) sim (.int _)⟩
  · simp_all
  · simp_all
  · cases e
theorem bi_min (hc : X.calm = true) : CallR X (.builtin "min") (rCall X.K mg "min") := by
  intro pins s σ H xs us Q I r h
  obtain ⟨φ, S, a, b, x, y, sim, rfl, ra, rb, h⟩ := bi2_get h fun _ _ => rfl
  obtain ⟨d, S', e, k⟩ := h.get
  unfold bi2 at e
  split at e
  · simp_all
  · cases e; cases ra; cases rb; exact call_min2 hc pins s σ H _ us Q I r ⟨_, _, rfl, k φ _ H (.refl _ _) sim (.int _)⟩
  · simp_all
  · cases e
theorem bi_gcd : CallR X (.builtin "math.gcd") (rCall X.K mg "gcd") := by
  intro pins s σ H xs us Q I r h
  obtain ⟨φ, S, a, b, x, y, sim, rfl, ra, rb, h⟩ := bi2_get h fun _ _ => rfl
  obtain ⟨d, S', e, k⟩ := h.get
  unfold bi2 at e
  split at e
  · simp_all
  · simp_all
  · cases e; cases ra; cases rb; exact cr_gcd pins s σ H _ us Q I r ⟨_, _, rfl, k φ _ H (.refl _ _) sim (.int _)⟩
  · cases e
/-- each of them -/
theorem call_bi (hc : X.calm = true) {f : String} (hf : f ∈ biNames) : CallR X (biV f) (rCall X.K mg f) := by
  simp only [biNames, List.mem_cons, List.not_mem_nil, or_false] at hf
  rcases hf with rfl | rfl | rfl | rfl | rfl | rfl | rfl | rfl | rfl | rfl | rfl | rfl | rfl
  · exact bi_len
  · exact bi_abs
  · exact bi_int
  · exact bi_all hc
  · exact bi_any hc
  · exact bi_sum hc
  · exact bi_max hc
  · exact bi_min hc
  · exact bi_list
  · exact bi_tuple
  · exact bi_dict hc
  · exact bi_sorted hc
  · exact bi_gcd
/-! ### truth -/
theorem tru_get {K : PySem.W.Frag} {φ : List Addr} {S : Sto} {H : Hp} (sim : Sim K φ S H) {a : D} {x : V} {b : Bool} (e : truD S a = some b) (ra : RelD K φ H a x) : TruV K x H b := by
  have emp : ∀ {xs : List D} {vs : List V}, RelDs K φ H xs vs → (!xs.isEmpty) = !vs.isEmpty := by
    intro xs vs r
    cases r <;> rfl
  cases a with
  | non => cases e; cases ra; exact rfl
  | bl i => cases e; cases ra; exact rfl
  | int i => cases e; cases ra; exact rfl
  | str i =>
    simp only [truD] at e
    split at e
    · rename_i hl
      cases e; cases ra
      exact ⟨big_line hl, rfl⟩
    · cases e
  | tup xs => cases e; cases ra with | tup q t => exact .inr (.inl ⟨_, q, emp t⟩)
  | fl xs => cases e; cases ra with | fl q t => exact .inl ⟨_, q.sq, emp t⟩
  | ref k =>
    simp only [truD] at e
    split at e
    · rename_i xs hx
      cases e
      obtain ⟨p, vs, rfl, _, h1, h2⟩ := sim.lst (lstAt_iff.mpr hx) ra
      exact .inl ⟨_, .of h1, emp h2⟩
    · rename_i kvs hx
      cases e
      cases ra with | ref e3 =>
      obtain ⟨ws, h1, h2⟩ := sim.at_ _ _ _ hx e3
      refine .inr (.inr ⟨ws, h1, ?_⟩)
      cases h2 <;> rfl
    · cases e
/-! ### isinstance -/
theorem ty_get {K : PySem.W.Frag} {φ : List Addr} {S : Sto} {H : Hp} (sim : Sim K φ S H) {a : D} {x : V} {t : String} (e : tyD S a = some t) (ra : RelD K φ H a x) : TyX K H x (.type t) := by
  cases a with
  | non => cases e; cases ra; exact .base .non
  | bl i => cases e; cases ra; exact .base (.bl _)
  | int i => cases e; cases ra; exact .base (.int _)
  | str i => cases e; cases ra; exact .base (.str _)
  | tup xs =>
    cases e
    cases ra with | tup q t =>
    rcases q with (q | ⟨o, q⟩) | ⟨o, its, n, q, q1, _⟩
    · exact .base (.tup q)
    · exact .fTuple q
    · exact .kTuple q q1
  | fl xs =>
    cases e
    cases ra with | fl q t =>
    rcases q with ⟨o, q⟩ | ⟨o, its, n, q, q1, _⟩
    · exact .base (.frz q)
    · exact .kList q q1
  | ref k =>
    simp only [tyD] at e
    cases ra with | ref e3 =>
    split at e
    · rename_i xs hx
      cases e
      obtain ⟨vs, h1, h2⟩ := sim.at_ _ _ _ hx e3
      exact .base (.lst h1)
    · rename_i kvs hx
      cases e
      obtain ⟨vs, h1, h2⟩ := sim.at_ _ _ _ hx e3
      exact .base (.dK h1)
    · rename_i kvs hx
      cases e
      obtain ⟨o, vs, h1, h2⟩ := sim.at_ _ _ _ hx e3
      exact .fDict h1
    · rename_i kvs hx
      cases e
      obtain ⟨vs, h1, h2⟩ := sim.at_ _ _ _ hx e3
      exact .base (.dT h1)
    · cases e
theorem kit_all : (["NoneType", "bool", "int", "str", "tuple", "list", "dict"].all fun t => tyNames.all fun T => decide (kitB t T = some (isTy t T))) = true := by decide +kernel
theorem ty_names {S : Sto} {a : D} {t : String} (e : tyD S a = some t) : t ∈ ["NoneType", "bool", "int", "str", "tuple", "list", "dict"] := by
  unfold tyD at e
  split at e
  case h_7 => split at e <;> first | (cases e; done) | (cases e; decide)
  all_goals (cases e; decide)
theorem kit_G {K : PySem.W.Frag} {S : Sto} {a : D} {t T : String} (e : tyD S a = some t) (hT : T ∈ tyNames) : PySem.W.kitOne K (.type t) (.type T) = some (isTy t T) :=
  kit_ty (of_decide_eq_true (List.all_eq_true.mp (List.all_eq_true.mp kit_all t (ty_names e)) T hT))
theorem kit_any {K : PySem.W.Frag} {S : Sto} {a : D} {t : String} (e : tyD S a = some t) : ∀ {Ts : List String}, (∀ T ∈ Ts, T ∈ tyNames) → PySem.W.kitAny K (.type t) (Ts.map .type) = some (Ts.any (isTy t))
  | [], _ => kitAny_nil
  | T :: Ts, h => by
    rw [List.map_cons, List.any_cons]
    refine kitAny_cons (kit_G e (h T (List.mem_cons_self ..))) (fun hb => ?_) (fun hb => ?_)
    · rw [hb, Bool.false_or]
      exact kit_any e fun T hT => h T (List.mem_cons_of_mem _ hT)
    · rw [hb]; rfl
end
end G

end

section
set_option Elab.async false
set_option linter.all false
set_option maxRecDepth 100000
/-! G7: readings of code; what a def's context must tell. -/
namespace G
open PySem PySem.Spec PyProof.Rows L2
section
variable (K : PySem.W.Frag) (mg : Str → Option Value)
/-- the slots -/
structure RelR (φ : List Addr) (H : Hp) (ρ : Rho) (σ : L2.St) : Prop where
  len : ρ.length = σ.length
  at_ : ∀ (i : Nat) (d : D), ρ[i]? = some (some d) → ∃ v, σ[i]? = some (some v) ∧ RelD K φ H d v
/-- the reading of an evaluation -/
def tG {α β : Type} (R : List Addr → Hp → α → β → Prop) (W : WX) (ev : Rho → Sto → Res α) : L2.St → Hp → (β → Hp → Prop) → Prop := fun σ H Q =>
  ∃ φ ρ S, Sim K φ S H ∧ RelR K φ H ρ σ ∧ PostG K mg R (ev ρ S) φ H Q fun cls d H' => W cls d σ H'
abbrev RelEq {α : Type} : List Addr → Hp → α → α → Prop := fun _ _ a b => a = b
end
section
variable {K : PySem.W.Frag} {mg : Str → Option Value}
theorem RelR.grow {φ φ' : List Addr} {H H' : Hp} {ρ : Rho} {σ : L2.St} (g : Grow φ H φ' H') (r : RelR K φ H ρ σ) : RelR K φ' H' ρ σ :=
  ⟨r.len, fun i d e => let ⟨v, h1, h2⟩ := r.at_ i d e; ⟨v, h1, h2.grow g⟩⟩
theorem RelR.set {φ : List Addr} {H : Hp} {ρ : Rho} {σ : L2.St} (r : RelR K φ H ρ σ) (i : Nat) {d : D} {v : V} (rd : RelD K φ H d v) : RelR K φ H (ρ.set i (some d)) (σ.set i (some v)) := by
  refine ⟨by simp [r.len], fun j e he => ?_⟩
  by_cases hj : j = i
  · subst hj
    have hl : j < ρ.length := by
      have := (List.getElem?_eq_some_iff.mp he).1
      simpa using this
    rw [List.getElem?_set_self hl] at he
    cases he
    exact ⟨v, by rw [List.getElem?_set_self (by rw [← r.len]; exact hl)], rd⟩
  · rw [List.getElem?_set_ne (Ne.symm hj)] at he ⊢
    exact r.at_ j e he
theorem RelR.del {φ : List Addr} {H : Hp} {ρ : Rho} {σ : L2.St} (r : RelR K φ H ρ σ) (i : Nat) : RelR K φ H (ρ.set i none) (σ.set i none) := by
  refine ⟨by simp [r.len], fun j e he => ?_⟩
  by_cases hj : j = i
  · subst hj
    have hl : j < ρ.length := by
      have := (List.getElem?_eq_some_iff.mp he).1
      simpa using this
    rw [List.getElem?_set_self hl] at he
    cases he
  · rw [List.getElem?_set_ne (Ne.symm hj)] at he ⊢
    exact r.at_ j e he
theorem RelR.wipe {φ : List Addr} {H : Hp} {ρ : Rho} {σ : L2.St} (r : RelR K φ H ρ σ) : ∀ vs : List Nat, RelR K φ H (wipeR ρ vs) (L2.wipe σ vs)
  | [] => r
  | v :: vs => (RelR.wipe r vs).del v
variable {α β γ δ ε ζ : Type} {R1 : List Addr → Hp → α → β → Prop} {R2 : List Addr → Hp → γ → δ → Prop} {R3 : List Addr → Hp → ε → ζ → Prop} {W : WX} {σ : L2.St} {H : Hp}
/-- later -/
def Later (R : List Addr → Hp → α → β → Prop) : Prop := ∀ φ φ' H H' a b, Grow φ H φ' H' → R φ H a b → R φ' H' a b
theorem laterD : Later (RelD K) := fun _ _ _ _ _ _ g r => r.grow g
theorem laterDs : Later (RelDs K) := fun _ _ _ _ _ _ g r => r.grow g
theorem laterEq : Later (RelEq (α := α)) := fun _ _ _ _ _ _ _ r => r
theorem tG.bind1 {ev : Rho → Sto → Res α} {f : α → Sto → Res γ} {Q : δ → Hp → Prop} (h : tG K mg R2 W (fun ρ S => (ev ρ S).bind f) σ H Q) :
    tG K mg R1 W ev σ H fun y H1 => ∃ φ S a, Sim K φ S H1 ∧ R1 φ H1 a y ∧ PostG K mg R2 (f a S) φ H1 Q fun cls d H' => W cls d σ H' := by
  obtain ⟨φ, ρ, S, s, r, h⟩ := h
  exact ⟨φ, ρ, S, s, r, h.bind.mono fun y H1 ⟨φ1, S1, a, g, s1, ra, _, h1⟩ => ⟨φ1, S1, a, s1, ra, h1⟩⟩
/-- with the slots, and what is known of the value -/
theorem tG.bindR {ev : Rho → Sto → Res α} {f : Rho → α → Sto → Res γ} {Q : δ → Hp → Prop} (h : tG K mg R2 W (fun ρ S => (ev ρ S).bind (f ρ)) σ H Q) :
    tG K mg R1 W ev σ H fun y H1 => ∃ a, (∃ φ ρ S, Sim K φ S H1 ∧ RelR K φ H1 ρ σ ∧ R1 φ H1 a y ∧ PostG K mg R2 (f ρ a S) φ H1 Q fun cls d H' => W cls d σ H') := by
  obtain ⟨φ, ρ, S, s, r, h⟩ := h
  exact ⟨φ, ρ, S, s, r, h.bind.mono fun y H1 ⟨φ1, S1, a, g, s1, ra, _, h1⟩ => ⟨a, φ1, ρ, S1, s1, r.grow g, ra, h1⟩⟩
theorem tG.bind2 (l1 : Later R1) {ev1 : Rho → Sto → Res α} {ev2 : Rho → Sto → Res γ} {f : α → γ → Sto → Res ε} {Q : ζ → Hp → Prop}
    (h : tG K mg R3 W (fun ρ S => (ev1 ρ S).bind fun x S => (ev2 ρ S).bind fun y S => f x y S) σ H Q) :
    tG K mg R1 W ev1 σ H fun y1 H1 => tG K mg R2 W ev2 σ H1 fun y2 H2 => ∃ φ S a b, Sim K φ S H2 ∧ R1 φ H2 a y1 ∧ R2 φ H2 b y2 ∧ PostG K mg R3 (f a b S) φ H2 Q fun cls d H' => W cls d σ H' := by
  obtain ⟨φ, ρ, S, s, r, h⟩ := h
  refine ⟨φ, ρ, S, s, r, h.bind.mono fun y1 H1 ⟨φ1, S1, a, g, s1, ra, _, h1⟩ => ?_⟩
  exact ⟨φ1, ρ, S1, s1, r.grow g, h1.bind.mono fun y2 H2 ⟨φ2, S2, b, g2, s2, rb, _, h2⟩ => ⟨φ2, S2, a, b, s2, l1 _ _ _ _ _ _ g2 ra, rb, h2⟩⟩
theorem tG.map {ev : Rho → Sto → Res α} {Q Q' : β → Hp → Prop} (h : tG K mg R1 W ev σ H Q) (k : ∀ y H, Q y H → Q' y H) : tG K mg R1 W ev σ H Q' :=
  let ⟨φ, ρ, S, s, r, h⟩ := h
  ⟨φ, ρ, S, s, r, h.mono k⟩
/-- another evaluation that gives the same -/
theorem tG.eq {ev ev' : Rho → Sto → Res α} {Q : β → Hp → Prop} (h : tG K mg R1 W ev σ H Q) (e : ∀ ρ S, ev ρ S = ev' ρ S) : tG K mg R1 W ev' σ H Q := by
  have : ev = ev' := funext fun ρ => funext fun S => e ρ S
  rw [← this]; exact h
theorem PostG.ofW {α β : Type} {R : List Addr → Hp → α → β → Prop} {a : Op α} {φ : List Addr} {H : Hp} {Q : β → Hp → Prop} {W W' : XK} (h : PostG K mg R (.of a) φ H Q W) : PostG K mg R (.of a) φ H Q W' := by
  cases a with
  | none => exact h
  | some p => exact h
end
theorem PE.imp {X : Cx} {e : Expr} {t t' : TE} (h : PE X e t) (k : ∀ σ H Q, t' σ H Q → t σ H Q) : PE X e t' := ⟨fun pins s σ H Q I q => h.run pins s σ H Q I (k σ H Q q)⟩
theorem PT.imp {X : Cx} {e : Expr} {t t' : TT} (h : PT X e t) (k : ∀ σ H Q, t' σ H Q → t σ H Q) : PT X e t' := ⟨fun pins s σ H Q I q => h.run pins s σ H Q I (k σ H Q q)⟩
theorem PA.imp {X : Cx} {e : List Expr} {t t' : TA} (h : PA X e t) (k : ∀ σ H Q, t' σ H Q → t σ H Q) : PA X e t' := ⟨fun p pins s σ H Q I q => h.run p pins s σ H Q I (k σ H Q q)⟩
theorem PI.imp {X : Cx} {g e : Expr} {t t' : TI} (h : PI X g e t) (k : ∀ σ H Q, t' σ H Q → t σ H Q) : PI X g e t' := ⟨fun pins s σ H Q I q => h.run pins s σ H Q I (k σ H Q q)⟩
/-! ### the context -/
/-- a def keeps its promise -/
def spF (K : PySem.W.Frag) (mg : Str → Option Value) (F : List D → Sto → Res D) : Sp := fun vs H Q E => ∃ φ S ds, Sim K φ S H ∧ RelDs K φ H ds vs ∧ PostG K mg (RelD K) (F ds S) φ H Q E
structure FnT (X : Cx) (P : Par) (f : Str) : Prop where
  ok : ∃ (a : Addr) (fd : FuncData) (k : Nat) (ps : List Str), X.mg f = some (.ref a) ∧ PySem.W.keepIn X.K (.ref a) = true ∧ Room k X.A ∧ FnOk X.prog X.w X.K X.mg X.base (L2.CX X.prog X.w) k a fd ps (spF X.K X.mg (P.F f)) ∧ Binds X.K fd ps [] ∧
    (∀ (s : Shared) (ks : List Str) (us ws : List Value), orderK ps ks us = some ws → BindsTo s fd ⟨[], ks.zip us⟩ (ps.zip ws)) ∧ ∀ ks vs S, P.FK f ks vs S = match orderK ps ks vs with
      | some us => P.F f us S
      | none => .fail
structure Ok (X : Cx) (C : CC) (P : Par) (W : WX) : Prop where
  sc : X.env.scope = C.sc
  kind : C.sc.kind = .function
  N : X.N = C.N
  nd : C.N.Nodup
  calm : X.calm = true
  fn : ∀ x, C.cel x = true → X.fn x = true
  tk : Takes X W
  un : X.A.units + 200 < cLine
  bi : ∀ f ∈ C.bis, f ∈ biNames ∧ (if f = "gcd" then X.mg "gcd" = some (.builtin "math.gcd") else X.mg (Str.ofString f) = none)
  free : ∀ f ∈ (["isinstance", "range", "enumerate", "zip"] ++ tyNames : List String), X.mg (Str.ofString f) = none
  fns : ∀ f, f ∈ C.fns → FnT X P f
  gl : ∀ x d, P.gl x = some d → ∃ u v, X.mg x = some u ∧ RelV v u ∧ ∀ φ H, RelD X.K φ H d v
abbrev tE (K : PySem.W.Frag) (mg : Str → Option Value) (W : WX) (P : Par) (c : CE) : TE := tG K mg (RelD K) W (evE P c)
abbrev tT (K : PySem.W.Frag) (mg : Str → Option Value) (W : WX) (P : Par) (c : CE) : TT := tG K mg RelEq W (evT P c)
abbrev tA (K : PySem.W.Frag) (mg : Str → Option Value) (W : WX) (P : Par) (c : CEs) : TA := tG K mg (RelDs K) W (evEs P c)
/-! ### names -/
theorem kind_of {X : Cx} {C : CC} {P : Par} {W : WX} (ok : Ok X C P W) (x : Str) : X.env.kindOf x = C.sc.names.lookup x := by
  unfold Env.kindOf
  rw [ok.sc]
theorem idx_get {N : List Str} {x : Str} {i : Nat} (h : idx N x = some i) : N[i]? = some x := by
  unfold idx at h
  have h1 := List.findIdx?_eq_some_iff_getElem.mp h
  obtain ⟨h2, h3, _⟩ := h1
  rw [List.getElem?_eq_getElem h2]
  simp at h3
  rw [h3]
theorem badName_no {x : Str} (h : badName x = false) : (x == ("__debug__" : Str)) = false ∧ (x == ("__classdict__" : Str)) = false ∧ x ≠ "__name__" := by
  unfold badName at h
  rw [Bool.or_eq_false_iff, Bool.or_eq_false_iff] at h
  exact ⟨h.1.1, h.1.2, by simpa using h.2⟩
theorem glob_gl {X : Cx} {C : CC} {P : Par} {W : WX} (ok : Ok X C P W) {x : Str} (h : C.glob x = true) : Gl X x ∧ (x == ("__debug__" : Str)) = false ∧ x ≠ "__name__" := by
  unfold CC.glob at h
  rw [Bool.and_eq_true] at h
  have h1 := of_decide_eq_true h.1
  have h2 := badName_no (by simpa using h.2)
  exact ⟨(kind_of ok x).trans h1, h2.1, h2.2.2⟩
theorem strIn_some {l : List String} {x : Str} {s : String} (h : strIn l x = some s) : s ∈ l ∧ x = Str.ofString s := by
  unfold strIn at h
  have h1 := List.find?_some h
  exact ⟨List.mem_of_find?_eq_some h, (beq_iff_eq.mp h1).symm⟩
theorem s_name {X : Cx} {C : CC} {P : Par} {W : WX} (ok : Ok X C P W) {x : Str} {pos : Pos} {c : CE} (h : cN C x = some c) : PE X (.Name x pos) (tE X.K X.mg W P c) := by
  unfold cN at h
  cases hb : badName x with
  | true => rw [hb] at h; simp at h
  | false =>
    obtain ⟨hd, hcd, _⟩ := badName_no hb
    rw [hb] at h
    simp only [Bool.false_eq_true, if_false] at h
    have loc : Vis X.env.scope x → (idx C.N x).map CE.var = some c → PE X (.Name x pos) (tE X.K X.mg W P c) := by
      intro hv e
      obtain ⟨i, e1, rfl⟩ := Option.map_eq_some_iff.mp e
      refine PE.imp (pe_var (i := i) (by rw [ok.N]; exact idx_get e1) hv hd hcd) fun σ H Q h => ?_
      obtain ⟨φ, ρ, S, s, r, h⟩ := h
      simp only [evE, evB, Ev.of] at h
      split at h
      · rename_i d hd
        obtain ⟨v, h1, h2⟩ := r.at_ i d hd
        exact ⟨v, h1, h.here s h2⟩
      · exact h.elim
    split at h
    · rename_i e; exact loc (.inl (by rw [ok.sc]; exact e)) h
    · rename_i e; exact loc (.inr (.inl (by rw [ok.sc]; exact e))) h
    · rename_i e; exact loc (.inr (.inr (by rw [ok.sc]; exact e))) h
    · rename_i e
      split at h
      · cases h
        refine ⟨fun pins s σ H Q I h => ?_⟩
        obtain ⟨φ, ρ, S, sm, r, h⟩ := h
        simp only [evE, evB, Ev.of] at h
        split at h
        · rename_i d hg
          obtain ⟨u, v, h1, h2, h3⟩ := ok.gl x d hg
          exact ld_glob I ((kind_of ok x).trans e) h1 ⟨v, H, I, h2, h.here sm (h3 φ H)⟩ hd
        · exact h.elim
      · cases h
    · cases h
theorem PostG.hereE {K : PySem.W.Frag} {mg : Str → Option Value} {P : Par} {c : CE} {ρ : Rho} {a : D} {S : Sto} {y : V} {φ : List Addr} {H : Hp} {Q : VK} {W : XK} (h : PostG K mg (RelD K) (evE P c ρ S) φ H Q W) (e : evE P c ρ S = .ok a S) (s : Sim K φ S H) (r : RelD K φ H a y) : Q y H := by
  rw [e] at h
  exact h.here s r
theorem s_const {X : Cx} {P : Par} {W : WX} {k : Const} {i : Nat} {pos : Pos} {d : D} (h : cC k = some d) : PE X (.Constant k i pos) (tE X.K X.mg W P (.cst d)) := by
  cases k with
  | none => cases h; exact PE.imp pe_non fun σ H Q ⟨φ, ρ, S, s, r, h⟩ => h.hereE rfl s .non
  | bool b => cases h; exact PE.imp pe_bl fun σ H Q ⟨φ, ρ, S, s, r, h⟩ => h.hereE rfl s (.bl b)
  | int b => cases h; exact PE.imp pe_int fun σ H Q ⟨φ, ρ, S, s, r, h⟩ => h.hereE rfl s (.int b)
  | str b => cases h; exact PE.imp pe_str fun σ H Q ⟨φ, ρ, S, s, r, h⟩ => h.hereE rfl s (.str b)
  | _ => cases h
end G

end

section
set_option Elab.async false
set_option linter.all false
set_option maxRecDepth 100000
/-! G8: expressions, one construct after another. -/
namespace G
open PySem PySem.Spec PyProof.Rows L2
theorem Res.bind_assoc {α β γ : Type} (r : Res α) (f : α → Sto → Res β) (g : β → Sto → Res γ) : (r.bind f).bind g = r.bind fun a S => (f a S).bind g := by cases r <;> rfl
theorem starEach_cons {e : Expr} {es : List Expr} {env : PySem.Env} (h : isStar e = false) : starEach (e :: es) env = (false, eval e env) :: starEach es env := by
  cases e <;> first | rfl | simp [isStar] at h
theorem plain_any {pos : Pos} {env : PySem.Env} : ∀ {es : List Expr}, es.any isStar = false → (backTo pos (starEach es env)).any (·.1) = false
  | [], _ => rfl
  | e :: es, h => by
    rw [List.any_cons, Bool.or_eq_false_iff] at h
    rw [starEach_cons h.1]
    show (false || (backTo pos (starEach es env)).any (·.1)) = false
    rw [plain_any h.2]; rfl
section
variable {X : Cx} {C : CC} {P : Par} {W : WX} {a b c : Expr} {ca cb cc : CE} {pos : Pos}
abbrev SE (X : Cx) (P : Par) (W : WX) (e : Expr) (c : CE) : Prop := PE X e (tE X.K X.mg W P c)
abbrev ST (X : Cx) (P : Par) (W : WX) (e : Expr) (c : CE) : Prop := PT X e (tT X.K X.mg W P c)
abbrev SA (X : Cx) (P : Par) (W : WX) (es : List Expr) (c : CEs) : Prop := PA X es (tA X.K X.mg W P c)
/-- a value's truth -/
theorem tru_tG {K : PySem.W.Frag} {mg : Str → Option Value} {ev : Rho → Sto → Res D} {σ : L2.St} {H : Hp} {Q : Bool → Hp → Prop} (h : tG K mg RelEq W (fun ρ S => truR (ev ρ S)) σ H Q) :
    tG K mg (RelD K) W ev σ H fun x H' => ∃ k, TruV K x H' k ∧ Q k H' := by
  refine (tG.bind1 (R1 := RelD K) h).map fun y H1 ⟨φ, S, a, s, r, h1⟩ => ?_
  obtain ⟨b, S', e, k⟩ := PostG.noexc h1
  obtain ⟨b2, e1, e2⟩ := Option.map_eq_some_iff.mp e
  cases e2
  exact ⟨_, tru_get s e1 r, k φ _ H1 (.refl _ _) s rfl⟩
/-- a test by the value -/
theorem s_truth (h : SE X P W a ca) (ht : evB P ca = Ev.of (evB P ca).v) (he : ∀ whole, isTrue a X.env whole = (do let v ← whole; standAt a.pos; holding [v] (truthy v))) : ST X P W a ca := by
  refine PT.imp (pt_truth h he) fun σ H Q h => ?_
  refine tru_tG (W := W) (ev := evE P ca) (tG.eq h fun ρ S => ?_)
  show (evB P ca).t ρ S = truR ((evB P ca).v ρ S)
  rw [ht]; rfl
theorem s_bin {op : Operator} (ha : SE X P W a ca) (hb : SE X P W b cb) : SE X P W (.BinOp a op b pos) (.bin op ca cb) :=
  PE.imp (pe_op (op_binD (mg := X.mg) op) ha hb) fun σ H Q h => (tG.bind2 laterD (ev1 := evE P ca) (ev2 := evE P cb) h).map fun y1 H1 h1 => h1.map fun y2 H2 ⟨φ, S, a, b, s, ra, rb, h2⟩ => ⟨φ, S, a, b, s, ra, rb, h2.ofW⟩
theorem s_neg (ha : SE X P W a ca) : SE X P W (.UnaryOp .USub a pos) (.neg ca) :=
  PE.imp (pe_un (un_negD (mg := X.mg)) ha) fun σ H Q h => (tG.bind1 (ev := evE P ca) h).map fun y1 H1 ⟨φ, S, a, s, ra, h2⟩ => ⟨φ, S, a, s, ra, h2.ofW⟩
theorem s_not (ha : SE X P W a ca) : SE X P W (.UnaryOp .Not a pos) (.not ca) := by
  refine PE.imp (pe_notT ha) fun σ H Q h => ?_
  have h1 := tG.bind1 (R1 := RelEq (α := Bool)) (ev := fun ρ S => truR (evE P ca ρ S)) h
  refine (tru_tG h1).map fun x H1 ⟨k, ht, φ, S, b, s, e, h2⟩ => ⟨k, ht, ?_⟩
  cases e
  exact h2.here s (.bl _)
theorem t_not (ha : ST X P W a ca) : ST X P W (.UnaryOp .Not a pos) (.not ca) := by
  refine PT.imp (pt_not ha) fun σ H Q h => ?_
  refine (tG.bind1 (R1 := RelEq (α := Bool)) (ev := evT P ca) h).map fun x H1 ⟨φ, S, b, s, e, h2⟩ => ?_
  cases e
  exact h2.here s rfl
theorem s_cmp (un : X.A.units + 200 < cLine) {op : CmpOp} (hb' : isSet b = false) (ha : SE X P W a ca) (hb : SE X P W b cb) : SE X P W (.Compare a [op] [b] pos) (.cmp op ca cb) :=
  PE.imp (pe_cmpR (op_cmpD (mg := X.mg) un op) ha hb (by cases b <;> first | rfl | simp [isSet] at hb')) fun σ H Q h => (tG.bind2 laterD (ev1 := evE P ca) (ev2 := evE P cb) h).map fun y1 H1 h1 => h1.map fun y2 H2 ⟨φ, S, a, b, s, ra, rb, h2⟩ => ⟨φ, S, a, b, s, ra, rb, h2.ofW⟩
theorem cmp_bool {K : PySem.W.Frag} {mg : Str → Option Value} {op : CmpOp} {x y : D} {φ : List Addr} {S : Sto} {H : Hp} {Q : Bool → Hp → Prop} {W : XK} (s : Sim K φ S H) (h : PostG K mg RelEq (truR (.of (cmpD op x y S))) φ H Q W) : PostV K mg (cmpD op x y S) φ H fun z H' => ∃ k, z = .bl k ∧ Q k H' := by
  unfold cmpD at h ⊢
  cases e : cmpO op x y S with
  | none => rw [e] at h; exact h
  | some r =>
    rw [e] at h
    have h' : PostG K mg RelEq (.ok r S) φ H Q W := h
    intro φ' y' H' g s' r'
    cases r'
    exact ⟨r, rfl, h' φ' r H' g s' rfl⟩
theorem t_cmp (un : X.A.units + 200 < cLine) {op : CmpOp} (hb' : isSet b = false) (ha : SE X P W a ca) (hb : SE X P W b cb) : ST X P W (.Compare a [op] [b] pos) (.cmp op ca cb) := by
  refine PT.imp (pt_cmpR (op_cmpD (mg := X.mg) un op) ha hb (by cases b <;> first | rfl | simp [isSet] at hb')) fun σ H Q h => ?_
  have h1 : tG X.K X.mg RelEq W (fun ρ S => (evE P ca ρ S).bind fun x S => (evE P cb ρ S).bind fun y S => truR (.of (cmpD op x y S))) σ H Q := tG.eq h fun ρ S => by
    show truR ((evE P ca ρ S).bind fun x S => (evE P cb ρ S).bind fun y S => .of (cmpD op x y S)) = _
    unfold truR
    rw [Res.bind_assoc]
    congr 1
    funext x S
    rw [Res.bind_assoc]
  exact (tG.bind2 (R1 := RelD X.K) (R2 := RelD X.K) laterD h1).map fun y1 H1 h1 => h1.map fun y2 H2 ⟨φ, S, a, b, s, ra, rb, h2⟩ => ⟨φ, S, a, b, s, ra, rb, cmp_bool s h2⟩
end
end G

end

section
set_option Elab.async false
set_option linter.all false
set_option maxRecDepth 100000
/-! G9: more expressions. -/
namespace G
open PySem PySem.Spec PyProof.Rows L2
/-- expressions and their codes -/
inductive Ps (X : Cx) (P : Par) (W : WX) : List Expr → CEs → Prop where
  | nil : Ps X P W [] .nil
  | cons {e : Expr} {c : CE} {es : List Expr} {cs : CEs} : isStar e = false → SE X P W e c → ST X P W e c → Ps X P W es cs → Ps X P W (e :: es) (.cons false c cs)
  | star {e : Expr} {c : CE} {es : List Expr} {cs : CEs} {p : Pos} : SE X P W e c → Ps X P W es cs → Ps X P W (.Starred e p :: es) (.cons true c cs)
section
variable {X : Cx} {C : CC} {P : Par} {W : WX} {a b c : Expr} {ca cb cc : CE} {pos : Pos}
/-! ### chains -/
theorem chn_imp (un : X.A.units + 200 < cLine) {o1 o2 : CmpOp} {σ : L2.St} {H : Hp} {Q : VK} (h : tE X.K X.mg W P (.chn o1 o2 ca cb cc) σ H Q) :
    tChain (rOp2 X.K X.mg (cmpD o1)) (rOp2 X.K X.mg (cmpD o2)) (tE X.K X.mg W P ca) (tE X.K X.mg W P cb) (tE X.K X.mg W P cc) σ H Q := by
  obtain ⟨φ, ρ, S, s, r, h⟩ := h
  refine ⟨φ, ρ, S, s, r, (PostG.bind (R := RelD X.K) h).mono fun y1 H1 ⟨φ1, S1, a, g1, s1, ra, _, h1⟩ => ⟨φ1, ρ, S1, s1, r.grow g1, (PostG.bind (R := RelD X.K) h1).mono fun y2 H2 ⟨φ2, S2, b, g2, s2, rb, _, h2⟩ => ?_⟩⟩
  refine ⟨φ2, S2, a, b, s2, ra.grow g2, rb, ?_⟩
  unfold cmpD
  cases e : cmpO o1 a b S2 with
  | none => rw [e] at h2; exact h2.elim
  | some k =>
    rw [e] at h2
    intro φ3 y H3 g3 s3 r3
    cases r3
    refine ⟨k, rfl, ?_⟩
    cases k with
    | false =>
      rw [if_neg (by decide)]
      exact h2 φ3 _ H3 g3 s3 (.bl _)
    | true =>
      rw [if_pos rfl]
      exact ⟨φ3, ρ, S2, s3, ((r.grow g1).grow g2).grow g3, (PostG.bind (R := RelD X.K) (h2.grow g3)).mono fun y3 H4 ⟨φ4, S4, d, g4, s4, rd, _, h4⟩ => ⟨φ4, S4, b, d, s4, (rb.grow g3).grow g4, rd, h4.ofW⟩⟩
theorem chn_marks {o1 o2 : CmpOp} (hb : isSet b = false) (hc : isSet c = false) : lastMarks [o1, o2] [b, c] = false := by
  cases c <;> first | (simp [isSet] at hc; done) | (cases b <;> first | (simp [isSet] at hb; done) | rfl)
theorem s_chn (un : X.A.units + 200 < cLine) {o1 o2 : CmpOp} (hb' : isSet b = false) (hc' : isSet c = false) (ha : SE X P W a ca) (hb : SE X P W b cb) (hc : SE X P W c cc) : SE X P W (.Compare a [o1, o2] [b, c] pos) (.chn o1 o2 ca cb cc) :=
  PE.imp (pe_chain (op_cmpD (mg := X.mg) un o1) (op_cmpD (mg := X.mg) un o2) ha hb hc (chn_marks hb' hc')) fun σ H Q h => chn_imp un h
/-- an evaluation that gives bools, as a test -/
theorem tru_bl {K : PySem.W.Frag} {mg : Str → Option Value} {ev : Rho → Sto → Res D} {σ : L2.St} {H : Hp} {Q : Bool → Hp → Prop} (h : tG K mg RelEq W (fun ρ S => truR (ev ρ S)) σ H Q) (hb : ∀ ρ S d S', ev ρ S = .ok d S' → ∃ k, d = .bl k) :
    tG K mg (RelD K) W ev σ H fun x H' => ∃ k, x = .bl k ∧ Q k H' := by
  obtain ⟨φ, ρ, S, s, r, h⟩ := h
  refine ⟨φ, ρ, S, s, r, (PostG.bind (R := RelD K) h).mono fun y H1 ⟨φ1, S1, a, g1, s1, ra, e, h1⟩ => ?_⟩
  obtain ⟨k, rfl⟩ := hb ρ S a S1 e
  cases ra
  exact ⟨k, rfl, h1 φ1 k H1 (.refl _ _) s1 rfl⟩
theorem cmpD_bl {op : CmpOp} {x y d : D} {S S' : Sto} (h : Res.of (cmpD op x y S) = .ok d S') : ∃ k, d = .bl k := by
  unfold cmpD at h
  cases e : cmpO op x y S with
  | none => rw [e] at h; cases h
  | some k => rw [e] at h; cases h; exact ⟨k, rfl⟩
theorem Res.bind_ok {α β : Type} {r : Res α} {f : α → Sto → Res β} {b : β} {S' : Sto} (h : r.bind f = .ok b S') : ∃ a S, r = .ok a S ∧ f a S = .ok b S' := by
  cases r with
  | ok a S => exact ⟨a, S, rfl, h⟩
  | exc c x S => cases h
  | fail => cases h
theorem t_chn (un : X.A.units + 200 < cLine) {o1 o2 : CmpOp} (hb' : isSet b = false) (hc' : isSet c = false) (ha : SE X P W a ca) (hb : SE X P W b cb) (hc : SE X P W c cc) : ST X P W (.Compare a [o1, o2] [b, c] pos) (.chn o1 o2 ca cb cc) := by
  refine PT.imp (pt_chain (op_cmpD (mg := X.mg) un o1) (op_cmpD (mg := X.mg) un o2) ha hb hc (chn_marks hb' hc')) fun σ H Q h => chn_imp un (tru_bl (ev := evE P (.chn o1 o2 ca cb cc)) h fun ρ S d S' e => ?_)
  obtain ⟨x, S1, _, e⟩ := Res.bind_ok e
  obtain ⟨y, S2, _, e⟩ := Res.bind_ok e
  split at e
  · obtain ⟨z, S3, _, e⟩ := Res.bind_ok e
    exact cmpD_bl e
  · cases e; exact ⟨_, rfl⟩
  · cases e
/-! ### and, or -/
theorem s_and : ∀ {es : List Expr} {cs : CEs} {e : Expr} {c : CE}, SE X P W e c → Ps X P W es cs → es.any isStar = false → SE X P W (.BoolOp .And (e :: es) pos) (.and (.cons false c cs))
  | _, _, e, c, he, .nil, _ => pe_one he
  | _, _, e, c, he, .star _ _, hs => by simp [isStar] at hs
  | _, _, e, c, he, .cons h1 h2 h3 h4, hs => by
    rw [List.any_cons, Bool.or_eq_false_iff] at hs
    refine PE.imp (pe_andT he (s_and h2 h4 hs.2)) fun σ H Q h => ?_
    obtain ⟨φ, ρ, S, s, r, h⟩ := h
    refine ⟨φ, ρ, S, s, r, (PostG.bind (R := RelD X.K) h).mono fun y H1 ⟨φ1, S1, a, g1, s1, ra, _, h1⟩ => ?_⟩
    cases et : truD S1 a with
    | none => rw [et] at h1; exact h1.elim
    | some k =>
      rw [et] at h1
      refine ⟨k, tru_get s1 et ra, ?_⟩
      cases k with
      | true => rw [if_pos rfl]; exact ⟨φ1, ρ, S1, s1, r.grow g1, h1⟩
      | false => rw [if_neg (by decide)]; exact h1 φ1 y H1 (.refl _ _) s1 ra
theorem s_or : ∀ {es : List Expr} {cs : CEs} {e : Expr} {c : CE}, SE X P W e c → Ps X P W es cs → es.any isStar = false → SE X P W (.BoolOp .Or (e :: es) pos) (.or (.cons false c cs))
  | _, _, e, c, he, .nil, _ => pe_one he
  | _, _, e, c, he, .star _ _, hs => by simp [isStar] at hs
  | _, _, e, c, he, .cons h1 h2 h3 h4, hs => by
    rw [List.any_cons, Bool.or_eq_false_iff] at hs
    refine PE.imp (pe_orT he (s_or h2 h4 hs.2)) fun σ H Q h => ?_
    obtain ⟨φ, ρ, S, s, r, h⟩ := h
    refine ⟨φ, ρ, S, s, r, (PostG.bind (R := RelD X.K) h).mono fun y H1 ⟨φ1, S1, a, g1, s1, ra, _, h1⟩ => ?_⟩
    cases et : truD S1 a with
    | none => rw [et] at h1; exact h1.elim
    | some k =>
      rw [et] at h1
      refine ⟨k, tru_get s1 et ra, ?_⟩
      cases k with
      | false => rw [if_neg (by decide)]; exact ⟨φ1, ρ, S1, s1, r.grow g1, h1⟩
      | true => rw [if_pos rfl]; exact h1 φ1 y H1 (.refl _ _) s1 ra
abbrev SW (X : Cx) (P : Par) (W : WX) (e : Expr) (ev : Rho → Sto → Res Bool) : Prop := PW X e (tG X.K X.mg RelEq W ev)
theorem PW.imp {X : Cx} {e : Expr} {t t' : TT} (h : PW X e t) (k : ∀ σ H Q, t' σ H Q → t σ H Q) : PW X e t' := ⟨fun wh pins s σ H Q I q => h.run wh pins s σ H Q I (k σ H Q q)⟩
theorem w_and : ∀ {es : List Expr} {cs : CEs} {e : Expr} {c : CE}, ST X P W e c → Ps X P W es cs → es.any isStar = false → SW X P W (.BoolOp .And (e :: es) pos) (evAll P (.cons false c cs))
  | _, _, e, c, he, .nil, _ => PW.imp (pw_and1 he) fun σ H Q h => (tG.bind1 (R1 := RelEq (α := Bool)) (R2 := RelEq (α := Bool)) (ev := evT P c) (f := fun k S => if k then .ok true S else .ok false S) (Q := Q) h).map fun x H1 ⟨φ, S, b, s, e, h2⟩ => by
      cases e
      cases x with
      | true => exact h2.here s rfl
      | false => exact h2.here s rfl
  | _, _, e, c, he, .star _ _, hs => by simp [isStar] at hs
  | _, _, e, c, he, .cons h1 h2 h3 h4, hs => by
    rw [List.any_cons, Bool.or_eq_false_iff] at hs
    refine PW.imp (pw_and he (w_and h3 h4 hs.2)) fun σ H Q h => ?_
    refine (tG.bindR (R1 := RelEq (α := Bool)) (ev := evT P c) (f := fun ρ k S => if k then evAll P (.cons false _ _) ρ S else .ok false S) h).map fun x H1 ⟨b, φ, ρ, S, s, r, e, h2⟩ => ?_
    cases e
    cases x with
    | true => rw [if_pos rfl]; exact ⟨φ, ρ, S, s, r, h2⟩
    | false => rw [if_neg (by decide)]; exact h2.here s rfl
theorem w_or : ∀ {es : List Expr} {cs : CEs} {e : Expr} {c : CE}, ST X P W e c → Ps X P W es cs → es.any isStar = false → SW X P W (.BoolOp .Or (e :: es) pos) (evAny P (.cons false c cs))
  | _, _, e, c, he, .nil, _ => PW.imp (pw_or1 he) fun σ H Q h => (tG.bind1 (R1 := RelEq (α := Bool)) (R2 := RelEq (α := Bool)) (ev := evT P c) (f := fun k S => if k then .ok true S else .ok false S) (Q := Q) h).map fun x H1 ⟨φ, S, b, s, e, h2⟩ => by
      cases e
      cases x with
      | true => exact h2.here s rfl
      | false => exact h2.here s rfl
  | _, _, e, c, he, .star _ _, hs => by simp [isStar] at hs
  | _, _, e, c, he, .cons h1 h2 h3 h4, hs => by
    rw [List.any_cons, Bool.or_eq_false_iff] at hs
    refine PW.imp (pw_or he (w_or h3 h4 hs.2)) fun σ H Q h => ?_
    refine (tG.bindR (R1 := RelEq (α := Bool)) (ev := evT P c) (f := fun ρ k S => if k then .ok true S else evAny P (.cons false _ _) ρ S) h).map fun x H1 ⟨b, φ, ρ, S, s, r, e, h2⟩ => ?_
    cases e
    cases x with
    | false => rw [if_neg (by decide)]; exact ⟨φ, ρ, S, s, r, h2⟩
    | true => rw [if_pos rfl]; exact h2.here s rfl
/-! ### a if c else b -/
theorem s_ite (hc : ST X P W c cc) (ha : SE X P W a ca) (hb : SE X P W b cb) : SE X P W (.IfExp c a b pos) (.ite cc ca cb) := by
  refine PE.imp (pe_ifExp hc ha hb) fun σ H Q h => ?_
  refine (tG.bindR (R1 := RelEq (α := Bool)) (ev := evT P cc) (f := fun ρ k S => if k then evE P ca ρ S else evE P cb ρ S) h).map fun x H1 ⟨b, φ, ρ, S, s, r, e, h2⟩ => ?_
  cases e
  cases x with
  | true => rw [if_pos rfl]; exact ⟨φ, ρ, S, s, r, h2⟩
  | false => rw [if_neg (by decide)]; exact ⟨φ, ρ, S, s, r, h2⟩
theorem pt_ite {tc ta tb : TT} (hc : PT X c tc) (ha : PT X a ta) (hb : PT X b tb) : PT X (.IfExp c a b pos) (fun σ H Q => tc σ H fun k H1 => if k = true then ta σ H1 Q else tb σ H1 Q) := by
  refine ⟨fun pins s σ H Q I h => ?_⟩
  refine isTrue_IfExp (thn (hc.run pins s σ H _ I h) fun d s1 ⟨H1, I1, q1⟩ => ?_)
  cases d with
  | true => exact ha.run pins s1 σ H1 Q I1 q1
  | false => exact hb.run pins s1 σ H1 Q I1 q1
theorem t_ite (hc : ST X P W c cc) (ha : ST X P W a ca) (hb : ST X P W b cb) : ST X P W (.IfExp c a b pos) (.ite cc ca cb) := by
  refine PT.imp (pt_ite hc ha hb) fun σ H Q h => ?_
  refine (tG.bindR (R1 := RelEq (α := Bool)) (ev := evT P cc) (f := fun ρ k S => if k then evT P ca ρ S else evT P cb ρ S) h).map fun x H1 ⟨b, φ, ρ, S, s, r, e, h2⟩ => ?_
  cases e
  cases x with
  | true => rw [if_pos rfl]; exact ⟨φ, ρ, S, s, r, h2⟩
  | false => rw [if_neg (by decide)]; exact ⟨φ, ρ, S, s, r, h2⟩
/-! ### argument lists -/
theorem seq_any {K : PySem.W.Frag} {φ : List Addr} {H : Hp} {S : Sto} {d : D} {xs : List D} {y : V} (s : Sim K φ S H) (e : seqD S d = some xs) (r : RelD K φ H d y) : ∃ p vs, y = .ref p ∧ (SqT K H p vs ∨ SqL K H p vs) ∧ RelDs K φ H xs vs := by
  obtain ⟨p, vs, h1, h2, h3⟩ := s.seq e r
  exact ⟨p, vs, h1, h2.symm, h3⟩
theorem s_args : ∀ {es : List Expr} {cs : CEs}, Ps X P W es cs → SA X P W es cs
  | _, _, .nil => PA.imp pa_nil fun σ H Q ⟨φ, ρ, S, s, r, h⟩ => h φ [] H (.refl _ _) s .nil
  | _, _, .cons (e := e) (es := es) h1 h2 _ h4 => by
    refine PA.imp (pa_cons h2 (s_args h4) (starEach_cons h1)) fun σ H Q h => ?_
    exact (tG.bind2 (R2 := RelDs X.K) laterD h).map fun y1 H1 h1 => h1.map fun y2 H2 ⟨φ, S, a, b, s, ra, rb, h2⟩ => h2 φ _ H2 (.refl _ _) s (.cons ra rb)
  | _, _, .star h2 h4 => by
    refine PA.imp (StX.pa_star h2 (s_args h4) rfl) fun σ H Q h => ?_
    obtain ⟨φ, ρ, S, s, r, h⟩ := h
    refine ⟨φ, ρ, S, s, r, (PostG.bind (R := RelD X.K) h).mono fun y H1 ⟨φ1, S1, a, g1, s1, ra, _, h1⟩ => ?_⟩
    split at h1
    · rename_i ys hy
      obtain ⟨p, vs, e, h3, h4⟩ := seq_any s1 hy ra
      refine ⟨p, vs, e, h3, φ1, ρ, S1, s1, r.grow g1, (PostG.bind (R := RelDs X.K) h1).mono fun zs H2 ⟨φ2, S2, b, g2, s2, rb, _, h2⟩ => ?_⟩
      exact h2 φ2 _ H2 (.refl _ _) s2 (RelDs.of (Pd.append (h4.grow g2).pd rb.pd))
    · exact h1.elim
/-- an evaluation of arguments, then an operation -/
theorem tG.args {K : PySem.W.Frag} {mg : Str → Option Value} {cs : CEs} {f : List D → Sto → Op D} {σ : L2.St} {H : Hp} {Q : VK} (h : tG K mg (RelD K) W (fun ρ S => (evEs P cs ρ S).bind fun vs S => .of (f vs S)) σ H Q) :
    tA K mg W P cs σ H fun xs H1 => ∃ φ S vs, Sim K φ S H1 ∧ RelDs K φ H1 vs xs ∧ PostV K mg (f vs S) φ H1 Q :=
  (tG.bind1 (R1 := RelDs K) (ev := evEs P cs) h).map fun xs H1 ⟨φ, S, a, s, r, h1⟩ => ⟨φ, S, a, s, r, h1.ofW⟩
theorem s_lst {es : List Expr} {cs : CEs} (h : Ps X P W es cs) : SE X P W (.List es pos) (.lst cs) :=
  PE.imp (pe_lst (s_args h)) fun σ H Q h => (tG.args h).map fun xs H1 ⟨φ, S, vs, s, r, k⟩ =>
    let ⟨d, S', e, k⟩ := k.get
    newL_ok s r e k
theorem s_tup {es : List Expr} {cs : CEs} {x1} (h : Ps X P W es cs) : SE X P W (.Tuple es x1 pos) (.tup cs) :=
  PE.imp (pe_tup (s_args h)) fun σ H Q h => (tG.args h).map fun xs H1 ⟨φ, S, vs, s, r, k⟩ =>
    let ⟨d, S', e, k⟩ := k.get
    let ⟨_, _, h1, h2⟩ := newT_ok s r e k
    ⟨h1, h2⟩
end
end G

end

section
set_option Elab.async false
set_option linter.all false
set_option maxRecDepth 100000
/-! G10: calls, methods, items, slices, displays of dicts, isinstance. -/
namespace G
open PySem PySem.Spec PyProof.Rows L2
section
variable {X : Cx} {C : CC} {P : Par} {W : WX} {a b c e o : Expr} {ca cb cc co : CE} {pos p p2 : Pos} {es : List Expr} {cs : CEs} {f : Str}
/-! ### calls of the own defs -/
theorem Ps.star_first (h : Ps X P W (e :: es) cs) (hs : (e :: es).any isStar = false) : starEach (e :: es) X.env = (false, eval e X.env) :: starEach es X.env ∧ (backTo pos (starEach es X.env)).any (·.1) = false := by
  rw [List.any_cons, Bool.or_eq_false_iff] at hs
  exact ⟨starEach_cons hs.1, plain_any hs.2⟩
theorem s_call (ok : Ok X C P W) (hg : C.glob f = true) (hf : f ∈ C.fns) (hs : (e :: es).any isStar = false) (h : Ps X P W (e :: es) cs) : SE X P W (.Call (.Name f p) (e :: es) [] pos) (.call f cs) := by
  obtain ⟨g1, g2, _⟩ := glob_gl ok hg
  obtain ⟨fa, fd, k, ps, h1, h2, h3, h4, h5, _⟩ := (ok.fns f hf).ok
  obtain ⟨s1, s2⟩ := h.star_first (pos := pos) hs
  refine PE.imp (pe_callS (E := WE W) h4 h3 g1 h1 h2 h5 (passAt ok.tk) (s_args h) g2 s1 s2) fun σ H Q q => ?_
  exact (tG.bind1 (R1 := RelDs X.K) (ev := evEs P cs) q).map fun vs H1 ⟨φ, S, ds, s, r, h1⟩ => ⟨φ, S, ds, s, r, h1⟩
/-- keywords and their codes -/
inductive Ks (X : Cx) (P : Par) (W : WX) : List Keyword → List Str → CEs → Prop where
  | nil : Ks X P W [] [] .nil
  | cons {n : Str} {e : Expr} {c : CE} {kp : Pos} {es : List Keyword} {ns : List Str} {cs : CEs} : SE X P W e c → Ks X P W es ns cs → Ks X P W (⟨some n, e, kp⟩ :: es) (n :: ns) (.cons false c cs)
theorem s_kws : ∀ {es : List Keyword} {ns : List Str} {cs : CEs}, Ks X P W es ns cs → PK X es (tA X.K X.mg W P cs)
  | _, _, _, .nil => ⟨fun pos pins s σ H Q I ⟨φ, ρ, S, sm, r, h⟩ => pk_nil.run pos pins s σ H Q I (h φ [] H (.refl _ _) sm .nil)⟩
  | _, _, _, .cons h2 h4 => by
    refine ⟨fun pos pins s σ H Q I h => (pk_cons h2 (s_kws h4)).run pos pins s σ H Q I ?_⟩
    exact (tG.bind2 (R2 := RelDs X.K) laterD h).map fun y1 H1 h1 => h1.map fun y2 H2 ⟨φ, S, a, b, s, ra, rb, h2⟩ => h2 φ _ H2 (.refl _ _) s (.cons ra rb)
theorem Ks.names {env : PySem.Env} : ∀ {es : List Keyword} {ns : List Str} {cs : CEs}, Ks X P W es ns cs → (backToKw pos (keywordEach es env)).all (·.1.isSome) = true ∧ (backToKw pos (keywordEach es env)).any (·.1.isNone) = false ∧ (backToKw pos (keywordEach es env)).filterMap (·.1) = ns
  | _, _, _, .nil => ⟨rfl, rfl, rfl⟩
  | _, _, _, .cons h2 h4 => by
    obtain ⟨h5, h6, h7⟩ := Ks.names h4
    refine ⟨?_, ?_, ?_⟩
    · show (true && (backToKw pos (keywordEach _ env)).all (·.1.isSome)) = true
      rw [h5]; rfl
    · show (false || (backToKw pos (keywordEach _ env)).any (·.1.isNone)) = false
      rw [h6]; rfl
    · exact congrArg (_ :: ·) h7
theorem mapO_pair {α β γ δ : Type} {F : β → γ → Prop} {g : α → Option β} {g' : α → Option γ} (hg : ∀ x y, g x = some y → ∃ z, g' x = some z ∧ F y z) : ∀ {xs : List α} {ys : List β}, mapO g xs = some ys → ∃ zs, mapO g' xs = some zs ∧ Paired F ys zs
  | [], _, h => by cases h; exact ⟨[], rfl, .nil⟩
  | x :: xs, ys, h => by
    unfold mapO at h
    split at h
    · rename_i d ds e1 e2
      cases h
      obtain ⟨z, h1, h2⟩ := hg x d e1
      obtain ⟨zs, h3, h4⟩ := mapO_pair (δ := δ) hg e2
      exact ⟨z :: zs, by unfold mapO; rw [h1, h3], .cons h2 h4⟩
    · cases h
theorem lookup_pair {α β : Type} {F : α → β → Prop} {x : Str} : ∀ {ks : List Str} {us : List α} {vs : List β}, Paired F us vs → ∀ u, (ks.zip us).lookup x = some u → ∃ v, (ks.zip vs).lookup x = some v ∧ F u v
  | [], _, _, _, u, h => by simp at h
  | _ :: _, _, _, .nil, u, h => by simp at h
  | k :: ks, _, _, .cons r t, u, h => by
    simp only [List.zip_cons_cons, List.lookup] at h ⊢
    split at h
    · cases h; exact ⟨_, rfl, r⟩
    · exact lookup_pair t u h
theorem orderK_pair {α β : Type} {F : α → β → Prop} {ps ks : List Str} {us us' : List α} {vs : List β} (r : Paired F us vs) (h : orderK ps ks us = some us') : ∃ vs', orderK ps ks vs = some vs' ∧ Paired F us' vs' := by
  unfold orderK at h ⊢
  rw [← r.length]
  split at h
  · rename_i hc
    rw [if_pos hc]
    exact mapO_pair (δ := β) (fun x y e => lookup_pair r y e) h
  · cases h
theorem run_kw {pins : List (Addr × Obj)} {σ : L2.St} {H : Hp} {s : Shared} {Q : VK} {fa : Addr} {fd : FuncData} {k : Nat} {ps : List Str} {sp : Sp} {E : L2.St → XK} {CX : CXT} {us ks : List Value} {kn : List Str} {vs : List V} (F : FnOk X.prog X.w X.K X.mg X.base CX k fa fd ps sp) (hr : Room k X.A)
    (b : BindsTo s fd ⟨[], kn.zip ks⟩ (ps.zip us)) (hx : PassesAt CX X σ (E σ)) (I : Inv X pins σ H s) (r : Vals vs us) (h : sp vs H Q (E σ)) : wpAny (model X.prog X.w) X.A (PySem.call (.ref fa) [] (kn.zip ks)) (EP X pins σ Q) X.xe s := by
  refine wpAny_call (codeAny_mono (F.run X.A X.stack s H ⟨[], kn.zip ks⟩ us vs Q (E σ) hr I.env0 b r h) fun r s' hq => ?_)
  cases r with
  | error e => exact hx pins H s e s' I hq
  | ok fl =>
    cases fl with
    | ret u => exact I.after hq
    | next => exact False.elim hq
    | brk => exact False.elim hq
    | cont => exact False.elim hq
theorem s_callk (ok : Ok X C P W) (hg : C.glob f = true) (hf : f ∈ C.fns) {kws : List Keyword} {ns : List Str} (h : Ks X P W kws ns cs) : SE X P W (.Call (.Name f p) [] kws pos) (.callk f ns cs) := by
  obtain ⟨g1, g2, _⟩ := glob_gl ok hg
  obtain ⟨fa, fd, k, ps, h1, h2, h3, h4, h5, h6, h7⟩ := (ok.fns f hf).ok
  refine ⟨fun pins s σ H Q I q => ?_⟩
  refine wpAny_Call_Name_kw (ld_glob I g1 h1 ?_ g2)
  obtain ⟨n1, n2, n3⟩ := h.names
  have q' := tG.bind1 (R1 := RelDs X.K) (R2 := RelD X.K) (ev := evEs P cs) (f := fun vs S => P.FK f ns vs S) q
  refine PySem.W.callWith_KW0 (K := X.K) (h₀ := s.heap) I.kIn h2 n1 (thn ((s_kws h).run pos pins s σ H _ I q') fun ws s2 ⟨zs, H2, I2, rz, φ, S, ds, sm, rd, k2⟩ => ⟨I2.kIn, ?_⟩) (by rw [n2]; rfl)
  rw [n3, h7] at *
  split at k2
  · rename_i us hu
    obtain ⟨vs, hv, rv⟩ := orderK_pair rd.pd hu
    obtain ⟨ws', hw, rw'⟩ := orderK_pair rz hv
    exact run_kw h4 h3 (h6 s2 ns ws ws' hw) (passAt ok.tk σ) I2 rw' ⟨φ, S, us, sm, RelDs.of rv, k2⟩
  · exact k2.elim
/-! ### built-ins -/
theorem s_bi (ok : Ok X C P W) {n : String} (hg : C.glob (Str.ofString n) = true) (hf : n ∈ C.bis) (hs : (e :: es).any isStar = false) (h : Ps X P W (e :: es) cs) : SE X P W (.Call (.Name (Str.ofString n) p) (e :: es) [] pos) (.bi n cs) := by
  obtain ⟨g1, g2, g3⟩ := glob_gl ok hg
  obtain ⟨s1, s2⟩ := h.star_first (pos := pos) hs
  obtain ⟨hb, hm⟩ := ok.bi n hf
  have hc : CallR X (biV n) (rCall X.K X.mg n) := call_bi ok.calm hb
  have key : PE X (.Call (.Name (Str.ofString n) p) (e :: es) [] pos) (tCB (rCall X.K X.mg n) (tA X.K X.mg W P cs)) := by
    simp only [biNames, List.mem_cons, List.not_mem_nil, or_false] at hb
    rcases hb with rfl | rfl | rfl | rfl | rfl | rfl | rfl | rfl | rfl | rfl | rfl | rfl | rfl
    case _ => exact pe_callB (id := "len") hc g1 hm (by with_unfolding_all rfl) (s_args h) g3 g2 s1 s2
    case _ => exact pe_callB (id := "abs") hc g1 hm (by with_unfolding_all rfl) (s_args h) g3 g2 s1 s2
    case _ => exact pe_callTy (T := "int") hc g1 hm (by with_unfolding_all rfl) (s_args h) g3 g2 s1 s2
    case _ => exact pe_callB (id := "all") hc g1 hm (by with_unfolding_all rfl) (s_args h) g3 g2 s1 s2
    case _ => exact pe_callB (id := "any") hc g1 hm (by with_unfolding_all rfl) (s_args h) g3 g2 s1 s2
    case _ => exact pe_callB (id := "sum") hc g1 hm (by with_unfolding_all rfl) (s_args h) g3 g2 s1 s2
    case _ => exact pe_callB (id := "max") hc g1 hm (by with_unfolding_all rfl) (s_args h) g3 g2 s1 s2
    case _ => exact pe_callB (id := "min") hc g1 hm (by with_unfolding_all rfl) (s_args h) g3 g2 s1 s2
    case _ => exact pe_callTy (T := "list") hc g1 hm (by with_unfolding_all rfl) (s_args h) g3 g2 s1 s2
    case _ => exact pe_callTy (T := "tuple") hc g1 hm (by with_unfolding_all rfl) (s_args h) g3 g2 s1 s2
    case _ => exact pe_callTy (T := "dict") hc g1 hm (by with_unfolding_all rfl) (s_args h) g3 g2 s1 s2
    case _ => exact pe_callB (id := "sorted") hc g1 hm (by with_unfolding_all rfl) (s_args h) g3 g2 s1 s2
    case _ => exact pe_callBfun (id := "math.gcd") hc g1 hm (s_args h) g2 s1 s2
  exact PE.imp key fun σ H Q q => (tG.args q).map fun xs H1 ⟨φ, S, vs, s, r, k⟩ => ⟨φ, S, vs, s, r, k⟩
/-! ### methods -/
theorem noSuper {m : Str} (h : isCall0 o = false) : attributeBase o m X.env (eval o X.env) = eval o X.env := by
  unfold attributeBase
  split
  · simp [isCall0] at h
  · rfl
theorem s_append (ho : SE X P W o co) (h0 : isCall0 o = false) (hl : (p.endLine == pos.line) = true) (hs : isStar e = false) (h : Ps X P W [e] cs) : SE X P W (.Call (.Attribute o "append" p) [e] [] pos) (.mt "append" co cs) := by
  have hst := starEach_cons (es := []) (env := X.env) hs
  refine PE.imp (pe_bm (T := "list") (id := "list.append") (cpos := pos) (apos := p) F.plainAttrs_list F.slot_list_append F.type_list_append mt_append ho (s_args h) (noSuper h0) (by rw [hst]; rfl) hl hst rfl) fun σ H Q q => ?_
  obtain ⟨φ, ρ, S, s, r, q⟩ := q
  refine ⟨φ, ρ, S, s, r, (PostG.bind (R := RelD X.K) q).mono fun y H1 ⟨φ1, S1, x, g1, s1, rx, _, h1⟩ => ?_⟩
  split at h1
  · rename_i hl
    cases x with
    | ref k =>
      obtain ⟨xs, hx⟩ := Option.isSome_iff_exists.mp hl
      obtain ⟨a, vs, rfl, _, h2, _⟩ := s1.lst hx rx
      refine ⟨.inl ⟨rfl, _, .of h2⟩, φ1, ρ, S1, s1, r.grow g1, (PostG.bind (R := RelDs X.K) h1).mono fun ys H2 ⟨φ2, S2, ws, g2, s2, rw', _, h3⟩ => ?_⟩
      obtain ⟨d, S', e3, k3⟩ := PostG.noexc h3
      unfold mtD at e3
      split at e3
      · rename_i k' x' heq1 heq2 heq3
        cases heq2
        obtain ⟨zs, e4, e5⟩ := Option.bind_eq_some_iff.mp e3
        split at e5
        · rename_i hz
          cases e5
          obtain ⟨a', us, e6, hn, h4, h5⟩ := s2.lst e4 (rx.grow g2)
          cases e6
          cases rw' with | cons r1 r2 =>
          cases r2
          have z := write_lst s2 hn h4 (RelDs.of (Pd.append h5.pd (.cons r1 .nil)))
          refine ⟨a, us, _, rfl, rfl, h4, by rw [← h5.pd.length]; exact big_lineS hz, ?_⟩
          exact k3 φ2 .non _ z.1 z.2 .non
        · cases e5
      · simp_all
      · cases e3
    | _ => cases hl
  · exact h1.elim
theorem seqIx {n : Nat} {i : Int} {j : Nat} (h : ixN' n i = some j) (hn : n < 16000000) : seqIndex? i n = some j ∧ -(2 ^ 63) ≤ i ∧ i < 2 ^ 63 := by
  unfold ixN' at h
  unfold seqIndex?
  split at h
  · split at h
    · cases h
      have h0 : ¬ i < 0 := by omega
      simp only [h0, if_false]
      rw [if_pos (by simp; omega)]
      exact ⟨rfl, by omega, by omega⟩
    · cases h
  · split at h
    · cases h
      have h0 : i < 0 := by omega
      simp only [h0, if_true]
      rw [if_pos (by simp; omega)]
      exact ⟨rfl, by omega, by omega⟩
    · cases h
theorem s_pop (ho : SE X P W o co) (h0 : isCall0 o = false) (hl : (p.endLine == pos.line) = true) (hs : isStar e = false) (h : Ps X P W [e] cs) : SE X P W (.Call (.Attribute o "pop" p) [e] [] pos) (.mt "pop" co cs) := by
  have hst := starEach_cons (es := []) (env := X.env) hs
  refine PE.imp (pe_bm (T := "list") (id := "list.pop") (cpos := pos) (apos := p) F.plainAttrs_list F.slot_list_pop F.type_list_pop mt_popAt ho (s_args h) (noSuper h0) (by rw [hst]; rfl) hl hst rfl) fun σ H Q q => ?_
  obtain ⟨φ, ρ, S, s, r, q⟩ := q
  refine ⟨φ, ρ, S, s, r, (PostG.bind (R := RelD X.K) q).mono fun y H1 ⟨φ1, S1, x, g1, s1, rx, _, h1⟩ => ?_⟩
  split at h1
  · rename_i hl
    cases x with
    | ref k =>
      obtain ⟨xs, hx⟩ := Option.isSome_iff_exists.mp hl
      obtain ⟨a, vs, rfl, _, h2, _⟩ := s1.lst hx rx
      refine ⟨.inl ⟨rfl, _, .of h2⟩, φ1, ρ, S1, s1, r.grow g1, (PostG.bind (R := RelDs X.K) h1).mono fun ys H2 ⟨φ2, S2, ws, g2, s2, rw', _, h3⟩ => ?_⟩
      obtain ⟨d, S', e3, k3⟩ := PostG.noexc h3
      unfold mtD at e3
      split at e3
      · simp_all
      · rename_i k' x' heq1 heq2 heq3
        cases heq2
        obtain ⟨zs, e4, e5⟩ := Option.bind_eq_some_iff.mp e3
        obtain ⟨j, e6, e7⟩ := Option.bind_eq_some_iff.mp e5
        obtain ⟨y, e8, e9⟩ := Option.bind_eq_some_iff.mp e7
        split at e9
        · rename_i hz
          cases e9
          obtain ⟨a', us, e6', hn, h4, h5⟩ := s2.lst e4 (rx.grow g2)
          cases e6'
          cases rw' with | cons r1 r2 =>
          cases r2
          cases r1
          obtain ⟨u, hu, ru⟩ := Pd.get h5.pd e8
          have z := write_lst s2 hn h4 (RelDs.of (Pd.eraseIdx j h5.pd))
          obtain ⟨i1, i2, i3⟩ := seqIx e6 hz
          refine ⟨a, us, _, j, u, rfl, rfl, h4, i2, i3, by rw [← h5.pd.length]; exact i1, hu, ?_⟩
          exact k3 φ2 u _ z.1 z.2 (ru.grow z.1)
        · cases e9
      · cases e3
    | _ => cases hl
  · exact h1.elim
theorem s_mt {m : String} (hm : m ∈ mtNames) (ho : SE X P W o co) (h0 : isCall0 o = false) (hl : (p.endLine == pos.line) = true) (hs : isStar e = false) (h : Ps X P W [e] cs) : SE X P W (.Call (.Attribute o (Str.ofString m) p) [e] [] pos) (.mt m co cs) := by
  simp only [mtNames, List.mem_cons, List.not_mem_nil, or_false] at hm
  rcases hm with rfl | rfl
  · exact s_append ho h0 hl hs h
  · exact s_pop ho h0 hl hs h
/-! ### items, slices -/
theorem s_ix (un : X.A.units + 200 < cLine) (hb' : isSlice b = false) (ha : SE X P W a ca) (hb : SE X P W b cb) : SE X P W (.Subscript a b pos) (.ix ca cb) :=
  PE.imp (pe_ix (ix_G (by omega)) ha hb (fun o i => by unfold subscripted; cases b <;> first | rfl | simp [isSlice] at hb')) fun σ H Q h =>
    (tG.bind2 laterD (ev1 := evE P ca) (ev2 := evE P cb) h).map fun y1 H1 h1 => h1.map fun y2 H2 ⟨φ, S, a, b, s, ra, rb, h2⟩ => ixD_get s ra rb h2.ofW
theorem sl_G : SlR X (rSlG X.K) := SlR.or sl_list (SlR.or sl_tupA (by
  intro pins s σ H x v vl vu lo hi sl Q I rx hs pl pu q
  obtain ⟨z, hx, hz, q⟩ := q
  refine sl_str pins s σ H x v vl vu lo hi sl Q I rx hs pl pu ⟨z, hx, hz, ?_⟩
  have e : ∀ (n d : Nat) (o : Option Int), HT.sIx n d o = sIx' n d o := fun n d o => by cases o <;> rfl
  have : cutS z lo hi = ⟨(cutD z.cps.toList lo hi).toArray⟩ := by
    unfold cutS cutD
    rw [e, e, Array.length_toList]
    rfl
  rw [this]; exact q))
/-- a part of a slice -/
abbrev SO (X : Cx) (P : Par) (W : WX) (e : Option Expr) (c : CO) : Prop := PO X e (tG X.K X.mg RelEq W (evO P c))
theorem s_non : SO X P W none .none := ⟨fun pins s σ H Q I ⟨φ, ρ, S, sm, r, h⟩ => po_none.run pins s σ H Q I (h φ none H (.refl _ _) sm rfl)⟩
theorem s_som (h : SE X P W a ca) : SO X P W (some a) (.some ca) := ⟨fun pins s σ H Q I q => (po_some h).run pins s σ H Q I <| (tG.bind1 (R1 := RelD X.K) (ev := evE P ca) q).map fun x H1 ⟨φ, S, d, sm, r, k⟩ => by
    obtain ⟨i, S', e, k⟩ := PostG.noexc k
    obtain ⟨j, e1, e2⟩ := Option.map_eq_some_iff.mp e
    cases e2
    cases d with
    | int i => cases e1; cases r; exact ⟨_, rfl, k φ _ H1 (.refl _ _) sm rfl⟩
    | _ => cases e1⟩
theorem s_sl {lo hi : Option Expr} {cl ch : CO} (ha : SE X P W a ca) (hl : SO X P W lo cl) (hh : SO X P W hi ch) : SE X P W (.Subscript a (.Slice lo hi none p2) pos) (.sl ca cl ch) := by
  refine PE.imp (pe_slice sl_G ha hl hh) fun σ H Q h => ?_
  obtain ⟨φ, ρ, S, s, r, h⟩ := h
  refine ⟨φ, ρ, S, s, r, (PostG.bind (R := RelD X.K) h).mono fun y H1 ⟨φ1, S1, x, g1, s1, rx, _, h1⟩ => ⟨φ1, ρ, S1, s1, r.grow g1, (PostG.bind (R := RelEq (α := Option Int)) h1).mono fun l H2 ⟨φ2, S2, l', g2, s2, e2, _, h2⟩ =>
    ⟨φ2, ρ, S2, s2, (r.grow g1).grow g2, (PostG.bind (R := RelEq (α := Option Int)) h2).mono fun u H3 ⟨φ3, S3, u', g3, s3, e3, _, h3⟩ => ?_⟩⟩⟩
  cases e2
  cases e3
  exact slD_get s3 ((rx.grow g2).grow g3) h3.ofW
theorem s_rev {k : Nat} {p1 p2 p3 : Pos} (ha : SE X P W a ca) : SE X P W (.Subscript a (.Slice none none (some (.UnaryOp .USub (.Constant (.int 1) k p1) p2)) p3) pos) (.rev ca) := by
  refine PE.imp (pe_revL ha) fun σ H Q h => (tG.bind1 (R1 := RelD X.K) (ev := evE P ca) h).map fun x H1 ⟨φ, S, d, s, r, k⟩ => ?_
  obtain ⟨d', S', e, k2⟩ := PostG.noexc k
  unfold revD at e
  split at e
  · rename_i n
    split at e
    · rename_i xs hx
      obtain ⟨a, vs, rfl, _, h1, h2⟩ := s.lst hx r
      exact ⟨a, vs, rfl, .of h1, (newL_ok s (RelDs.of (Pd.reverse h2.pd)) e k2).2⟩
    · cases e
  · cases e
/-! ### isinstance -/
theorem ty_bltn {T : String} (hT : T ∈ tyNames) : bootBuiltins (Str.ofString T) = some (.type T) := by
  simp only [tyNames, List.mem_cons, List.not_mem_nil, or_false] at hT
  rcases hT with rfl | rfl | rfl | rfl | rfl | rfl <;> with_unfolding_all rfl
theorem s_tyname (ok : Ok X C P W) {T : String} (hT : T ∈ tyNames) (hg : C.glob (Str.ofString T) = true) : PE X (.Name (Str.ofString T) p) (tC (.ty T)) := by
  obtain ⟨g1, g2, g3⟩ := glob_gl ok hg
  exact pe_bltn g1 (ok.free T (List.mem_append_right _ hT)) (ty_bltn hT) rfl g3 g2
theorem isi_bltn : bootBuiltins (Str.ofString "isinstance") = some (.builtin "isinstance") := by with_unfolding_all rfl
theorem s_isi1 (ok : Ok X C P W) {T : String} (hT : T ∈ tyNames) (hi : C.glob (Str.ofString "isinstance") = true) (hg : C.glob (Str.ofString T) = true) (hs : isStar a = false) (ha : SE X P W a ca) :
    SE X P W (.Call (.Name (Str.ofString "isinstance") p) [a, .Name (Str.ofString T) p2] [] pos) (.isi ca [T]) := by
  obtain ⟨g1, g2, g3⟩ := glob_gl ok hi
  refine PE.imp (pe_callB call_isi g1 (ok.free "isinstance" (by decide)) isi_bltn (pa_cons ha (pa_cons (s_tyname ok hT hg) pa_nil rfl) (starEach_cons hs)) g3 g2 (starEach_cons hs) rfl) fun σ H Q h => (tG.bind1 (R1 := RelD X.K) (ev := evE P ca) h).map fun x H1 ⟨φ, S, d, s, r, k⟩ => ?_
  obtain ⟨d', S', e, k2⟩ := PostG.noexc k
  obtain ⟨t, e1, e2⟩ := Option.map_eq_some_iff.mp e
  cases e2
  refine ⟨x, .ty T, .type t, .type T, isTy t T, rfl, .ty T, ty_get s e1 r, kit_G e1 hT, ?_⟩
  have := k2 φ (.bl ([T].any (isTy t))) H1 (.refl _ _) s (.bl _)
  simpa using this
theorem s_tynames (ok : Ok X C P W) : ∀ {ns : List Expr} {ts : List String}, cTys C ns = some ts → PA X ns (fun _ H Q => Q (ts.map V.ty) H) ∧ ∀ T ∈ ts, T ∈ tyNames
  | [], ts, h => by
    unfold cTys at h
    cases h
    exact ⟨PA.imp pa_nil fun σ H Q h => h, fun T hT => nomatch hT⟩
  | n :: ns, ts, h => by
    unfold cTys at h
    split at h
    · simp_all
    · rename_i t _ r heq
      cases heq
      split at h
      · rename_i hg
        obtain ⟨T, e1, h⟩ := Option.bind_eq_some_iff.mp h
        obtain ⟨Ts, e2, h⟩ := Option.bind_eq_some_iff.mp h
        cases h
        obtain ⟨hT, rfl⟩ := strIn_some e1
        obtain ⟨h1, h2⟩ := s_tynames ok e2
        refine ⟨PA.imp (pa_cons (s_tyname ok hT hg) h1 rfl) fun σ H Q h => h, fun T' hT' => ?_⟩
        rcases List.mem_cons.mp hT' with rfl | z
        · exact hT
        · exact h2 _ z
      · cases h
    · cases h
theorem s_isi (ok : Ok X C P W) {ns : List Expr} {ts : List String} (hT : cTys C ns = some ts) (hi : C.glob (Str.ofString "isinstance") = true) (hl : ts.length ≤ 16000000) (hs : isStar a = false) (ha : SE X P W a ca) {kk : Nat} :
    SE X P W (.Call (.Name (Str.ofString "isinstance") p) [a, .Tuple ns kk p2] [] pos) (.isi ca ts) := by
  obtain ⟨g1, g2, g3⟩ := glob_gl ok hi
  obtain ⟨h1, h2⟩ := s_tynames ok hT
  refine PE.imp (pe_callB call_isiT g1 (ok.free "isinstance" (by decide)) isi_bltn (pa_cons ha (pa_cons (pe_tup h1) pa_nil rfl) (starEach_cons hs)) g3 g2 (starEach_cons hs) rfl) fun σ H Q h => (tG.bind1 (R1 := RelD X.K) (ev := evE P ca) h).map fun x H1 ⟨φ, S, d, s, r, k⟩ => ?_
  refine ⟨by rw [List.length_map]; exact big_line hl, fun q hq => ?_⟩
  obtain ⟨d', S', e, k2⟩ := PostG.noexc k
  obtain ⟨t, e1, e2⟩ := Option.map_eq_some_iff.mp e
  cases e2
  have g : Grow φ H1 φ (upd H1 q (.tup (ts.map V.ty))) := by simpa using Grow.new hq []
  refine ⟨x, q, ts.map V.ty, .type t, ts.map Value.type, ts.any (isTy t), rfl, upd_same, ?_, ty_get (s.skip hq) e1 (r.grow g), kit_any e1 h2, ?_⟩
  · exact Pd.map fun T _ => .ty T
  · exact k2 φ _ _ g (s.skip hq) (.bl _)
/-! ### displays of dicts -/
theorem s_dct0 : SE X P W (.Dict [] [] pos) (.dct .nil) := by
  refine PE.imp pe_dnewK fun σ H Q ⟨φ, ρ, S, s, r, h⟩ => fun p hp => ?_
  simp only [evE, evB, Ev.of, evEs, Res.bind] at h
  rw [List.getElem?_append_right (Nat.le_refl _), Nat.sub_self] at h
  simp only [List.getElem?_cons_zero, pairsD, List.length_nil, Nat.zero_le, if_true] at h
  rw [List.set_append_right _ _ (Nat.le_refl _), Nat.sub_self] at h
  exact newR_dic s (kvs := []) (ws := []) .nil h hp
inductive Prs (X : Cx) (P : Par) (W : WX) : List (Option Expr) → List Expr → CEs → Prop where
  | nil : Prs X P W [] [] .nil
  | cons {k v : Expr} {ck cv : CE} {ks : List (Option Expr)} {vs : List Expr} {cs : CEs} : SE X P W k ck → SE X P W v cv → Prs X P W ks vs cs → Prs X P W (some k :: ks) (v :: vs) (.cons false ck (.cons false cv cs))
def pairUp : List V → List (V × V)
  | x :: y :: r => (x, y) :: pairUp r
  | _ => []
theorem prs_pps : ∀ {ks : List (Option Expr)} {vs : List Expr} {cs : CEs}, Prs X P W ks vs cs → ∃ trs, PPs X pos ks vs trs ∧ ∀ σ H (Q : List (V × V) → Hp → Prop), tA X.K X.mg W P cs σ H (fun xs H1 => Q (pairUp xs) H1) → tPairs trs σ H Q
  | _, _, _, .nil => ⟨[], pps_nil, fun σ H Q ⟨φ, ρ, S, s, r, h⟩ => h φ [] H (.refl _ _) s .nil⟩
  | _, _, _, .cons hk hv hr => by
    obtain ⟨trs, h1, h2⟩ := prs_pps hr
    refine ⟨_, pps_cons hk hv h1, fun σ H Q h => ?_⟩
    refine (tG.bind2 (R1 := RelD X.K) (R2 := RelDs X.K) laterD h).map fun y1 H1 h3 => ?_
    refine (tG.bind2 (R1 := RelD X.K) (R2 := RelDs X.K) laterD h3).map fun y2 H2 h4 => ?_
    refine h2 σ H2 _ (h4.map fun zs H3 ⟨φ, S, a, b, s, ra, rb, h5⟩ => ?_)
    obtain ⟨φ2, S2, a2, b2, s2, ra2, rb2, h6⟩ := h5 φ _ H3 (.refl _ _) s (.cons ra rb)
    exact h6 φ2 _ H3 (.refl _ _) s2 (.cons ra2 rb2)
theorem pairsD_rel {K : PySem.W.Frag} {φ : List Addr} {H : Hp} : ∀ (ds : List D) {kvs : List (Key × D)} {vs : List V}, pairsD ds = some kvs → Paired (RelD K φ H) ds vs → ∃ ws : List (Key × V), pairUp vs = ws.map (fun kv => (kV kv.1, kv.2)) ∧ RelKV K φ H kvs ws
  | [], _, _, e, .nil => by cases e; exact ⟨[], rfl, .nil⟩
  | [_], _, _, e, .cons _ .nil => by cases e
  | k :: v :: r, kvs, _, e, .cons r1 (.cons r2 t) => by
    unfold pairsD at e
    split at e
    · rename_i q ps e1 e2
      cases e
      obtain ⟨ws, h1, h2⟩ := pairsD_rel r e2 t
      exact ⟨(q, _) :: ws, by rw [pairUp, h1, keyD_rel e1 r1]; rfl, .cons ⟨rfl, r2⟩ h2⟩
    · cases e
theorem s_dct {ks : List (Option Expr)} {vs : List Expr} (h : Prs X P W ks vs cs) (h0 : ks ≠ []) (h15 : ks.length ≤ 15) (hall : ks.all (·.isSome) = true) (hl : ks.length = vs.length) : SE X P W (.Dict ks vs pos) (.dct cs) := by
  obtain ⟨trs, h1, h2⟩ := prs_pps (pos := pos) h
  refine PE.imp (pe_disp h1 hall hl h0 h15) fun σ H Q ⟨φ, ρ, S, s, r, h⟩ => fun p hp => ?_
  have g := Grow.new (φ := φ) (o := .dK []) hp [p]
  have s' : Sim X.K (φ ++ [p]) (S ++ [.dK []]) (upd H p (.dK [])) := s.new hp ⟨[], upd_same, .nil⟩
  refine h2 σ _ _ ⟨φ ++ [p], ρ, S ++ [.dK []], s', r.grow g, (PostG.bind (R := RelDs X.K) (h.grow g)).mono fun xs H2 ⟨φ2, S2, ds, g2, s2, rd, _, h3⟩ => ?_⟩
  have hq : φ2[S.length]? = some p := g2.at (by rw [← s.len]; simp)
  split at h3
  · rename_i hS
    obtain ⟨ws, hw, rw'⟩ := s2.at_ _ _ _ hS hq
    cases rw'
    split at h3
    · rename_i kvs hk
      obtain ⟨us, e1, e2⟩ := pairsD_rel ds hk rd.pd
      split at h3
      · rename_i hlen
        have z := write_dic s2 hq hw (mergeD_rel e2)
        refine ⟨hw, us, e1, by rw [← e2.length]; exact hlen, ?_⟩
        exact h3 φ2 _ _ z.1 z.2 (.ref hq)
      · exact h3.elim
    · exact h3.elim
  · exact h3.elim
end
end G

end

section
set_option Elab.async false
set_option linter.all false
set_option maxRecDepth 100000
/-! GE: enumerate over a tuple. -/
namespace G
open PySem PySem.Spec PyProof.Rows L2
set_option maxHeartbeats 1000000 in
theorem meets_enumT (l : Addr) (items : Array Value) :
    Meets (Builtin.«enumerate.__new__» ⟨[.type "enumerate", .ref l], []⟩) (fun _ R s => s.heap.IsTuple l items ∧
      R (.ok (.ret (.ref (s.heap.push { cls := .type "tuple_iterator", data := .fields #[.ref l, .int 0 0] }).objs.size)))
        { s with heap := (s.heap.push { cls := .type "tuple_iterator", data := .fields #[.ref l, .int 0 0] }).push { cls := .type "enumerate", data := .fields #[.none, .bool false, .ref s.heap.objs.size, rawInt 0, .none, .none] } }) :=
  .of_wp fun prog w A R s h => by
    obtain ⟨hp, g, d, tk, os⟩ := s; obtain ⟨hl, h⟩ := h
    have hsub := sub_enumerate
    obtain ⟨o, ho, hc, n, hd⟩ := id hl
    wp_walk using AutoSeq1.wpAny_loadPart' ho
    refine wpAny_stack_any fun st => wpAny_pure ?_
    split
    · rename_i c _ _ _ _ _
      cases (c == Value.type "enumerate")
      · wp_walk using AutoSeq1.wpAny_loadPart' ho, wpAny_pyIter_tuple hl
        exact ⟨_, rfl, h⟩
      · wp_walk using AutoSeq1.wpAny_loadPart' ho, wpAny_pyIter_tuple hl
        exact ⟨_, rfl, h⟩
    · wp_walk using AutoSeq1.wpAny_loadPart' ho, wpAny_pyIter_tuple hl
      exact ⟨_, rfl, h⟩
theorem call_enumT {prog : Program} {w : World} {A : Around} {E : Value → Shared → Prop} {s : Shared} {l : Addr} {items : Array Value} {Q : Value → Shared → Prop} (hL : s.heap.IsTuple l items)
    (h : ∀ h', IsEnum h' (s.heap.objs.size + 1) s.heap.objs.size 0 .none → h'.IsTupleIter s.heap.objs.size l 0 → h'.objs.size = s.heap.objs.size + 2 →
      (∀ b o, s.heap.get? b = some o → h'.get? b = some o) → Q (.ref (s.heap.objs.size + 1)) { s with heap := h' }) :
    wpAny (model prog w) A (PySem.call (.type "enumerate") [.ref l]) Q E s := by
  refine callType_new F.called_enumerate (by decide) (F.typeCall_enumerate_1 _) (F.newCall_enumerate_1 _) (fun obj => F.args_object_init_2 obj _) F.entry_enumerate_new
    (meets_enumT l items) ⟨hL, ?_⟩
  have hz : (s.heap.push { cls := .type "tuple_iterator", data := .fields #[.ref l, .int 0 0] }).objs.size = s.heap.objs.size + 1 := Heap.size_push ..
  show _ ∧ _
  rw [hz]
  have he : IsEnum ((s.heap.push { cls := .type "tuple_iterator", data := .fields #[.ref l, .int 0 0] }).push
      { cls := .type "enumerate", data := .fields #[.none, .bool false, .ref s.heap.objs.size, rawInt 0, .none, .none] }) (s.heap.objs.size + 1) s.heap.objs.size 0 .none := by
    have := Heap.get?_push_size (s.heap.push { cls := .type "tuple_iterator", data := .fields #[.ref l, .int 0 0] })
      (o := { cls := .type "enumerate", data := .fields #[.none, .bool false, .ref s.heap.objs.size, rawInt 0, .none, .none] }) rfl
    rw [hz] at this; exact this
  refine ⟨⟨_, he, rfl⟩, h _ he ⟨_, Heap.get?_push_of_some _ (Heap.get?_push_size _ rfl), rfl, rfl⟩ (by rw [Heap.size_push, hz]) fun b o x => Heap.get?_push_of_some _ (Heap.get?_push_of_some _ x)⟩
/-- the tuple at a, each item in a new pair -/
def IteT (K : PySem.W.Frag) (a : Addr) : L2.It :=
  ⟨fun i H => ∃ (xs : List V) (x : V), SqT K H a xs ∧ xs[i]? = some x, fun i H v H' => ∃ T x, v = .ref T ∧ H T = none ∧ H' = upd H T (.tup [.int (i : Nat), x]) ∧ ∀ xs, SqT K H a xs → xs[i]? = some x, fun i H => ∃ xs : List V, SqT K H a xs ∧ xs.length ≤ i⟩
theorem turn_enumT {P : Program} {w : World} {K : PySem.W.Frag} {elts : List Expr} {kk : Nat} {tpos : Pos} (a e it : Addr) :
    Turn P w K (.Tuple elts kk tpos) (IteT K a) [e, it] e (fun i h => (∃ old, IsEnum h e it ((i : Nat) : Int) old) ∧ h.IsTupleIter it a i ∧ e ≠ it ∧ a ≠ it ∧ a ≠ e) where
  mem := by simp
  obj := fun i h st b hb => by
    obtain ⟨⟨old, he⟩, ⟨o, ho, hc, hd⟩, _⟩ := st
    have e' : b = e ∨ b = it := by simpa using hb
    rcases e' with z | z
    · rw [z]; exact ⟨_, he, fun v q => nomatch q⟩
    · rw [z]; exact ⟨o, ho, fun v q => by rw [hd] at q; cases q⟩
  keep := fun i h h' st k => let ⟨⟨old, he⟩, hi, hne⟩ := st; ⟨⟨old, k e (by simp) _ he⟩, hi.at fun o q => k it (by simp) o q, hne⟩
  item := by
    intro X hP hw hK hc i pins s σ H E I hf st hg
    subst hP hw hK
    obtain ⟨⟨old, he⟩, hit, hne, hai, hae⟩ := st
    obtain ⟨xs, x, hq, hx⟩ := hg
    obtain ⟨its, rv, p, hz⟩ := I.tuple hq
    obtain ⟨u, hu, ru⟩ := rv.get hx
    have hel : e < s.heap.objs.size := Heap.lt_size he
    have hil : it < s.heap.objs.size := by obtain ⟨_, q, _⟩ := hit; exact Heap.lt_size q
    have pt : s.heap.IsTuple a its.toArray := p
    have hlt : i < its.toArray.size := by
      have := (List.getElem?_eq_some_iff.mp hu).1
      simpa using this
    have hh : X.A.in1.handled = none := I.ok.hd hc
    refine wpAny_pyNext_enum_itemD (Draws.tuple hh it a hai its.toArray) he ⟨hit, pt⟩ hlt hne (by simp [hne, Ne.symm hae]) fun y h' tk hy ho hst hT hsz hk => ?_
    have hyu : y = u := by
      have : its.toArray[i]? = some u := by simpa using hu
      rw [this] at hy
      exact (Option.some.inj hy).symm
    subst hyu
    refine ⟨_, rfl, wpAny_letOwnedTupleGo_enum (s := { s with heap := h', toks := tk + 1 }) ho fun h'' he' sb => ?_⟩
    have hT2 : h''.get? s.heap.objs.size = some { cls := .type "tuple", data := .seq #[.int i tk, y] } := (sb.2 _ (Nat.ne_of_gt hel)).trans hT
    have new : ObjOk X.prog X.w (upd H s.heap.objs.size (.tup [.int (i : Nat), x])) h'' s.heap.objs.size (.tup [.int (i : Nat), x]) :=
      ⟨by show 2 ≤ sizeLine; decide, [.int i tk, y], .cons ⟨_, rfl⟩ (.cons ru .nil), ⟨_, hT2, rfl, _, rfl⟩⟩
    have I1 : Inv X pins σ (upd H s.heap.objs.size (.tup [.int (i : Nat), x])) { s with heap := h'', toks := tk + 1 } :=
      I.turnedNew (ch := [e, it]) (fun b ob hb q => (sb.2 b (fun z => hb (by simp [z]))).trans (hk b ob (fun z => hb (by simp [z])) (fun z => hb (by simp [z])) q)) hf (Nat.le_refl _) new
    refine ⟨.ref s.heap.objs.size, _, I1, rfl, ⟨_, x, rfl, I.hok.fresh (Nat.le_refl _), rfl, fun ys hy => by rw [I.tuple_inj hy hq]; exact hx⟩, ⟨⟨y, ?_⟩, hst.1.at fun o q => (sb.2 it (Ne.symm hne)).trans q, hne, hai, hae⟩, fun b hb => ?_⟩
    · have e1 : ((i + 1 : Nat) : Int) = (i : Int) + 1 := by omega
      rw [e1]; exact he'
    · have hb' : b < s.heap.objs.size := by
        have e' : b = e ∨ b = it := by simpa using hb
        rcases e' with z | z
        · rw [z]; exact hel
        · rw [z]; exact hil
      rw [upd_ne (Nat.ne_of_lt hb')]
      exact (hf b hb).1
  done := by
    intro X hP hw hK hc i pins s σ H E I hf st hg
    subst hP hw hK
    obtain ⟨⟨old, he⟩, hit, hne, hai, hae⟩ := st
    obtain ⟨xs, hq, hx⟩ := hg
    obtain ⟨its, rv, p, hz⟩ := I.tuple hq
    obtain ⟨f0, f1, f2, f3, f4, f5⟩ := hf it (by simp)
    have hl := rv.length
    have pt : s.heap.IsTuple a its.toArray := p
    have hh : X.A.in1.handled = none := I.ok.hd hc
    have hT : s.TypeIs (.ref e) "enumerate" := ⟨_, he, rfl⟩
    unfold pyNext
    refine wpAny_bind (wpAny_attempt (wpAny_callSpecial?_slot (name := Str.ofString "__next__") hT F.slot_enumerate_next
      (wpAny_call_entry F.slot_enumerate_next hT F.entry_enumerate_next ?_ (F.args_enumerate_next_1 _))))
    show wpAny _ _ (field (.ref e) 2 >>= _) _ _ _
    refine wpAny_bind (wpAny_field he rfl (x := .ref it) rfl ?_)
    refine wpAny_bind (wpAny_nextOf_tuple_end hh hit pt (by simp; omega) fun h' x he' hx' => ?_)
    obtain ⟨o, ho, hc⟩ := hx'
    refine wpAny_bind (wpAny_isInstance (T := "StopIteration") (b := true) ⟨o, ho, hc⟩ isSubtype_stop ?_)
    exact wpAny_pure ⟨rfl, I.turned (t' := s.toks) (fun b o hb q => he' b o hb q) f0 f1 f3 f4 f5⟩
  self := fun A i s Q E st h => let ⟨⟨_, he⟩, _⟩ := st; wpAny_pyIter_enum he h
def iEnumA (K : PySem.W.Frag) (ta : TA) : TI := fun σ H R => ta σ H fun vs H1 => ∃ a xs, vs = [.ref a] ∧ ((SqL K H1 a xs ∧ R (Ite K a) H1) ∨ (SqT K H1 a xs ∧ R (IteT K a) H1))
theorem pi_enumA {X : Cx} {e : Expr} {ta : TA} {p pos tpos : Pos} {elts : List Expr} {kk : Nat} (hg : Gl X "enumerate") (hm : X.mg "enumerate" = none) (ha : PA X [e] ta) (hs : starEach [e] X.env = [(false, eval e X.env)]) :
    PI X (.Tuple elts kk tpos) (.Call (.Name "enumerate" p) [e] [] pos) (iEnumA X.K ta) := by
  refine ⟨fun pins s σ H R I h => ?_⟩
  refine Call_ (ld_blt I hg hm boot_enumerate (PyProof.Rows.callWith_type1 (thn (ha.run pos pins s σ H _ I h) fun us s1 ⟨vs, H1, I1, r1, q1⟩ => ?_) hs rfl))
  obtain ⟨a, xs, ex, q⟩ := q1
  subst ex
  cases r1 with
  | cons r rr =>
    cases rr
    cases r
    have hfp : ∀ b ∈ [s1.heap.objs.size + 1, s1.heap.objs.size], FpOk X pins H1 b := fun b hb => by
      have e' : b = s1.heap.objs.size + 1 ∨ b = s1.heap.objs.size := by simpa using hb
      have hle : s1.heap.objs.size ≤ b := by
        rcases e' with z | z
        · rw [z]; exact Nat.le_add_right _ _
        · rw [z]; exact Nat.le_refl _
      exact I1.fpOk hle (I1.hok.fresh hle)
    rcases q with ⟨hq, q⟩ | ⟨hq, q⟩
    · obtain ⟨its, rv, p', hz⟩ := I1.list hq
      refine call_enumerate_list p'.isList fun h' he hit hsz hk => wpAny_pyIter_enum he ?_
      have I2 : Inv X pins σ H1 { s1 with heap := h' } := I1.kept (t' := s1.toks) hk
      exact ⟨s1.heap.objs.size + 1, [s1.heap.objs.size + 1, s1.heap.objs.size], _, _, H1, rfl, I2, turn_enum a (s1.heap.objs.size + 1) s1.heap.objs.size, ⟨⟨.none, he⟩, hit, Nat.succ_ne_self _⟩, hfp, q⟩
    · obtain ⟨its, rv, p', hz⟩ := I1.tuple hq
      have pt : s1.heap.IsTuple a its.toArray := p'
      have hlt : a < s1.heap.objs.size := by
        obtain ⟨o, ho, _⟩ := pt
        exact Heap.lt_size ho
      refine call_enumT pt fun h' he hit hsz hk => wpAny_pyIter_enum he ?_
      have I2 : Inv X pins σ H1 { s1 with heap := h' } := I1.kept (t' := s1.toks) hk
      exact ⟨s1.heap.objs.size + 1, [s1.heap.objs.size + 1, s1.heap.objs.size], _, _, H1, rfl, I2, turn_enumT a (s1.heap.objs.size + 1) s1.heap.objs.size, ⟨⟨.none, he⟩, hit, Nat.succ_ne_self _, Nat.ne_of_lt hlt, Nat.ne_of_lt (Nat.lt_succ_of_lt hlt)⟩, hfp, q⟩
end G

end

section
set_option Elab.async false
set_option linter.all false
set_option maxRecDepth 100000
/-! G11: targets, iterators. -/
namespace G
open PySem PySem.Spec PyProof.Rows L2
/-! ### the names that are forgotten -/
theorem wipe_set_in {σ : L2.St} {i : Nat} {v : Option V} : ∀ {vs : List Nat}, i ∈ vs → L2.wipe (σ.set i v) vs = L2.wipe σ vs
  | [], h => nomatch h
  | j :: vs, h => by
    show (L2.wipe (σ.set i v) vs).set j none = (L2.wipe σ vs).set j none
    by_cases hi : i ∈ vs
    · rw [wipe_set_in hi]
    · have hj : i = j := by
        rcases List.mem_cons.mp h with e | e
        · exact e
        · exact absurd e hi
      subst hj
      have : ∀ vs : List Nat, i ∉ vs → L2.wipe (σ.set i v) vs = (L2.wipe σ vs).set i v := by
        intro vs
        induction vs with
        | nil => intro _; rfl
        | cons k vs ih =>
          intro hk
          have h1 : i ≠ k := fun e => hk (e ▸ List.mem_cons_self ..)
          have h2 : i ∉ vs := fun e => hk (List.mem_cons_of_mem _ e)
          show (L2.wipe (σ.set i v) vs).set k none = ((L2.wipe σ vs).set k none).set i v
          rw [ih h2, List.set_comm _ _ h1]
      rw [this vs hi, List.set_set]
theorem wipe_wipe {σ : L2.St} : ∀ (us vs : List Nat), (∀ x ∈ us, x ∈ vs) → L2.wipe (L2.wipe σ us) vs = L2.wipe σ vs
  | [], _, _ => rfl
  | u :: us, vs, h => by
    show L2.wipe ((L2.wipe σ us).set u none) vs = _
    rw [wipe_set_in (h u (List.mem_cons_self ..)), wipe_wipe us vs fun x hx => h x (List.mem_cons_of_mem _ hx)]
/-! ### targets of names -/
section
variable (K : PySem.W.Frag)
/-- a target of names: what it stores; vs: the slots that may change -/
def gP (vs : List Nat) (g : CP) : TG := fun v σ H Q => ∃ φ ρ S d ρ', Sim K φ S H ∧ RelR K φ H ρ σ ∧ RelD K φ H d v ∧ asgP S g d ρ = some ρ' ∧ ∀ σ', RelR K φ H ρ' σ' → L2.wipe σ' vs = L2.wipe σ vs → Q σ' H
def gPs (vs : List Nat) (g : List CP) : TGs := fun v σ H Q => ∃ φ ρ S d ρ', Sim K φ S H ∧ RelR K φ H ρ σ ∧ RelDs K φ H d v ∧ asgPs S g d ρ = some ρ' ∧ ∀ σ', RelR K φ H ρ' σ' → L2.wipe σ' vs = L2.wipe σ vs → Q σ' H
end
theorem PG.imp {X : Cx} {e : Expr} {t t' : TG} (h : PG X e t) (k : ∀ v σ H Q, t' v σ H Q → t v σ H Q) : PG X e t' := ⟨fun pins s σ H v u Q I r q => h.run pins s σ H v u Q I r (k v σ H Q q)⟩
theorem PGs.imp {X : Cx} {e : List Expr} {t t' : TGs} (h : PGs X e t) (k : ∀ v σ H Q, t' v σ H Q → t v σ H Q) : PGs X e t' := ⟨fun pins s σ H v u Q I r q => h.run pins s σ H v u Q I r (k v σ H Q q)⟩
theorem PG.or {X : Cx} {e : Expr} {t t' : TG} (h : PG X e t) (h' : PG X e t') : PG X e (fun v σ H Q => t v σ H Q ∨ t' v σ H Q) :=
  ⟨fun pins s σ H v u Q I r q => q.elim (h.run pins s σ H v u Q I r) (h'.run pins s σ H v u Q I r)⟩
theorem assignEach_cons {e : Expr} {es : List Expr} {env : PySem.Env} (h : isStar e = false) : assignEach (e :: es) env = (false, assign e env) :: assignEach es env := by
  cases e <;> first | rfl | simp [isStar] at h
theorem assignEach_plain {env : PySem.Env} : ∀ {es : List Expr}, es.any isStar = false → (assignEach es env).length = es.length ∧ (assignEach es env).findIdx? (·.1) = none
  | [], _ => ⟨rfl, rfl⟩
  | e :: es, h => by
    rw [List.any_cons, Bool.or_eq_false_iff] at h
    obtain ⟨h1, h2⟩ := assignEach_plain (env := env) h.2
    rw [assignEach_cons h.1]
    refine ⟨by simp [h1], ?_⟩
    simp only [List.findIdx?_cons, Bool.false_eq_true, if_false, h2, Option.map_none]
/-- (a, b, ..) = a tuple or a list -/
theorem pg_seq {X : Cx} (hc : X.calm = true) {es : List Expr} {k : Nat} {pos : Pos} {t : TGs} (h : PGs X es t) (hs : es.any isStar = false) : PG X (.Tuple es k pos) (fun v σ H Q => ∃ a xs, v = .ref a ∧ (SqT X.K H a xs ∨ SqL X.K H a xs) ∧ xs.length = es.length ∧ t xs σ H Q) := by
  obtain ⟨h1, h2⟩ := assignEach_plain (env := X.env) hs
  refine PG.imp (PG.or (pg_tup hc h h1 h2) (pg_unl hc h h1 h2)) fun v σ H Q q => ?_
  obtain ⟨a, xs, e, hq, l, q⟩ := q
  rcases hq with hq | hq
  · exact .inl ⟨a, xs, e, hq, l, q⟩
  · exact .inr ⟨a, xs, e, hq, l, q⟩
theorem asgPs_len {S : Sto} : ∀ {ps : List CP} {ds : List D} {ρ ρ' : Rho}, asgPs S ps ds ρ = some ρ' → ps.length = ds.length
  | [], [], _, _, _ => rfl
  | [], _ :: _, _, _, h => by simp [asgPs] at h
  | _ :: _, [], _, _, h => by simp [asgPs] at h
  | p :: ps, d :: ds, ρ, ρ', h => by
    unfold asgPs at h
    split at h
    · rw [List.length_cons, List.length_cons, asgPs_len h]
    · cases h
theorem cPs_len {C : CC} : ∀ {es : List Expr} {ps : List CP}, cPs C es = some ps → es.length = ps.length ∧ es.any isStar = false
  | [], ps, h => by unfold cPs at h; cases h; exact ⟨rfl, rfl⟩
  | e :: es, ps, h => by
    unfold cPs at h
    split at h
    · cases h
    · rename_i hs
      split at h
      · rename_i p q e1 e2
        cases h
        obtain ⟨h1, h2⟩ := cPs_len e2
        exact ⟨by rw [List.length_cons, List.length_cons, h1], by rw [List.any_cons, h2]; simpa using hs⟩
      · cases h
/-- what a def's own slots are in a context -/
structure OkN (X : Cx) (C : CC) : Prop where
  sc : X.env.scope = C.sc
  N : X.N = C.N
  nd : C.N.Nodup
  calm : X.calm = true
  fn : ∀ x, C.cel x = true → X.fn x = true
theorem loc_name {X : Cx} {C : CC} (ok : OkN X C) {x : Str} {i : Nat} {pos : Pos} (hl : C.sc.names.lookup x = some .local ∨ (C.sc.names.lookup x = some .cell ∧ C.cel x = true)) (hi : idx C.N x = some i) : PG X (.Name x pos) (gName i) := by
  refine pg_name (by rw [ok.N]; exact ok.nd) (by rw [ok.N]; exact idx_get hi) (by unfold L2.Loc; rw [ok.sc]; exact hl.imp id (·.1)) ?_
  rcases hl with h | h
  · exact .inr (by rw [ok.sc]; exact h)
  · exact .inl (ok.fn x h.2)
mutual
theorem s_cP {X : Cx} {C : CC} (ok : OkN X C) (vs : List Nat) : ∀ {e : Expr} {g : CP}, cP C e = some g → (∀ x ∈ pNames g, x ∈ vs) → PG X e (gP X.K vs g)
  | .Name x pos, g, h, hv => by
    unfold cP at h
    have key : ∀ i, (C.sc.names.lookup x = some .local ∨ (C.sc.names.lookup x = some .cell ∧ C.cel x = true)) → idx C.N x = some i → CP.nm i = g → PG X (.Name x pos) (gP X.K vs g) := by
      intro i hl hi e
      subst e
      refine PG.imp (loc_name ok hl hi) fun v σ H Q ⟨φ, ρ, S, d, ρ', s, r, rd, ha, q⟩ => ?_
      unfold asgP at ha
      cases ha
      exact q _ (r.set i rd) (wipe_set_in (hv i (by simp [pNames])))
    split at h
    · rename_i hl
      obtain ⟨i, hi, e⟩ := Option.map_eq_some_iff.mp h
      exact key i (.inl hl) hi e
    · rename_i hl
      split at h
      · rename_i hc
        obtain ⟨i, hi, e⟩ := Option.map_eq_some_iff.mp h
        exact key i (.inr ⟨hl, hc⟩) hi e
      · cases h
    · cases h
  | .Tuple es k pos, g, h, hv => by
    unfold cP at h
    obtain ⟨ps, hp, rfl⟩ := Option.map_eq_some_iff.mp h
    obtain ⟨h1, h2⟩ := cPs_len hp
    refine PG.imp (pg_seq ok.calm (s_cPs ok vs hp (fun x hx => hv x (by simpa [pNames] using hx))) h2) fun v σ H Q ⟨φ, ρ, S, d, ρ', s, r, rd, ha, q⟩ => ?_
    unfold asgP at ha
    split at ha
    · rename_i ds hd
      obtain ⟨p, us, e, h3, h4⟩ := seq_any s hd rd
      exact ⟨p, us, e, h3, by rw [← h4.pd.length, ← asgPs_len ha, h1], φ, ρ, S, ds, ρ', s, r, h4, ha, q⟩
    · cases ha
  | .Constant .., g, h, _ => by simp [cP] at h
  | .BinOp .., g, h, _ => by simp [cP] at h
  | .UnaryOp .., g, h, _ => by simp [cP] at h
  | .Compare .., g, h, _ => by simp [cP] at h
  | .BoolOp .., g, h, _ => by simp [cP] at h
  | .IfExp .., g, h, _ => by simp [cP] at h
  | .Call .., g, h, _ => by simp [cP] at h
  | .Attribute .., g, h, _ => by simp [cP] at h
  | .Subscript .., g, h, _ => by simp [cP] at h
  | .Slice .., g, h, _ => by simp [cP] at h
  | .List .., g, h, _ => by simp [cP] at h
  | .Starred .., g, h, _ => by simp [cP] at h
  | .Dict .., g, h, _ => by simp [cP] at h
  | .ListComp .., g, h, _ => by simp [cP] at h
  | .NamedExpr .., g, h, _ => by simp [cP] at h
  | .Lambda .., g, h, _ => by simp [cP] at h
  | .Set .., g, h, _ => by simp [cP] at h
  | .SetComp .., g, h, _ => by simp [cP] at h
  | .DictComp .., g, h, _ => by simp [cP] at h
  | .GeneratorExp .., g, h, _ => by simp [cP] at h
  | .Await .., g, h, _ => by simp [cP] at h
  | .Yield .., g, h, _ => by simp [cP] at h
  | .YieldFrom .., g, h, _ => by simp [cP] at h
  | .FormattedValue .., g, h, _ => by simp [cP] at h
  | .JoinedStr .., g, h, _ => by simp [cP] at h
theorem s_cPs {X : Cx} {C : CC} (ok : OkN X C) (vs : List Nat) : ∀ {es : List Expr} {ps : List CP}, cPs C es = some ps → (∀ x ∈ pNamesL ps, x ∈ vs) → PGs X es (gPs X.K vs ps)
  | [], ps, h, _ => by
    unfold cPs at h
    cases h
    refine PGs.imp pgs_nil fun v σ H Q ⟨φ, ρ, S, d, ρ', s, r, rd, ha, q⟩ => ?_
    have := asgPs_len ha
    cases d with
    | cons _ _ => simp at this
    | nil =>
      unfold asgPs at ha
      cases ha
      cases rd
      exact ⟨rfl, q σ r rfl⟩
  | e :: es, ps, h, hv => by
    unfold cPs at h
    split at h
    · cases h
    · rename_i hs
      split at h
      · rename_i p q e1 e2
        cases h
        have hs' : isStar e = false := by simpa using hs
        refine PGs.imp (pgs_cons (s_cP ok vs e1 (fun x hx => hv x (by simp [pNamesL, hx]))) (s_cPs ok vs e2 (fun x hx => hv x (by simp [pNamesL, hx]))) (by rw [assignEach_cons hs']; rfl)) fun v σ H Q ⟨φ, ρ, S, d, ρ', s, r, rd, ha, q⟩ => ?_
        cases d with
        | nil => simp [asgPs] at ha
        | cons d ds =>
          cases rd with | cons r1 r2 =>
          unfold asgPs at ha
          split at ha
          · rename_i ρ1 h1
            exact ⟨_, _, rfl, φ, ρ, S, d, ρ1, s, r, r1, h1, fun σ' r' w' => ⟨φ, ρ1, S, ds, ρ', s, r', r2, ha, fun σ2 r2 w2 => q σ2 r2 (w2.trans w')⟩⟩
          · cases ha
      · cases h
end
/-! ### iterators -/
/-- the evaluator's walk and the model's -/
def RelI (K : PySem.W.Frag) (φ : List Addr) (H : Hp) (J : It) (J' : L2.It) : Prop :=
  ∀ φ' H' S', Grow φ H φ' H' → Sim K φ' S' H' → J.ok S' = true → ∀ i, match J.items[i]? with
    | some d => J'.go i H' ∧ ∀ x H'', J'.yld i H' x H'' → Grow φ' H' φ' H'' ∧ Sim K φ' S' H'' ∧ RelD K φ' H'' d x
    | none => J'.stop i H'
abbrev tI (K : PySem.W.Frag) (mg : Str → Option Value) (W : WX) (P : Par) (c : CI) : TI := tG K mg (RelI K) W (evI P c)
section
variable {K : PySem.W.Frag} {φ : List Addr} {H : Hp}
theorem ok_lst {S : Sto} {k : Nat} {xs : List D} (h : Chk.ok S (.seq k xs) = true) : lstAt S k = some xs := by
  simp only [Chk.ok] at h
  split at h
  · rename_i ys hy
    rw [hy, D.beqs_eq h]
  · cases h
/-- a walk over a list of values that stands as it is -/
theorem rel_seq {a : Addr} {items : List D} {J : It} (hJ : J.items = items) (hs : ∀ φ' H' S', Grow φ H φ' H' → Sim K φ' S' H' → J.ok S' = true → ∃ vs, SqL K H' a vs ∧ RelDs K φ' H' items vs) : RelI K φ H J (Itl K a) := by
  intro φ' H' S' g s hok i
  obtain ⟨vs, h1, h2⟩ := hs φ' H' S' g s hok
  rw [hJ]
  cases e : items[i]? with
  | none =>
    refine ⟨vs, h1, ?_⟩
    rw [← h2.pd.length]
    exact List.getElem?_eq_none_iff.mp e
  | some d =>
    obtain ⟨u, hu, ru⟩ := Pd.get h2.pd e
    refine ⟨⟨vs, u, h1, hu⟩, fun x H'' ⟨e1, e2⟩ => ?_⟩
    subst e1
    have := e2 vs h1
    rw [hu] at this
    cases this
    exact ⟨.refl _ _, s, ru⟩
theorem rel_tup {a : Addr} {xs : List D} {vs : List V} (h1 : SqT K H a vs) (h2 : RelDs K φ H xs vs) : RelI K φ H ⟨[], xs⟩ (Itt K a) := by
  intro φ' H' S' g s hok i
  have h1' := g.toGr0.sqT h1
  have h2' := h2.grow g
  show match xs[i]? with
    | some d => _
    | none => _
  cases e : xs[i]? with
  | none =>
    refine ⟨vs, h1', ?_⟩
    rw [← h2'.pd.length]
    exact List.getElem?_eq_none_iff.mp e
  | some d =>
    obtain ⟨u, hu, ru⟩ := Pd.get h2'.pd e
    refine ⟨⟨vs, u, h1', hu⟩, fun x H'' ⟨e1, e2⟩ => ?_⟩
    subst e1
    have := e2 vs h1'
    rw [hu] at this
    cases this
    exact ⟨.refl _ _, s, ru⟩
theorem rel_dict {d : Addr} {o : Obj} {kvs : List (Key × D)} {ws : List (Key × V)} {c : List Chk} (h : H d = some (.frz o (.dK ws))) (r : RelKV K φ H kvs ws) : RelI K φ H ⟨c, kvs.map fun p => keyV p.1⟩ (Itk d o ws) := by
  intro φ' H' S' g s hok i
  have h' := g.frzA _ _ _ h
  show match (kvs.map fun p => keyV p.1)[i]? with
    | some d => _
    | none => _
  rw [List.getElem?_map]
  cases e : kvs[i]? with
  | none => exact ⟨h', by rw [← r.length]; exact List.getElem?_eq_none_iff.mp e⟩
  | some q =>
    obtain ⟨u, hu, ru, _⟩ := Pd.get r e
    refine ⟨⟨h', (List.getElem?_eq_some_iff.mp hu).1⟩, fun x H'' ⟨e1, k, v, e2, e3⟩ => ?_⟩
    subst e1
    rw [hu] at e2
    cases e2
    refine ⟨.refl _ _, s, ?_⟩
    obtain ⟨qk, qv⟩ := q
    cases ru
    subst e3
    show RelD K φ' H'' (keyV k) (kV k)
    cases k with
    | inl i => exact .int i
    | inr t => exact .str t
theorem rel_rng {lo : Int} {n : Nat} : RelI K φ H ⟨[], (List.range n).map fun (i : Nat) => D.int (lo + (i : Int))⟩ (Itr lo n) := by
  intro φ' H' S' g s hok i
  show match ((List.range n).map fun (i : Nat) => D.int (lo + (i : Int)))[i]? with
    | some d => _
    | none => _
  rw [List.getElem?_map]
  by_cases hi : i < n
  · rw [List.getElem?_range hi]
    refine ⟨hi, fun x H'' ⟨e1, e2⟩ => ?_⟩
    subst e1 e2
    exact ⟨.refl _ _, s, .int _⟩
  · rw [List.getElem?_eq_none (by simpa using hi)]
    exact Nat.le_of_not_lt hi
theorem enumFrom_get : ∀ (xs : List D) (n i : Nat), (enumFrom n xs)[i]? = (xs[i]?).map fun x => .tup [.int ((n + i : Nat) : Int), x]
  | [], _, _ => by simp [enumFrom]
  | x :: xs, n, 0 => by simp [enumFrom]
  | x :: xs, n, i + 1 => by
    simp only [enumFrom, List.getElem?_cons_succ]
    rw [enumFrom_get xs (n + 1) i]
    have : n + 1 + i = n + (i + 1) := by omega
    rw [this]
/-- a pair that was just laid -/
theorem rel_pair {S : Sto} {T : Addr} {d e : D} {x y : V} (s : Sim K φ S H) (hT : H T = none) (r1 : RelD K φ H d x) (r2 : RelD K φ H e y) : Grow φ H φ (upd H T (.tup [x, y])) ∧ Sim K φ S (upd H T (.tup [x, y])) ∧ RelD K φ (upd H T (.tup [x, y])) (.tup [d, e]) (.ref T) := by
  have g : Grow φ H φ (upd H T (.tup [x, y])) := by simpa using Grow.new hT []
  exact ⟨g, s.skip hT, .tup (.inl (.inl upd_same)) (.cons (r1.grow g) (.cons (r2.grow g) .nil))⟩
theorem rel_enumL {a : Addr} {items : List D} {J : It} (hJ : J.items = enumFrom 0 items) (hs : ∀ φ' H' S', Grow φ H φ' H' → Sim K φ' S' H' → J.ok S' = true → ∃ vs, SqL K H' a vs ∧ RelDs K φ' H' items vs) : RelI K φ H J (Ite K a) := by
  intro φ' H' S' g s hok i
  obtain ⟨vs, h1, h2⟩ := hs φ' H' S' g s hok
  rw [hJ, enumFrom_get]
  cases e : items[i]? with
  | none =>
    refine ⟨vs, h1, ?_⟩
    rw [← h2.pd.length]
    exact List.getElem?_eq_none_iff.mp e
  | some d =>
    obtain ⟨u, hu, ru⟩ := Pd.get h2.pd e
    refine ⟨⟨vs, u, h1, hu⟩, fun x H'' ⟨T, y, e1, hT, e2, e3⟩ => ?_⟩
    subst e1 e2
    have := e3 vs h1
    rw [hu] at this
    cases this
    rw [Nat.zero_add]
    exact rel_pair s hT (.int _) ru
theorem rel_enumT {a : Addr} {xs : List D} {vs : List V} (h1 : SqT K H a vs) (h2 : RelDs K φ H xs vs) : RelI K φ H ⟨[], enumFrom 0 xs⟩ (IteT K a) := by
  intro φ' H' S' g s hok i
  have h1' := g.toGr0.sqT h1
  have h2' := h2.grow g
  show match (enumFrom 0 xs)[i]? with
    | some d => _
    | none => _
  rw [enumFrom_get]
  cases e : xs[i]? with
  | none =>
    refine ⟨vs, h1', ?_⟩
    rw [← h2'.pd.length]
    exact List.getElem?_eq_none_iff.mp e
  | some d =>
    obtain ⟨u, hu, ru⟩ := Pd.get h2'.pd e
    refine ⟨⟨vs, u, h1', hu⟩, fun x H'' ⟨T, y, e1, hT, e2, e3⟩ => ?_⟩
    subst e1 e2
    have := e3 vs h1'
    rw [hu] at this
    cases this
    rw [Nat.zero_add]
    exact rel_pair s hT (.int _) ru
theorem zipD_get : ∀ (xs ys : List D) (i : Nat), (zipD xs ys)[i]? = match xs[i]?, ys[i]? with
    | some x, some y => some (.tup [x, y])
    | _, _ => none
  | [], ys, i => by simp [zipD]
  | x :: xs, [], i => by cases i <;> simp [zipD]
  | x :: xs, y :: ys, 0 => by simp [zipD]
  | x :: xs, y :: ys, i + 1 => by
    simp only [zipD, List.getElem?_cons_succ]
    exact zipD_get xs ys i
theorem rel_zipL {a b : Addr} {xs ys : List D} {J : It} (hJ : J.items = zipD xs ys) (hs : ∀ φ' H' S', Grow φ H φ' H' → Sim K φ' S' H' → J.ok S' = true → ∃ vs ws, SqL K H' a vs ∧ RelDs K φ' H' xs vs ∧ SqL K H' b ws ∧ RelDs K φ' H' ys ws) : RelI K φ H J (Itz K a b) := by
  intro φ' H' S' g s hok i
  obtain ⟨vs, ws, h1, h2, h3, h4⟩ := hs φ' H' S' g s hok
  rw [hJ, zipD_get]
  cases e : xs[i]? with
  | none => exact ⟨vs, ws, h1, h3, .inl (by rw [← h2.pd.length]; exact List.getElem?_eq_none_iff.mp e)⟩
  | some d =>
    obtain ⟨u, hu, ru⟩ := Pd.get h2.pd e
    cases e2 : ys[i]? with
    | none => exact ⟨vs, ws, h1, h3, .inr (by rw [← h4.pd.length]; exact List.getElem?_eq_none_iff.mp e2)⟩
    | some d2 =>
      obtain ⟨u2, hu2, ru2⟩ := Pd.get h4.pd e2
      refine ⟨⟨vs, ws, u, u2, h1, h3, hu, hu2⟩, fun x H'' ⟨T, y, z, e1, hT, e2, e3, e4⟩ => ?_⟩
      subst e1 e2
      have q1 := e3 vs h1
      have q2 := e4 ws h3
      rw [hu] at q1
      rw [hu2] at q2
      cases q1
      cases q2
      exact rel_pair s hT ru ru2
theorem rel_zipT {a b : Addr} {xs ys : List D} {vs ws : List V} (h1 : SqT K H a vs) (h2 : RelDs K φ H xs vs) (h3 : SqT K H b ws) (h4 : RelDs K φ H ys ws) : RelI K φ H ⟨[], zipD xs ys⟩ (RZ.ItzT K a b) := by
  intro φ' H' S' g s hok i
  replace h1 := g.toGr0.sqT h1
  replace h3 := g.toGr0.sqT h3
  replace h2 := h2.grow g
  replace h4 := h4.grow g
  show match (zipD xs ys)[i]? with
    | some d => _
    | none => _
  rw [zipD_get]
  cases e : xs[i]? with
  | none => exact ⟨vs, ws, h1, h3, .inl (by rw [← h2.pd.length]; exact List.getElem?_eq_none_iff.mp e)⟩
  | some d =>
    obtain ⟨u, hu, ru⟩ := Pd.get h2.pd e
    cases e2 : ys[i]? with
    | none => exact ⟨vs, ws, h1, h3, .inr (by rw [← h4.pd.length]; exact List.getElem?_eq_none_iff.mp e2)⟩
    | some d2 =>
      obtain ⟨u2, hu2, ru2⟩ := Pd.get h4.pd e2
      refine ⟨⟨vs, ws, u, u2, h1, h3, hu, hu2⟩, fun x H'' ⟨T, y, z, e1, hT, e2, e3, e4⟩ => ?_⟩
      subst e1 e2
      have q1 := e3 vs h1
      have q2 := e4 ws h3
      rw [hu] at q1
      rw [hu2] at q2
      cases q1
      cases q2
      exact rel_pair s hT ru ru2
end
section
variable {X : Cx} {C : CC} {P : Par} {W : WX} {a b tg : Expr} {ca cb : CE} {pos p p2 : Pos}
theorem PI.or {t t' : TI} (h : PI X tg a t) (h' : PI X tg a t') : PI X tg a (fun σ H R => t σ H R ∨ t' σ H R) :=
  ⟨fun pins s σ H R I q => q.elim (h.run pins s σ H R I) (h'.run pins s σ H R I)⟩
/-- what the evaluation is known to give -/
theorem tG.known {α β γ δ : Type} {K : PySem.W.Frag} {mg : Str → Option Value} {R1 : List Addr → Hp → α → β → Prop} {R2 : List Addr → Hp → γ → δ → Prop} {ev : Rho → Sto → Res α} {f : α → Sto → Res γ} {φ : List Addr} {ρ : Rho} {S : Sto} {σ : L2.St} {H : Hp} {Q : δ → Hp → Prop} {Q' : β → Hp → Prop} (s : Sim K φ S H) (rr : RelR K φ H ρ σ)
    (h : PostG K mg R2 ((ev ρ S).bind f) φ H Q fun cls d H' => W cls d σ H')
    (k : ∀ a S1 φ1 y H1, ev ρ S = .ok a S1 → Grow φ H φ1 H1 → Sim K φ1 S1 H1 → R1 φ1 H1 a y → PostG K mg R2 (f a S1) φ1 H1 Q (fun cls d H' => W cls d σ H') → Q' y H1) : tG K mg R1 W ev σ H Q' :=
  ⟨φ, ρ, S, s, rr, (PostG.bind (R := R1) h).mono fun y H1 ⟨φ1, S1, a, g, s1, ra, e, h1⟩ => k a S1 φ1 y H1 e g s1 ra h1⟩
theorem sq_ref {K : PySem.W.Frag} {φ : List Addr} {H : Hp} {S : Sto} {k : Nat} {q : Addr} {xs : List D} {y : V} (s : Sim K φ S H) (e : lstAt S k = some xs) (r : RelD K φ H (.ref k) y) : ∃ q, y = .ref q ∧ (∃ vs, SqL K H q vs) ∧ ∀ φ' H' S', Grow φ H φ' H' → Sim K φ' S' H' → lstAt S' k = some xs → ∃ vs, SqL K H' q vs ∧ RelDs K φ' H' xs vs := by
  obtain ⟨q, vs, rfl, hq, h1, h2⟩ := s.lst e r
  refine ⟨q, rfl, ⟨vs, .of h1⟩, fun φ' H' S' g s' e' => ?_⟩
  obtain ⟨q', ws, e2, _, h3, h4⟩ := s'.lst e' (r.grow g)
  cases e2
  exact ⟨ws, .of h3, h4⟩
theorem okJ {S : Sto} {c : Chk} {cs : List Chk} {xs : List D} (h : (It.mk (c :: cs) xs).ok S = true) : Chk.ok S c = true ∧ (It.mk cs xs).ok S = true := by
  unfold It.ok at h ⊢
  simpa using h
theorem s_iseq (ha : SE X P W a ca) : PI X tg a (tI X.K X.mg W P (.seq ca)) := by
  refine PI.imp (PI.or (pi_list ha) (PI.or (pi_tup ha) (pi_keys ha))) fun σ H R ⟨φ, ρ, S, s, r, h⟩ => ?_
  replace h : PostG X.K X.mg (RelI X.K) (((evB P ca).v ρ S).bind fun x S => .of ((seqIt S x).map fun J => (J, S))) φ H R fun cls d H' => W cls d σ H' := h
  cases hev : (evB P ca).v ρ S with
  | fail => rw [hev] at h; exact h.elim
  | exc c x S' =>
    refine .inl (tG.known (R1 := RelD X.K) (ev := evE P ca) s r h fun a S1 φ1 y H1 e _ _ _ _ => ?_)
    rw [show evE P ca ρ S = (evB P ca).v ρ S from rfl, hev] at e; cases e
  | ok d S1 =>
    have go : ∀ {Q' : VK}, (∀ φ1 y H1, Grow φ H φ1 H1 → Sim X.K φ1 S1 H1 → RelD X.K φ1 H1 d y → PostG X.K X.mg (RelI X.K) (.of ((seqIt S1 d).map fun J => (J, S1))) φ1 H1 R (fun cls d H' => W cls d σ H') → Q' y H1) → tG X.K X.mg (RelD X.K) W (evE P ca) σ H Q' := by
      intro Q' k
      refine tG.known (R1 := RelD X.K) (ev := evE P ca) s r h fun a S1' φ1 y H1 e g s1 r1 h1 => ?_
      rw [show evE P ca ρ S = (evB P ca).v ρ S from rfl, hev] at e
      cases e
      exact k φ1 y H1 g s1 r1 h1
    cases hj : seqIt S1 d with
    | none =>
      refine .inl (go fun φ1 y H1 g s1 r1 h1 => ?_)
      rw [hj] at h1
      exact h1.elim
    | some J =>
      have h1' : ∀ {φ1 : List Addr} {H1 : Hp} {J' : L2.It}, Sim X.K φ1 S1 H1 → PostG X.K X.mg (RelI X.K) (.of ((seqIt S1 d).map fun J => (J, S1))) φ1 H1 R (fun cls d H' => W cls d σ H') → RelI X.K φ1 H1 J J' → R J' H1 := by
        intro φ1 H1 J' s1 h1 ri
        rw [hj] at h1
        exact h1 φ1 J' H1 (.refl _ _) s1 ri
      unfold seqIt at hj
      split at hj
      · cases hj
        refine .inr (.inl (go fun φ1 y H1 g s1 r1 h1 => ?_))
        cases r1 with | tup q t => exact ⟨_, rfl, ⟨_, q⟩, h1' s1 h1 (rel_tup q t)⟩
      · cases hj
        refine .inl (go fun φ1 y H1 g s1 r1 h1 => ?_)
        cases r1 with | fl q t => exact ⟨_, rfl, ⟨_, q.sq⟩, h1' s1 h1 (rel_seq rfl fun φ' H' S' g' s' _ => ⟨_, (g'.toGr0.sqF q).sq, t.grow g'⟩)⟩
      · split at hj
        · rename_i k xs hx
          cases hj
          refine .inl (go fun φ1 y H1 g s1 r1 h1 => ?_)
          obtain ⟨q, e1, hq, kk⟩ := sq_ref (q := 0) s1 (lstAt_iff.mpr hx) r1
          exact ⟨q, e1, hq, h1' s1 h1 (rel_seq rfl fun φ' H' S' g' s' hok => kk φ' H' S' g' s' (ok_lst (okJ hok).1))⟩
        · rename_i k kvs hx
          cases hj
          refine .inr (.inr (go fun φ1 y H1 g s1 r1 h1 => ?_))
          cases r1 with | ref e3 =>
          obtain ⟨o, ws, h3, h4⟩ := s1.at_ _ _ _ hx e3
          exact ⟨_, o, rfl, .inl ⟨ws, h3, h1' s1 h1 (rel_dict h3 h4)⟩⟩
        · cases hj
      · cases hj
theorem s_rng1 (ok : Ok X C P W) (hg : C.glob (Str.ofString "range") = true) (hs : isStar a = false) (ha : SE X P W a ca) : PI X tg (.Call (.Name (Str.ofString "range") p) [a] [] pos) (tI X.K X.mg W P (.rng1 ca)) := by
  obtain ⟨g1, g2, g3⟩ := glob_gl ok hg
  refine PI.imp (pi_range1 g1 (ok.free "range" (by decide)) (pa_cons ha pa_nil (starEach_cons hs)) (starEach_cons hs)) fun σ H R h => ?_
  refine (tG.bind1 (R1 := RelD X.K) (R2 := RelI X.K) (ev := evE P ca) h).map fun x H1 ⟨φ, S, d, s, r, k⟩ => ?_
  obtain ⟨J, S', e, k2⟩ := PostG.noexc k
  obtain ⟨j, e1, e2⟩ := Option.bind_eq_some_iff.mp e
  split at e2
  · rename_i hr
    cases e2
    cases d with
    | int i =>
      cases e1
      cases r
      unfold rngOk at hr
      simp only [Bool.and_eq_true, decide_eq_true_eq] at hr
      refine ⟨_, rfl, hr.1, hr.2, k2 φ _ H1 (.refl _ _) s ?_⟩
      have := rel_rng (K := X.K) (φ := φ) (H := H1) (lo := 0) (n := j.toNat)
      unfold rngD
      rw [Int.sub_zero]
      exact this
    | _ => cases e1
  · cases e2
theorem s_rng2 (ok : Ok X C P W) (hg : C.glob (Str.ofString "range") = true) (hs : isStar a = false) (hs2 : isStar b = false) (ha : SE X P W a ca) (hb : SE X P W b cb) : PI X tg (.Call (.Name (Str.ofString "range") p) [a, b] [] pos) (tI X.K X.mg W P (.rng2 ca cb)) := by
  obtain ⟨g1, g2, g3⟩ := glob_gl ok hg
  refine PI.imp (pi_range2 g1 (ok.free "range" (by decide)) (pa_cons ha (pa_cons hb pa_nil (starEach_cons hs2)) (starEach_cons hs)) (by rw [starEach_cons hs, starEach_cons hs2]; rfl) (by rw [starEach_cons hs2]; rfl)) fun σ H R h => ?_
  refine (tG.bind2 (R1 := RelD X.K) (R2 := RelD X.K) (R3 := RelI X.K) laterD (ev1 := evE P ca) (ev2 := evE P cb) h).map fun x H1 h1 => h1.map fun y H2 ⟨φ, S, d, e, s, r1, r2, k⟩ => ?_
  obtain ⟨J, S', e, k⟩ := PostG.noexc k
  split at e
  · rename_i i j
    split at e
    · rename_i hr
      cases e
      cases r1
      cases r2
      unfold rngOk at hr
      simp only [Bool.and_eq_true, decide_eq_true_eq] at hr
      exact ⟨_, _, rfl, ⟨hr.1.1, hr.1.2, hr.2.1, hr.2.2⟩, k φ _ H2 (.refl _ _) s rel_rng⟩
    · cases e
  · cases e
theorem s_enum (ok : Ok X C P W) (hg : C.glob (Str.ofString "enumerate") = true) (hs : isStar a = false) (ha : SE X P W a ca) {es : List Expr} {kk : Nat} : PI X (.Tuple es kk p2) (.Call (.Name (Str.ofString "enumerate") p) [a] [] pos) (tI X.K X.mg W P (.enum ca)) := by
  obtain ⟨g1, g2, g3⟩ := glob_gl ok hg
  refine PI.imp (pi_enumA g1 (ok.free "enumerate" (by decide)) (pa_cons ha pa_nil (starEach_cons hs)) (starEach_cons hs)) fun σ H R h => ?_
  refine (tG.bind1 (R1 := RelD X.K) (R2 := RelI X.K) (ev := evE P ca) h).map fun x H1 ⟨φ, S, d, s, r, k⟩ => ?_
  obtain ⟨J, S', e, k⟩ := PostG.noexc k
  obtain ⟨J0, e1, e2⟩ := Option.map_eq_some_iff.mp e
  cases e2
  unfold seqIt' at e1
  split at e1
  · cases e1
    cases r with | tup q t => exact ⟨_, _, rfl, .inr ⟨q, k φ _ H1 (.refl _ _) s (rel_enumT q t)⟩⟩
  · rename_i n
    obtain ⟨xs, e3, e4⟩ := Option.map_eq_some_iff.mp e1
    cases e4
    obtain ⟨q, rfl, ⟨vs, hq⟩, kk⟩ := sq_ref (q := 0) s e3 r
    exact ⟨q, vs, rfl, .inl ⟨hq, k φ _ H1 (.refl _ _) s (rel_enumL rfl fun φ' H' S' g' s' hok => kk φ' H' S' g' s' (ok_lst (okJ hok).1))⟩⟩
  · cases e1
theorem s_zip (ok : Ok X C P W) (hg : C.glob (Str.ofString "zip") = true) (hs : isStar a = false) (hs2 : isStar b = false) (ha : SE X P W a ca) (hb : SE X P W b cb) {es : List Expr} {kk : Nat} : PI X (.Tuple es kk p2) (.Call (.Name (Str.ofString "zip") p) [a, b] [] pos) (tI X.K X.mg W P (.zip ca cb)) := by
  obtain ⟨g1, g2, g3⟩ := glob_gl ok hg
  refine PI.imp (RZ.pi_zipA g1 (ok.free "zip" (by decide)) (pa_cons ha (pa_cons hb pa_nil (starEach_cons hs2)) (starEach_cons hs)) (starEach_cons hs) (by rw [starEach_cons hs2]; rfl)) fun σ H R h => ?_
  refine (tG.bind2 (R1 := RelD X.K) (R2 := RelD X.K) (R3 := RelI X.K) laterD (ev1 := evE P ca) (ev2 := evE P cb) h).map fun x H1 h1 => h1.map fun y H2 ⟨φ, S, d, e, s, r1, r2, k⟩ => ?_
  obtain ⟨J, S', e, k⟩ := PostG.noexc k
  obtain ⟨J0, e1, e2⟩ := Option.map_eq_some_iff.mp e
  cases e2
  unfold zipIt at e1
  split at e1
  · cases e1
    cases r1 with | tup q t =>
    cases r2 with | tup q2 t2 => exact ⟨_, _, _, _, rfl, .inr ⟨q, q2, k φ _ H2 (.refl _ _) s (rel_zipT q t q2 t2)⟩⟩
  · split at e1
    · rename_i m n xs ys e3 e4
      cases e1
      obtain ⟨q, rfl, ⟨vs, hq⟩, kk⟩ := sq_ref (q := 0) s e3 r1
      obtain ⟨q2, rfl, ⟨vs2, hq2⟩, kk2⟩ := sq_ref (q := 0) s e4 r2
      refine ⟨q, q2, vs, vs2, rfl, .inl ⟨hq, hq2, k φ _ H2 (.refl _ _) s (rel_zipL rfl fun φ' H' S' g' s' hok => ?_)⟩⟩
      obtain ⟨ok1, ok2⟩ := okJ hok
      obtain ⟨ws, h3, h4⟩ := kk φ' H' S' g' s' (ok_lst ok1)
      obtain ⟨us, h5, h6⟩ := kk2 φ' H' S' g' s' (ok_lst (okJ ok2).1)
      exact ⟨ws, us, h3, h4, h5, h6⟩
    · cases e1
  · cases e1
end
end G

end

section
set_option Elab.async false
set_option linter.all false
set_option maxRecDepth 100000
/-! G12: comprehensions. -/
namespace G
open PySem PySem.Spec PyProof.Rows L2
section
variable {X : Cx} {C C' : CC} {P : Par} {W : WX}
theorem Ok.n (ok : Ok X C P W) : OkN X C := ⟨ok.sc, ok.N, ok.nd, ok.calm, ok.fn⟩
/-- nothing may come out -/
abbrev noWX : WX := fun _ _ _ _ => False
abbrev blkOf (C : CC) (scope : Scope) : CC := { C with sc := relS' scope C.sc, cel := fun x => scope.names.lookup x == some .cell }
theorem Ok.blk (ok : Ok X C P W) {scope : Scope} (hk : scope.kind = .function) (s : Shared) (H : Hp) (D : Addr) (cl : List (Str × Addr)) (fp : List Addr) : Ok (X.blk s H scope (compEnvC scope cl D X.env) fp) (blkOf C scope) P noWX where
  sc := by
    show relabel scope X.env = relS' scope C.sc
    unfold relabel relS'
    rw [ok.sc]
    simp only [kind_of ok]
  kind := hk
  N := ok.N
  nd := ok.nd
  calm := ok.calm
  fn := fun x h => h
  tk := fun u s' ⟨a, B, sI, pins, σ, H, cls, d, e, I, nb, up, sky, na, os, ag, w⟩ => w
  un := ok.un
  bi := ok.bi
  free := ok.free
  fns := fun f hf => ⟨(ok.fns f hf).ok⟩
  gl := ok.gl
/-- a reading of an evaluation whose outcome is known -/
theorem tG.intro {α β : Type} {K : PySem.W.Frag} {mg : Str → Option Value} {R : List Addr → Hp → α → β → Prop} {ev : Rho → Sto → Res α} {φ : List Addr} {ρ : Rho} {S S' : Sto} {a : α} {σ : L2.St} {H : Hp} {Q : β → Hp → Prop} (s : Sim K φ S H) (r : RelR K φ H ρ σ) (e : ev ρ S = .ok a S')
    (k : ∀ φ' y H', Grow φ H φ' H' → Sim K φ' S' H' → R φ' H' a y → Q y H') : tG K mg R W ev σ H Q := by
  refine ⟨φ, ρ, S, s, r, ?_⟩
  rw [e]
  exact k
theorem s_ifs0 : PTs X [] (tG X.K X.mg RelEq W (evIfs P .nil)) := ⟨fun pins s σ H Q I ⟨φ, ρ, S, sm, r, h⟩ => pts_nil.run pins s σ H Q I (h φ true H (.refl _ _) sm rfl)⟩
theorem s_ifs1 {c : Expr} {cc : CE} (hc : ST X P W c cc) : PTs X [c] (tG X.K X.mg RelEq W (evIfs P (.cons false cc .nil))) := ⟨fun pins s σ H Q I h => (pts_one hc).run pins s σ H Q I <|
  (tG.bind1 (R1 := RelEq (α := Bool)) (R2 := RelEq (α := Bool)) (ev := evT P cc) (f := fun k S => if k then .ok true S else .ok false S) (Q := Q) h).map fun x H1 ⟨φ, S, b, s, e, h2⟩ => by
    cases e
    cases x with
    | true => exact h2.here s rfl
    | false => exact h2.here s rfl⟩
theorem nox_ok {α : Type} {r : Res α} {a : α} {S : Sto} (h : r.nox = .ok a S) : r = .ok a S := by
  cases r with
  | ok b S' => exact h
  | exc c x S' => cases h
  | fail => cases h
theorem nox_cases {α : Type} (r : Res α) : (∃ a S, r = .ok a S) ∨ r.nox = .fail := by
  cases r with
  | ok b S' => exact .inl ⟨b, S', rfl⟩
  | exc c x S' => exact .inr rfl
  | fail => exact .inr rfl
/-- a turn of a comprehension -/
abbrev turnL (P : Par) (g : CP) (ifs : CEs) (vs : List Nat) (elt : CE) (ρ : Rho) : D → Sto → Res (Option D) := fun x S => Res.nox (match asgP S g x (wipeR ρ vs) with
        | some ρ' => (evIfs P ifs ρ' S).bind fun b S => if b then ((evB P elt).v ρ' S).bind fun y S => .ok (some y) S else .ok none S
        | none => .fail)
theorem turn_ok {P : Par} {g : CP} {ifs : CEs} {vs : List Nat} {elt : CE} {ρ : Rho} {x : D} {S S3 : Sto} {o : Option D} (h : turnL P g ifs vs elt ρ x S = .ok o S3) :
    ∃ ρ' b S2, asgP S g x (wipeR ρ vs) = some ρ' ∧ evIfs P ifs ρ' S = .ok b S2 ∧ ((b = false ∧ o = none ∧ S3 = S2) ∨ (b = true ∧ ∃ y, o = some y ∧ evE P elt ρ' S2 = .ok y S3)) := by
  have h := nox_ok h
  split at h
  · rename_i ρ' hρ
    obtain ⟨b, S2, e1, e2⟩ := Res.bind_ok h
    refine ⟨ρ', b, S2, hρ, e1, ?_⟩
    cases b with
    | false => cases e2; exact .inl ⟨rfl, rfl, rfl⟩
    | true =>
      obtain ⟨y, S4, e3, e4⟩ := Res.bind_ok e2
      cases e4
      exact .inr ⟨rfl, y, rfl, e3⟩
  · cases h
/-- the comprehension, the walk being known -/
theorem lc_imp {K : PySem.W.Frag} {mg : Str → Option Value} {it : CI} {g : CP} {ifs : CEs} {elt : CE} {vs : List Nat} (hv : ∀ x ∈ pNames g, x ∈ vs) {φ : List Addr} {ρ : Rho} {S : Sto} {σ : L2.St} {H : Hp} {Q : VK} (s : Sim K φ S H) (r : RelR K φ H ρ σ)
    (h : PostG K mg (RelD K) (lcA (evI P it ρ) (turnL P g ifs vs elt ρ) S) φ H Q fun cls d H' => W cls d σ H') :
    tLc (tI K mg W P it) (gP K vs g) (tG K mg RelEq noWX (evIfs P ifs)) (tE K mg noWX P elt) vs σ H Q := by
  refine ⟨φ, ρ, S, s, r, (PostG.bind (R := RelI K) h).mono fun J' H1 ⟨φ1, S1, J, g1, s1, ri, _, h1⟩ => fun D hD => ?_⟩
  have r1 := r.grow g1
  -- the anchor is H1
  let Wn : Nat → Nat → Hp → Prop := fun i m H' => ∃ φ' S' acc accV, Grow φ1 H1 φ' H' ∧ Sim K φ' S' H' ∧ D ∉ φ' ∧ H' D = some (.lst accV) ∧ RelDs K φ' H' acc accV ∧ m = J.items.length - i ∧ i ≤ J.items.length ∧
    PostG K mg (RelD K) ((lcL J (turnL P g ifs vs elt ρ) (J.items.drop i) acc S').bind fun ys S => .of (newR (.lst ys) S)) φ1 H1 Q fun cls d H' => W cls d σ H'
  have nD : D ∉ φ1 := fun z => by
    obtain ⟨n, hn⟩ := List.mem_iff_getElem?.mp z
    exact s1.ne_new hn hD rfl
  have gD : Grow φ1 H1 φ1 (upd H1 D (.lst [])) := by simpa using Grow.new (o := .lst []) hD []
  refine ⟨Wn, ⟨_, φ1, S1, [], [], gD, s1.skip hD, nD, upd_same, .nil, rfl, Nat.zero_le _, h1⟩, fun i m Hi ⟨φi, Si, acc, accV, gi, si, ni, hDi, ra, hm, hi, hp⟩ => ?_⟩
  have hJ : J.ok Si = true := by
    cases hb : J.ok Si with
    | true => rfl
    | false =>
      exfalso
      cases hd : J.items.drop i with
      | nil => rw [hd] at hp; unfold lcL at hp; rw [hb] at hp; exact hp
      | cons x xs => rw [hd] at hp; unfold lcL at hp; rw [hb] at hp; exact hp
  have rel := ri φi Hi Si gi si hJ i
  cases hx : J.items[i]? with
  | none =>
    rw [hx] at rel
    refine .inl ⟨rel, ?_⟩
    rw [List.drop_eq_nil_of_le (List.getElem?_eq_none_iff.mp hx)] at hp
    unfold lcL at hp
    rw [hJ] at hp
    refine hp (φi ++ [D]) (.ref D) Hi (gi.count hD) (si.count ni ⟨accV, hDi, ra.grow0 (Gr0.ext [D])⟩) (.ref (by rw [← si.len]; simp))
  | some x =>
    rw [hx] at rel
    obtain ⟨go, yl⟩ := rel
    have hil : i < J.items.length := (List.getElem?_eq_some_iff.mp hx).1
    rw [List.drop_eq_getElem_cons hil] at hp
    have hxe : J.items[i] = x := by rw [List.getElem?_eq_getElem hil] at hx; exact Option.some.inj hx
    rw [hxe] at hp
    unfold lcL at hp
    rw [hJ] at hp
    simp only [if_true] at hp
    rw [Res.bind_assoc] at hp
    cases ht : turnL P g ifs vs elt ρ x Si with
    | fail => rw [ht] at hp; exact hp.elim
    | exc c y S' =>
      exfalso
      have := nox_cases (match asgP Si g x (wipeR ρ vs) with
        | some ρ' => (evIfs P ifs ρ' Si).bind fun b S => if b then ((evB P elt).v ρ' S).bind fun y S => .ok (some y) S else .ok none S
        | none => .fail)
      rcases this with ⟨a, S2, e⟩ | e
      · rw [show turnL P g ifs vs elt ρ x Si = Res.nox _ from rfl, e] at ht
        cases ht
      · rw [show turnL P g ifs vs elt ρ x Si = Res.nox _ from rfl, e] at ht
        cases ht
    | ok o S3 =>
      rw [ht] at hp
      obtain ⟨ρ', b, S2, ea, ei, ho⟩ := turn_ok ht
      refine .inr ⟨go, fun H' => Wn (i + 1) (J.items.length - (i + 1)) H', fun H' w => ⟨_, by omega, w⟩, fun xv H2 hy => ?_⟩
      obtain ⟨g2, s2, rx⟩ := yl xv H2 hy
      refine ⟨φi, wipeR ρ vs, Si, x, ρ', s2, ((r1.grow gi).grow g2).wipe vs, rx, ea, fun σ2 rσ hw => ⟨by rw [hw, wipe_wipe vs vs fun _ h => h], ?_⟩⟩
      refine tG.intro s2 rσ ei fun φ3 b' H3 g3 s3 eb => ?_
      cases eb
      have g13 : Grow φi Hi φ3 H3 := g2.trans g3
      rcases ho with ⟨rfl, rfl, rfl⟩ | ⟨rfl, y, rfl, ey⟩
      · rw [if_neg (by decide)]
        obtain ⟨h5, n5⟩ := g13.oth D _ hDi ni
        exact ⟨φ3, _, acc, accV, gi.trans g13, s3, n5, h5, ra.grow g13, rfl, hil, hp⟩
      · rw [if_pos rfl]
        refine tG.intro s3 (rσ.grow g3) ey fun φ4 yv H4 g4 s4 ry => ?_
        have g14 := g13.trans g4
        obtain ⟨h5, n5⟩ := g14.oth D _ hDi ni
        simp only [Res.bind] at hp
        by_cases hl : acc.length < 16000000
        · rw [if_pos hl] at hp
          refine ⟨accV, h5, by rw [← ra.pd.length]; exact big_lineS hl, ?_⟩
          have gc : Gr0 φ4 H4 φ4 (upd H4 D (.lst (accV ++ [yv]))) := by
            refine ⟨⟨[], by simp⟩, fun a xs q => ?_, fun a o xs q => ?_⟩
            · rcases q with q | ⟨o, q⟩
              · exact .inl (by rw [upd_ne fun z => by rw [z, h5] at q; cases q]; exact q)
              · exact .inr ⟨o, by rw [upd_ne fun z => by rw [z, h5] at q; cases q]; exact q⟩
            · rw [upd_ne fun z => by rw [z, h5] at q; cases q]; exact q
          refine ⟨φ4, _, acc ++ [y], accV ++ [yv], (gi.trans g14).change hD, s4.other n5 gc, n5, upd_same, RelDs.of (Pd.append ((ra.grow g14).grow0 gc).pd (.cons (ry.grow0 gc) .nil)), rfl, hil, hp⟩
        · rw [if_neg hl] at hp
          exact hp.elim
theorem PE.or {e : Expr} {t t' : TE} (h : PE X e t) (h' : PE X e t') : PE X e (fun σ H Q => t σ H Q ∨ t' σ H Q) :=
  ⟨fun pins s σ H Q I q => q.elim (h.run pins s σ H Q I) (h'.run pins s σ H Q I)⟩
theorem Rd.ne {H : Hp} {c a : Addr} {xs : List V} {u : HO} (h : Rd H c (.tup xs)) (hu : H a = some u) (h1 : ∀ xs, u ≠ .tup xs) (h2 : ∀ o xs, u ≠ .frz o (.tup xs)) : c ≠ a := by
  rintro rfl
  rcases h with h | ⟨o, h⟩
  · rw [hu] at h; exact h1 _ (Option.some.inj h)
  · rw [hu] at h; exact h2 _ _ (Option.some.inj h)
theorem Rd.upd {H : Hp} {c a : Addr} {xs : List V} {x : HO} (h : Rd H c (.tup xs)) (n : c ≠ a) : Rd (upd H a x) c (.tup xs) := by
  rcases h with h | ⟨o, h⟩
  · exact .inl (by rw [upd_ne n]; exact h)
  · exact .inr ⟨o, by rw [upd_ne n]; exact h⟩
theorem Gr0.thaw {φ : List Addr} {H : Hp} {a : Addr} {o : Obj} {ws : List (L2.Key × V)} {x : HO} (h : H a = some (.frz o (.dK ws))) : Gr0 φ H φ (upd H a x) :=
  ⟨⟨[], by simp⟩, fun c xs r => Rd.upd r (Rd.ne r h (fun _ => nofun) (fun _ _ => nofun)), fun c o' w r => by rw [upd_ne fun z => by rw [z, h] at r; cases r]; exact r⟩
theorem Grow.locked {φ φ' : List Addr} {H H' : Hp} {a : Addr} {o : Obj} {ws : List (L2.Key × V)} {x : HO} (ha : a ∈ φ) (h : H a = some (.dK ws)) (g : Grow φ (upd H a (.frz o (.dK ws))) φ' H') : Grow φ H φ' (upd H' a x) := by
  have n1 : ∀ c xs, Rd H c (.tup xs) → c ≠ a := fun c xs r => Rd.ne r h (fun _ => nofun) (fun _ _ => nofun)
  have n2 : ∀ c o w, H c = some (.frz o w) → c ≠ a := fun c o w r z => by rw [z, h] at r; cases r
  refine .mk' g.pre (fun c xs r => Rd.upd (g.tup c xs (Rd.upd r (n1 c xs r))) (n1 c xs r)) (fun c o' w r => ?_) fun c o' r n => ?_
  · have n := n2 c o' w r
    rw [upd_ne n]
    exact g.frzA c o' w (by rw [upd_ne n]; exact r)
  · have e : c ≠ a := fun z => n (z ▸ ha)
    rw [upd_ne e]
    exact g.oth c o' (by rw [upd_ne e]; exact r) n
theorem dictAt_some {it : CI} {ρ : Rho} {S : Sto} {k : Nat} (h : dictAt it ρ S = some k) : ∃ kvs, S[k]? = some (.dK kvs) := by
  unfold dictAt at h
  split at h
  · split at h
    · split at h
      · rename_i hS
        cases h
        exact ⟨_, hS⟩
      · cases h
    · cases h
  · cases h
theorem blkC_eq (N : List Str) (sc scope : Scope) (own : List (Str × Nat)) : blkC' N sc scope own = blkC N sc scope own := rfl
/-- a comprehension's reading, the dict that it walks locked -/
theorem lc_all {K : PySem.W.Frag} {mg : Str → Option Value} {it : CI} {g : CP} {ifs : CEs} {elt : CE} {vs : List Nat} (hv : ∀ x ∈ pNames g, x ∈ vs) {σ : L2.St} {H : Hp} {Q : VK} (h : tE K mg W P (.lc g it ifs vs elt) σ H Q) :
    tLc (tI K mg W P it) (gP K vs g) (tG K mg RelEq noWX (evIfs P ifs)) (tE K mg noWX P elt) vs σ H Q ∨ tLockE (tLc (tI K mg W P it) (gP K vs g) (tG K mg RelEq noWX (evIfs P ifs)) (tE K mg noWX P elt) vs) σ H Q := by
  obtain ⟨φ, ρ, S, s, r, h⟩ := h
  replace h : PostG K mg (RelD K) (lcD (dictAt it ρ S) (lcA (evI P it ρ) (turnL P g ifs vs elt ρ)) S) φ H Q fun cls d H' => W cls d σ H' := h
  cases hd : dictAt it ρ S with
  | none =>
    rw [hd] at h
    exact .inl (lc_imp hv s r h)
  | some k =>
    rw [hd] at h
    refine .inr ?_
    obtain ⟨kvs, hS⟩ := dictAt_some hd
    obtain ⟨a, ha, ws, hH, hw⟩ := s.addr hS
    have hl : lockS k S = some (S.set k (.fK kvs)) := by
      unfold lockS
      rw [hS]
    unfold lcD at h
    simp only [hl] at h
    refine ⟨a, .dK ws, hH, trivial, fun od => ?_⟩
    have g1 : Grow φ H φ (upd H a (.frz od (.dK ws))) := Grow.write (List.mem_of_getElem? ha) hH (fun _ => nofun) (fun _ _ => nofun)
    have s1 : Sim K φ (S.set k (.fK kvs)) (upd H a (.frz od (.dK ws))) := s.write ha hH (fun _ => nofun) (fun _ _ => nofun) g1.toGr0 ⟨od, ws, upd_same, hw.grow g1⟩
    refine lc_imp hv s1 (r.grow g1) ?_
    generalize hb : lcA (evI P it ρ) (turnL P g ifs vs elt ρ) (S.set k (.fK kvs)) = b at h
    cases b with
    | fail => exact h.elim
    | exc c x S' => exact h.elim
    | ok d S2 =>
      intro φ2 y H2 g2 s2 r2
      have h2 : H2 a = some (.frz od (.dK ws)) := g2.frzA a od (.dK ws) upd_same
      refine ⟨h2, ?_⟩
      have ha2 := g2.at ha
      replace h : PostG K mg (RelD K) (.of (unlockS k d S2)) φ H Q fun cls d H' => W cls d σ H' := h
      obtain ⟨d', S', e, kk⟩ := PostG.noexc h
      unfold unlockS at e
      split at e
      · rename_i kvs' hS2
        cases e
        obtain ⟨o, ws', h3, h4⟩ := s2.at_ _ _ _ hS2 ha2
        rw [h2] at h3
        cases h3
        have t := Gr0.thaw (φ := φ2) (x := .dK ws) h2
        exact kk φ2 y _ (Grow.locked (List.mem_of_getElem? ha) hH g2) (s2.write ha2 h2 (fun _ => nofun) (fun _ _ e => by cases e; exact ⟨_, rfl⟩) t ⟨ws, upd_same, h4.grow0 t⟩) (r2.grow0 t)
      · cases e
theorem s_lc (ok : Ok X C P W) {elt tg iter : Expr} {ifs : List Expr} {scope : Scope} {own : List (Str × Nat)} {pos : Pos} {it : CI} {g : CP} {cifs : CEs} {celt : CE} (hb : blkC' C.N C.sc scope own = true) (hk : scope.kind = .function) (hv : ∀ x ∈ pNames g, x ∈ own.map (·.2)) (hs : ∀ x, foldedSetIterable iter X.env x = pure x)
    (hi : PI X tg iter (tI X.K X.mg W P it)) (hg : ∀ (s : Shared) (H : Hp) (D : Addr) (cl : List (Str × Addr)) (fp : List Addr), PG (X.blk s H scope (compEnvC scope cl D X.env) fp) tg (gP X.K (own.map (·.2)) g))
    (ht : ∀ (s : Shared) (H : Hp) (D : Addr) (cl : List (Str × Addr)) (fp : List Addr), PTs (X.blk s H scope (compEnvC scope cl D X.env) fp) ifs (tG X.K X.mg RelEq noWX (evIfs P cifs)))
    (he : ∀ (s : Shared) (H : Hp) (D : Addr) (cl : List (Str × Addr)) (fp : List Addr), SE (X.blk s H scope (compEnvC scope cl D X.env) fp) P noWX elt celt) : SE X P W (.ListComp elt [⟨tg, iter, ifs, 0⟩] scope pos) (.lc g it cifs (own.map (·.2)) celt) := by
  have hb' : BlkOk X.N X.env.scope scope own := by
    rw [ok.N, ok.sc]
    exact blkOk_by (by rw [← blkC_eq]; exact hb)
  have base : PE X (.ListComp elt [⟨tg, iter, ifs, 0⟩] scope pos) _ := pe_lc (te := tE X.K X.mg noWX P celt) ok.calm (by rw [ok.N]; exact ok.nd) hi hb' hg ht he hs
  exact PE.imp (PE.or base (pe_lock base)) fun σ H Q h => lc_all hv h
/-- name = [..] on one line -/
theorem s_setLc (ok : Ok X C P W) {elt tg iter : Expr} {ifs : List Expr} {scope : Scope} {own : List (Str × Nat)} {pos py spos : Pos} {it : CI} {g : CP} {cifs : CEs} {celt : CE} {y : Str} {i : Nat} (hb : blkC' C.N C.sc scope own = true) (hk : scope.kind = .function) (hv : ∀ x ∈ pNames g, x ∈ own.map (·.2)) (hs : ∀ x, foldedSetIterable iter X.env x = pure x)
    (hi : PI X tg iter (tI X.K X.mg W P it)) (hg : ∀ (s : Shared) (H : Hp) (D : Addr) (cl : List (Str × Addr)) (fp : List Addr), PG (X.blk s H scope (compEnvC scope cl D X.env) fp) tg (gP X.K (own.map (·.2)) g))
    (ht : ∀ (s : Shared) (H : Hp) (D : Addr) (cl : List (Str × Addr)) (fp : List Addr), PTs (X.blk s H scope (compEnvC scope cl D X.env) fp) ifs (tG X.K X.mg RelEq noWX (evIfs P cifs)))
    (he : ∀ (s : Shared) (H : Hp) (D : Addr) (cl : List (Str × Addr)) (fp : List Addr), SE (X.blk s H scope (compEnvC scope cl D X.env) fp) P noWX elt celt) (hy : idx C.N y = some i) (hyl : C.sc.names.lookup y = some .local)
    (hsw : swapsWith (.ListComp elt [⟨tg, iter, ifs, 0⟩] scope pos) (some (.Name y py)) spos.line X.env = pure true) : PS X (.Assign [.Name y py] (.ListComp elt [⟨tg, iter, ifs, 0⟩] scope pos) spos) (tAsg (tE X.K X.mg W P (.lc g it cifs (own.map (·.2)) celt)) (gName i)) := by
  have hb' : BlkOk X.N X.env.scope scope own := by
    rw [ok.N, ok.sc]
    exact blkOk_by (by rw [← blkC_eq]; exact hb)
  have base : PS X (.Assign [.Name y py] (.ListComp elt [⟨tg, iter, ifs, 0⟩] scope pos) spos) _ := ps_setLc (te := tE X.K X.mg noWX P celt) ok.calm (by rw [ok.N]; exact ok.nd) (by rw [ok.N]; exact idx_get hy) (by rw [ok.sc]; exact hyl) hsw hi hb' hg ht he hs
  refine ⟨fun pins s σ H D I h => ?_⟩
  rcases lc_all hv h with h | h
  · exact base.run pins s σ H D I h
  · exact (ps_lock base).run pins s σ H D I h
end
end G

end

section
set_option Elab.async false
set_option linter.all false
set_option maxRecDepth 100000
/-! G13: all expressions. -/
namespace G
open PySem PySem.Spec PyProof.Rows L2
theorem obind {α β : Type} {a : Option α} {f : α → Option β} {b : β} (h : (a >>= f) = some b) : ∃ x, a = some x ∧ f x = some b := Option.bind_eq_some_iff.mp h
section
variable {X : Cx} {C : CC} {P : Par} {W : WX}
/-- what is to be shown of an expression -/
def Both (X : Cx) (P : Par) (W : WX) (e : Expr) (c : CE) : Prop := SE X P W e c ∧ ST X P W e c
theorem both_of {e : Expr} {c : CE} (h : SE X P W e c) (ht : evB P c = Ev.of (evB P c).v) (he : ∀ whole, isTrue e X.env whole = (do let v ← whole; standAt e.pos; holding [v] (truthy v))) : Both X P W e c := ⟨h, s_truth h ht he⟩
theorem cE_star {e : Expr} {c : CE} (h : cE C e = some c) : isStar e = false := by
  cases e with
  | Starred v p => rw [cE.eq_def] at h; cases h
  | _ => rfl
theorem ps_of (ih : ∀ e c, sizeOf e < n → cE C e = some c → Both X P W e c) : ∀ {es : List Expr} {cs : CEs}, sizeOf es < n → cEs C es = some cs → Ps X P W es cs
  | [], cs, _, h => by
    rw [cEs.eq_def] at h
    cases h
    exact .nil
  | e :: es, cs, hn, h => by
    have hn' : sizeOf e < n ∧ sizeOf es < n := by
      rw [List.cons.sizeOf_spec] at hn
      omega
    rw [cEs.eq_def] at h
    split at h
    · rename_i h1; cases h1
    · rename_i e' p r h1
      cases h1
      obtain ⟨c, e1, h⟩ := obind h
      obtain ⟨cs', e2, h⟩ := obind h
      cases h
      have hn2 : sizeOf e' < n := by
        have := hn'.1
        rw [Expr.Starred.sizeOf_spec] at this
        omega
      exact .star (ih e' c hn2 e1).1 (ps_of ih hn'.2 e2)
    · rename_i e' r h0 h1
      cases h1
      obtain ⟨c, e1, h⟩ := obind h
      obtain ⟨cs', e2, h⟩ := obind h
      cases h
      have hb := ih e c hn'.1 e1
      exact .cons (cE_star e1) hb.1 hb.2 (ps_of ih hn'.2 e2)
theorem ks_of (ih : ∀ e c, sizeOf e < n → cE C e = some c → Both X P W e c) : ∀ {ks : List Keyword} {q : List Str × CEs}, sizeOf ks < n → cKs C ks = some q → Ks X P W ks q.1 q.2
  | [], q, _, h => by
    rw [cKs.eq_def] at h
    cases h
    exact .nil
  | ⟨some m, e, p⟩ :: ks, q, hn, h => by
    rw [List.cons.sizeOf_spec, Keyword.mk.sizeOf_spec] at hn
    rw [cKs.eq_def] at h
    obtain ⟨c, e1, h⟩ := obind h
    obtain ⟨q', e2, h⟩ := obind h
    cases h
    exact .cons (ih e c (by omega) e1).1 (ks_of ih (by omega) e2)
  | ⟨none, e, p⟩ :: ks, q, hn, h => by
    rw [cKs.eq_def] at h
    cases h
theorem prs_of (ih : ∀ e c, sizeOf e < n → cE C e = some c → Both X P W e c) : ∀ {ks : List (Option Expr)} {vs : List Expr} {ck cv cs : CEs}, sizeOf ks < n → sizeOf vs < n → vs.any isStar = false → cOs C ks = some ck → cEs C vs = some cv → inter ck cv = some cs → Prs X P W ks vs cs
  | [], [], ck, cv, cs, _, _, _, h1, h2, h3 => by
    rw [cOs.eq_def] at h1
    rw [cEs.eq_def] at h2
    cases h1
    cases h2
    cases h3
    exact .nil
  | [], v :: vs, ck, cv, cs, _, _, hs, h1, h2, h3 => by
    rw [cOs.eq_def] at h1
    cases h1
    cases cv with
    | cons _ _ _ => simp [inter] at h3
    | nil =>
      rw [cEs.eq_def] at h2
      split at h2
      · rename_i e; cases e
      · obtain ⟨_, _, h2⟩ := obind h2
        obtain ⟨_, _, h2⟩ := obind h2
        cases h2
      · obtain ⟨_, _, h2⟩ := obind h2
        obtain ⟨_, _, h2⟩ := obind h2
        cases h2
  | none :: ks, vs, ck, cv, cs, _, _, _, h1, h2, h3 => by
    rw [cOs.eq_def] at h1
    cases h1
  | some k :: ks, [], ck, cv, cs, _, _, _, h1, h2, h3 => by
    rw [cEs.eq_def] at h2
    cases h2
    rw [cOs.eq_def] at h1
    obtain ⟨_, _, h1⟩ := obind h1
    obtain ⟨_, _, h1⟩ := obind h1
    cases h1
    cases h3
  | some k :: ks, v :: vs, ck, cv, cs, hk, hv, hs, h1, h2, h3 => by
    rw [List.cons.sizeOf_spec, Option.some.sizeOf_spec] at hk
    rw [List.cons.sizeOf_spec] at hv
    rw [List.any_cons, Bool.or_eq_false_iff] at hs
    rw [cOs.eq_def] at h1
    obtain ⟨c1, e1, h1⟩ := obind h1
    obtain ⟨cs1, e2, h1⟩ := obind h1
    cases h1
    rw [cEs.eq_def] at h2
    split at h2
    · rename_i e; cases e
    · rename_i e; cases e; simp [isStar] at hs
    · rename_i e
      cases e
      obtain ⟨c2, e3, h2⟩ := obind h2
      obtain ⟨cs2, e4, h2⟩ := obind h2
      cases h2
      obtain ⟨r, e5, e6⟩ := Option.map_eq_some_iff.mp h3
      cases e6
      exact .cons (ih k c1 (by omega) e1).1 (ih v c2 (by omega) e3).1 (prs_of ih (by omega) (by omega) hs.2 e2 e4 e5)
theorem so_of (ih : ∀ e c, sizeOf e < n → cE C e = some c → Both X P W e c) {o : Option Expr} {c : CO} (hn : sizeOf o < n) (h : cO C o = some c) : SO X P W o c := by
  cases o with
  | none => rw [cO.eq_def] at h; cases h; exact s_non
  | some e =>
    rw [cO.eq_def] at h
    obtain ⟨c', e1, e2⟩ := Option.map_eq_some_iff.mp h
    cases e2
    exact s_som (ih e c' (by rw [Option.some.sizeOf_spec] at hn; omega) e1).1
theorem s_cCall (ok : Ok X C P W) {f : Str} {e : Expr} {es : List Expr} {cs : CEs} {c : CE} {p pos : Pos} (hg : C.glob f = true) (h : cCall C f cs = some c) (hs : (e :: es).any isStar = false) (hp : Ps X P W (e :: es) cs) : Both X P W (.Call (.Name f p) (e :: es) [] pos) c := by
  unfold cCall at h
  split at h
  · rename_i hf
    cases h
    exact both_of (s_call ok hg (by simpa using hf) hs hp) rfl fun _ => rfl
  · split at h
    · rename_i b hb
      cases h
      obtain ⟨h1, rfl⟩ := strIn_some hb
      exact both_of (s_bi ok hg h1 hs hp) rfl fun _ => rfl
    · cases h
end
theorem no_set {e : Expr} {c : CE} {env : PySem.Env} (h : cE C e = some c) (x : Value) : foldedSetIterable e env x = pure x := by
  cases e with
  | Set es k p => rw [cE.eq_def] at h; cases h
  | _ => rfl
theorem not_tuple {e : Expr} (h : isTuple e = true) : ∃ es k p, e = .Tuple es k p := by
  cases e with
  | Tuple es k p => exact ⟨es, k, p, rfl⟩
  | _ => cases h
/-- what a for or a comprehension walks -/
theorem s_iter {X : Cx} {C : CC} {P : Par} {W : WX} (ok : Ok X C P W) {n : Nat} (ih : ∀ e c, sizeOf e < n → cE C e = some c → Both X P W e c) {tg iter : Expr} {it : CI} (hn : sizeOf iter < n) (h : cI C tg iter = some it) : PI X tg iter (tI X.K X.mg W P it) ∧ ∀ x, foldedSetIterable iter X.env x = pure x := by
  have seq : (cE C iter).map CI.seq = some it → PI X tg iter (tI X.K X.mg W P it) ∧ ∀ x, foldedSetIterable iter X.env x = pure x := fun h => by
    obtain ⟨c, e1, e2⟩ := Option.map_eq_some_iff.mp h
    cases e2
    exact ⟨s_iseq (ih iter c hn e1).1, no_set e1⟩
  unfold cI at h
  split at h
  · rename_i f p a pos
    have ha : sizeOf a < n := by simp at hn; omega
    split at h
    · rename_i hf
      split at h
      · rename_i hg
        obtain ⟨c, e1, e2⟩ := Option.map_eq_some_iff.mp h
        cases e2
        cases (beq_iff_eq.mp hf)
        simp only [Bool.and_eq_true, Bool.not_eq_true'] at hg
        exact ⟨s_rng1 ok hg.1 hg.2 (ih a c ha e1).1, fun _ => rfl⟩
      · cases h
    · split at h
      · rename_i hf
        split at h
        · rename_i hg
          obtain ⟨c, e1, e2⟩ := Option.map_eq_some_iff.mp h
          cases e2
          cases (beq_iff_eq.mp hf)
          simp only [Bool.and_eq_true, Bool.not_eq_true'] at hg
          obtain ⟨es, k, p2, rfl⟩ := not_tuple hg.2
          exact ⟨s_enum ok hg.1.1 hg.1.2 (ih a c ha e1).1, fun _ => rfl⟩
        · cases h
      · exact seq h
  · rename_i f p a b pos
    have ha : sizeOf a < n := by simp at hn; omega
    have hb : sizeOf b < n := by simp at hn; omega
    split at h
    · rename_i hf
      split at h
      · rename_i hg
        obtain ⟨c, e1, h⟩ := obind h
        obtain ⟨d, e2, h⟩ := obind h
        cases h
        cases (beq_iff_eq.mp hf)
        simp only [Bool.and_eq_true, Bool.not_eq_true'] at hg
        exact ⟨s_rng2 ok hg.1.1 hg.1.2 hg.2 (ih a c ha e1).1 (ih b d hb e2).1, fun _ => rfl⟩
      · cases h
    · split at h
      · rename_i hf
        split at h
        · rename_i hg
          obtain ⟨c, e1, h⟩ := obind h
          obtain ⟨d, e2, h⟩ := obind h
          cases h
          cases (beq_iff_eq.mp hf)
          simp only [Bool.and_eq_true, Bool.not_eq_true'] at hg
          obtain ⟨es, k, p2, rfl⟩ := not_tuple hg.2
          exact ⟨s_zip ok hg.1.1.1 hg.1.1.2 hg.1.2 (ih a c ha e1).1 (ih b d hb e2).1, fun _ => rfl⟩
        · cases h
      · exact seq h
  · exact seq h
theorem main : ∀ (n : Nat) {X : Cx} {C : CC} {P : Par} {W : WX} (ok : Ok X C P W) (e : Expr) (c : CE), sizeOf e < n → cE C e = some c → Both X P W e c
  | 0, _, _, _, _, _, _, _, hn, _ => absurd hn (Nat.not_lt_zero _)
  | n + 1, X, C, P, W, ok, e, c, hn, h => by
    have ih : ∀ e c, sizeOf e < n → cE C e = some c → Both X P W e c := fun e c => main n ok e c
    rw [cE.eq_def] at h
    split at h
    · obtain ⟨d, e1, e2⟩ := Option.map_eq_some_iff.mp h
      cases e2
      exact both_of (s_const e1) rfl fun _ => rfl
    · refine both_of (s_name ok h) ?_ fun _ => rfl
      unfold cN at h
      split at h
      · cases h
      · split at h
        · obtain ⟨i, _, e2⟩ := Option.map_eq_some_iff.mp h
          cases e2; rfl
        · obtain ⟨i, _, e2⟩ := Option.map_eq_some_iff.mp h
          cases e2; rfl
        · obtain ⟨i, _, e2⟩ := Option.map_eq_some_iff.mp h
          cases e2; rfl
        · split at h
          · cases h; rfl
          · cases h
        · cases h
    · rename_i a op b pos
      rw [Expr.BinOp.sizeOf_spec] at hn
      split at h
      · obtain ⟨ca, e1, h⟩ := obind h
        obtain ⟨cb, e2, h⟩ := obind h
        cases h
        exact both_of (s_bin (ih a ca (by omega) e1).1 (ih b cb (by omega) e2).1) rfl fun _ => rfl
      · cases h
    · rename_i a pos
      rw [Expr.UnaryOp.sizeOf_spec] at hn
      obtain ⟨ca, e1, e2⟩ := Option.map_eq_some_iff.mp h
      cases e2
      exact both_of (s_neg (ih a ca (by omega) e1).1) rfl fun _ => rfl
    · rename_i a pos
      rw [Expr.UnaryOp.sizeOf_spec] at hn
      obtain ⟨ca, e1, e2⟩ := Option.map_eq_some_iff.mp h
      cases e2
      have hb := ih a ca (by omega) e1
      exact ⟨s_not hb.1, t_not hb.2⟩
    · rename_i a op b pos
      simp at hn
      split at h
      · cases h
      · rename_i hs
        obtain ⟨ca, e1, h⟩ := obind h
        obtain ⟨cb, e2, h⟩ := obind h
        cases h
        have ha := ih a ca (by omega) e1
        have hb := ih b cb (by omega) e2
        have hs' : isSet b = false := by simpa using hs
        exact ⟨s_cmp ok.un hs' ha.1 hb.1, t_cmp ok.un hs' ha.1 hb.1⟩
    · rename_i a o1 o2 b c' pos
      simp at hn
      split at h
      · cases h
      · rename_i hs
        obtain ⟨ca, e1, h⟩ := obind h
        obtain ⟨cb, e2, h⟩ := obind h
        obtain ⟨cc, e3, h⟩ := obind h
        cases h
        have ha := ih a ca (by omega) e1
        have hb := ih b cb (by omega) e2
        have hc := ih c' cc (by omega) e3
        have hs' : isSet b = false ∧ isSet c' = false := by simpa using hs
        exact ⟨s_chn ok.un hs'.1 hs'.2 ha.1 hb.1 hc.1, t_chn ok.un hs'.1 hs'.2 ha.1 hb.1 hc.1⟩
    · rename_i e' es pos
      simp at hn
      split at h
      · cases h
      · rename_i hs
        obtain ⟨c', e1, h⟩ := obind h
        obtain ⟨cs, e2, h⟩ := obind h
        cases h
        have he := ih e' c' (by omega) e1
        have hp := ps_of ih (by omega) e2
        have hs' : es.any isStar = false := by simpa using hs
        exact ⟨s_and he.1 hp hs', (w_and he.2 hp hs').pt⟩
    · rename_i e' es pos
      simp at hn
      split at h
      · cases h
      · rename_i hs
        obtain ⟨c', e1, h⟩ := obind h
        obtain ⟨cs, e2, h⟩ := obind h
        cases h
        have he := ih e' c' (by omega) e1
        have hp := ps_of ih (by omega) e2
        have hs' : es.any isStar = false := by simpa using hs
        exact ⟨s_or he.1 hp hs', (w_or he.2 hp hs').pt⟩
    · rename_i c' a b pos
      simp at hn
      obtain ⟨cc, e1, h⟩ := obind h
      obtain ⟨ca, e2, h⟩ := obind h
      obtain ⟨cb, e3, h⟩ := obind h
      cases h
      have hc := ih c' cc (by omega) e1
      have ha := ih a ca (by omega) e2
      have hb := ih b cb (by omega) e3
      exact ⟨s_ite hc.2 ha.1 hb.1, t_ite hc.2 ha.2 hb.2⟩
    · rename_i f p a t p2 pos
      simp at hn
      split at h
      · rename_i hg
        split at h
        · rename_i hf
          split at h
          · rename_i ht
            obtain ⟨ca, e1, h⟩ := obind h
            obtain ⟨T, e2, h⟩ := obind h
            cases h
            cases (beq_iff_eq.mp hf)
            obtain ⟨hT, rfl⟩ := strIn_some e2
            exact both_of (s_isi1 ok hT hg ht (cE_star e1) (ih a ca (by omega) e1).1) rfl fun _ => rfl
          · cases h
        · split at h
          · cases h
          · rename_i hs
            obtain ⟨ca, e1, h⟩ := obind h
            obtain ⟨cb, e2, h⟩ := obind h
            have ha := ih a ca (by omega) e1
            have hb := ih (.Name t p2) cb (by simp; omega) (by rw [cE.eq_def]; exact e2)
            have hs' : isStar a = false := by simpa using hs
            exact s_cCall ok hg h (by rw [List.any_cons, hs']; rfl) (.cons hs' ha.1 ha.2 (.cons rfl hb.1 hb.2 .nil))
      · cases h
    · rename_i f p a ts k p2 pos
      simp at hn
      split at h
      · rename_i hg
        split at h
        · rename_i hf
          obtain ⟨ca, e1, h⟩ := obind h
          obtain ⟨Ts, e2, h⟩ := obind h
          split at h
          · rename_i hl
            cases h
            cases (beq_iff_eq.mp hf)
            exact both_of (s_isi ok e2 hg (Nat.le_trans hl (by decide)) (cE_star e1) (ih a ca (by omega) e1).1) rfl fun _ => rfl
          · cases h
        · split at h
          · cases h
          · rename_i hs
            obtain ⟨ca, e1, h⟩ := obind h
            obtain ⟨cs, e2, h⟩ := obind h
            have ha := ih a ca (by omega) e1
            have hb := ih (.Tuple ts k p2) (.tup cs) (by simp; omega) (by rw [cE.eq_def]; simp only [e2]; rfl)
            have hs' : isStar a = false := by simpa using hs
            exact s_cCall ok hg h (by rw [List.any_cons, hs']; rfl) (.cons hs' ha.1 ha.2 (.cons rfl hb.1 hb.2 .nil))
      · cases h
    · rename_i f p e' es pos _ _
      simp at hn
      split at h
      · rename_i hg
        dsimp only at h
        by_cases hs : isStar e' = true
        · rw [if_pos hs] at h; cases h
        · rw [if_neg hs] at h
          obtain ⟨ca, e1, h⟩ := obind h
          by_cases hs2 : es.any isStar = true
          · rw [if_pos hs2] at h; cases h
          · rw [if_neg hs2] at h
            obtain ⟨cs, e2, h⟩ := obind h
            have ha := ih e' ca (by omega) e1
            have hp := ps_of ih (by omega) e2
            have hs' : isStar e' = false := by simpa using hs
            have hs2' : es.any isStar = false := by simpa using hs2
            exact s_cCall ok hg h (by rw [List.any_cons, hs', hs2']; rfl) (.cons hs' ha.1 ha.2 hp)
      · cases h
    · rename_i f p k ks pos
      simp at hn
      split at h
      · rename_i hg
        obtain ⟨q, e1, h⟩ := obind h
        cases h
        simp only [Bool.and_eq_true] at hg
        exact both_of (s_callk ok hg.1 (by simpa using hg.2) (ks_of ih (by simp; omega) e1)) rfl fun _ => rfl
      · cases h
    · rename_i o m ap es cp
      simp at hn
      dsimp only at h
      by_cases hg : (ap.endLine == cp.line && es.length == 1) = true
      · rw [if_pos hg] at h
        obtain ⟨m', e1, h⟩ := obind h
        by_cases h0 : isCall0 o = true
        · rw [if_pos h0] at h; cases h
        · rw [if_neg h0] at h
          obtain ⟨co, e2, h⟩ := obind h
          by_cases hs : es.any isStar = true
          · rw [if_pos hs] at h; cases h
          · rw [if_neg hs] at h
            obtain ⟨cs, e3, h⟩ := obind h
            cases h
            obtain ⟨hm, rfl⟩ := strIn_some e1
            simp only [Bool.and_eq_true] at hg
            have hs' : es.any isStar = false := by simpa using hs
            have h0' : isCall0 o = false := by simpa using h0
            have hp := ps_of ih (by omega) e3
            match es, hg, hs', hp with
            | [e'], hg, hs', hp =>
              have hs2 : isStar e' = false := by simpa using hs'
              exact both_of (s_mt hm (ih o co (by omega) e2).1 h0' hg.1 hs2 hp) rfl fun _ => rfl
            | [], hg, _, _ => exact absurd hg.2 (by simp)
            | _ :: _ :: _, hg, _, _ => exact absurd hg.2 (by simp)
      · rw [if_neg hg] at h; cases h
    · rename_i a k p1 p2 p3 pos
      simp at hn
      obtain ⟨ca, e1, e2⟩ := Option.map_eq_some_iff.mp h
      cases e2
      exact both_of (s_rev (ih a ca (by omega) e1).1) rfl fun _ => rfl
    · rename_i a lo hi p2 pos
      simp at hn
      obtain ⟨ca, e1, h⟩ := obind h
      obtain ⟨cl, e2, h⟩ := obind h
      obtain ⟨ch, e3, h⟩ := obind h
      cases h
      exact both_of (s_sl (ih a ca (by omega) e1).1 (so_of ih (by omega) e2) (so_of ih (by omega) e3)) rfl fun _ => rfl
    · rename_i a i pos _ _
      simp at hn
      split at h
      · cases h
      · rename_i hs
        obtain ⟨ca, e1, h⟩ := obind h
        obtain ⟨ci, e2, h⟩ := obind h
        cases h
        exact both_of (s_ix ok.un (by simpa using hs) (ih a ca (by omega) e1).1 (ih i ci (by omega) e2).1) rfl fun _ => rfl
    · rename_i es pos
      simp at hn
      obtain ⟨cs, e1, e2⟩ := Option.map_eq_some_iff.mp h
      cases e2
      exact both_of (s_lst (ps_of ih (by omega) e1)) rfl fun _ => rfl
    · rename_i es k pos
      simp at hn
      obtain ⟨cs, e1, e2⟩ := Option.map_eq_some_iff.mp h
      cases e2
      exact both_of (s_tup (ps_of ih (by omega) e1)) rfl fun _ => rfl
    · rename_i ks vs pos
      simp at hn
      split at h
      · rename_i hg
        obtain ⟨ck, e1, h⟩ := obind h
        obtain ⟨cv, e2, h⟩ := obind h
        obtain ⟨cs, e3, h⟩ := obind h
        cases h
        simp only [Bool.and_eq_true, Bool.not_eq_true', decide_eq_true_eq, beq_iff_eq] at hg
        have hp := prs_of ih (by omega) (by omega) hg.1.2 e1 e2 e3
        refine both_of ?_ rfl fun _ => rfl
        cases ks with
        | nil =>
          cases vs with
          | nil => cases hp; exact s_dct0
          | cons v vs => cases hp
        | cons k ks => exact s_dct hp (by simp) hg.2 hg.1.1.1 hg.1.1.2
      · cases h
    · rename_i elt tg iter ifs scope pos
      simp at hn
      dsimp only at h
      obtain ⟨it, e1, h⟩ := obind h
      obtain ⟨g, e2, h⟩ := obind h
      by_cases hb : (!blkC' C.N C.sc scope ((pNames g).map fun i => (C.N.getD i Str.empty, i))) = true
      · rw [if_pos hb] at h; cases h
      · rw [if_neg hb] at h
        by_cases hs : (ifs.any isStar || decide (1 < ifs.length)) = true
        · rw [if_pos hs] at h; cases h
        · rw [if_neg hs] at h
          obtain ⟨cifs, e3, h⟩ := obind h
          obtain ⟨celt, e4, h⟩ := obind h
          cases h
          replace e1 : cI C tg iter = some it := e1
          obtain ⟨hi, hset⟩ := s_iter ok ih (by omega) e1
          have hb' : blkC' C.N C.sc scope ((pNames g).map fun i => (C.N.getD i Str.empty, i)) = true := by simpa using hb
          have hk : scope.kind = .function := by
            unfold blkC' at hb'
            simp only [Bool.and_eq_true] at hb'
            have := hb'.1.1.1
            split at this
            · assumption
            · cases this
          have ihb : ∀ (s : Shared) (H : Hp) (D : Addr) (cl : List (Str × Addr)) (fp : List Addr) (e : Expr) (c : CE), sizeOf e < n → cE (blkOf C scope) e = some c → Both (X.blk s H scope (compEnvC scope cl D X.env) fp) P noWX e c := fun s H D cl fp e c => main n (ok.blk hk s H D cl fp) e c
          refine both_of (s_lc ok hb' hk (fun x hx => by simpa using hx) hset hi (fun s H D cl fp => s_cP (ok.blk hk s H D cl fp).n _ e2 fun x hx => by simpa using hx) (fun s H D cl fp => ?_) fun s H D cl fp => (ihb s H D cl fp elt celt (by omega) e4).1) rfl fun _ => rfl
          have hs' : ifs.any isStar = false ∧ ifs.length ≤ 1 := by simpa using hs
          have hp : Ps (X.blk s H scope (compEnvC scope cl D X.env) fp) P noWX ifs cifs := ps_of (ihb s H D cl fp) (by omega) e3
          match ifs, hs', hp with
          | [], _, .nil => exact s_ifs0
          | [c], _, .cons _ _ ht .nil => exact s_ifs1 ht
          | [_], hs', .star _ .nil => simp [isStar] at hs'
          | _ :: _ :: _, hs', _ => exact absurd hs'.2 (by simp)
    · cases h
end G

end

section
set_option Elab.async false
set_option linter.all false
set_option maxRecDepth 100000
/-! G14: statements. -/
namespace G
open PySem PySem.Spec PyProof.Rows L2
/-- what is wanted behind a statement -/
def PostS (K : PySem.W.Frag) (mg : Str → Option Value) (W : WX) (D : Ends) (φ : List Addr) (H : Hp) : RS → Prop
  | .fl .next ρ' S' => ∀ φ' σ' H', Grow φ H φ' H' → Sim K φ' S' H' → RelR K φ' H' ρ' σ' → D.nx σ' H'
  | .fl .brk ρ' S' => ∀ φ' σ' H', Grow φ H φ' H' → Sim K φ' S' H' → RelR K φ' H' ρ' σ' → D.bk σ' H'
  | .fl .cont ρ' S' => ∀ φ' σ' H', Grow φ H φ' H' → Sim K φ' S' H' → RelR K φ' H' ρ' σ' → D.ct σ' H'
  | .fl (.ret d) ρ' S' => ∀ φ' v H', Grow φ H φ' H' → Sim K φ' S' H' → RelD K φ' H' d v → D.rt v H'
  | .exc c x ρ' S' => ∀ φ' σ' cls dd H', Grow φ H φ' H' → Sim K φ' S' H' → RelR K φ' H' ρ' σ' → RelX K mg φ' H' c x cls dd → W cls dd σ' H'
  | .fail => False
/-- the reading of a statement -/
def tS (K : PySem.W.Frag) (mg : Str → Option Value) (W : WX) (ex : Rho → Sto → RS) : TS := fun D σ H => ∃ φ ρ S, Sim K φ S H ∧ RelR K φ H ρ σ ∧ PostS K mg W D φ H (ex ρ S)
section
variable {K : PySem.W.Frag} {mg : Str → Option Value} {W W' : WX} {D D' : Ends} {φ φ' : List Addr} {H H' : Hp} {σ : L2.St} {ρ : Rho}
theorem PostS.grow {r : RS} (h : PostS K mg W D φ H r) (g : Grow φ H φ' H') : PostS K mg W D φ' H' r := by
  cases r with
  | fl f ρ S => cases f <;> exact fun φ2 a H2 g2 => h φ2 a H2 (g.trans g2)
  | exc c x ρ S => exact fun φ2 σ2 a dd H2 g2 => h φ2 σ2 a dd H2 (g.trans g2)
  | fail => exact h
/-- behind an evaluation -/
theorem PostS.rs {α β : Type} {R : List Addr → Hp → α → β → Prop} {r : Res α} {k : α → Sto → RS} (h : PostS K mg W D φ H (r.rs ρ k)) (rr : RelR K φ H ρ σ) :
    PostG K mg R r φ H (fun y H1 => ∃ φ1 S1 a, Grow φ H φ1 H1 ∧ Sim K φ1 S1 H1 ∧ R φ1 H1 a y ∧ r = .ok a S1 ∧ PostS K mg W D φ1 H1 (k a S1)) fun cls d H' => W cls d σ H' := by
  cases r with
  | ok a S1 => exact fun φ1 y H1 g s ra => ⟨φ1, S1, a, g, s, ra, rfl, PostS.grow h g⟩
  | exc c x S1 => exact fun φ1 cls d H1 g s rx => h φ1 σ cls d H1 g s (rr.grow g) rx
  | fail => exact h
/-- behind a statement -/
theorem PostS.seq {r : RS} {k : Rho → Sto → RS} (h : PostS K mg W D φ H (r.seq k)) : PostS K mg W { D with nx := fun σ' H' => tS K mg W k D σ' H' } φ H r := by
  cases r with
  | fl f ρ S =>
    cases f with
    | next => exact fun φ1 σ' H1 g s rr => ⟨φ1, ρ, S, s, rr, PostS.grow h g⟩
    | _ => exact h
  | exc c x ρ S => exact h
  | fail => exact h
end
theorem PS.imp {X : Cx} {e : Stmt} {t t' : TS} (h : PS X e t) (k : ∀ D σ H, t' D σ H → t D σ H) : PS X e t' := ⟨fun pins s σ H D I q => h.run pins s σ H D I (k D σ H q)⟩
theorem PSs.imp {X : Cx} {e : List Stmt} {t t' : TS} (h : PSs X e t) (k : ∀ D σ H, t' D σ H → t D σ H) : PSs X e t' := ⟨fun pins s σ H D I q => h.run pins s σ H D I (k D σ H q)⟩
/-! ### targets -/
/-- stored, and no error comes out -/
def PostN {α β : Type} (K : PySem.W.Frag) (R : List Addr → Hp → α → β → Prop) (r : Res α) (φ : List Addr) (H : Hp) (Q : β → Hp → Prop) : Prop := match r with
  | .ok a S' => ∀ φ' y H', Grow φ H φ' H' → Sim K φ' S' H' → R φ' H' a y → Q y H'
  | _ => False
section
variable {K : PySem.W.Frag} {mg : Str → Option Value} {α β γ δ : Type} {R : List Addr → Hp → α → β → Prop} {R' : List Addr → Hp → γ → δ → Prop} {φ φ' : List Addr} {H H' : Hp} {W : XK}
theorem PostN.grow {r : Res α} {Q : β → Hp → Prop} (h : PostN K R r φ H Q) (g : Grow φ H φ' H') : PostN K R r φ' H' Q := by
  cases r with
  | ok a S1 => exact fun φ2 a H2 g2 => h φ2 a H2 (g.trans g2)
  | exc c x S1 => exact h
  | fail => exact h
theorem PostN.bind {r : Res α} {f : α → Sto → Res γ} {Q : δ → Hp → Prop} (h : PostN K R' (r.bind f) φ H Q) : PostG K mg R r φ H (fun y H1 => ∃ φ1 S1 a, Grow φ H φ1 H1 ∧ Sim K φ1 S1 H1 ∧ R φ1 H1 a y ∧ r = .ok a S1 ∧ PostN K R' (f a S1) φ1 H1 Q) W := by
  cases r with
  | ok a S1 => exact fun φ1 y H1 g s ra => ⟨φ1, S1, a, g, s, ra, rfl, PostN.grow h g⟩
  | exc c x S1 => exact h.elim
  | fail => exact h.elim
end
abbrev RelRR (K : PySem.W.Frag) : List Addr → Hp → Rho → L2.St → Prop := RelR K
/-- a target -/
def gT (K : PySem.W.Frag) (P : Par) (t : CT) : TG := fun v σ H Q => ∃ φ ρ S d, Sim K φ S H ∧ RelR K φ H ρ σ ∧ RelD K φ H d v ∧ PostN K (RelRR K) (asgT P t d ρ S) φ H Q
def gTs (K : PySem.W.Frag) (P : Par) (t : List CT) : TGs := fun v σ H Q => ∃ φ ρ S d, Sim K φ S H ∧ RelR K φ H ρ σ ∧ RelDs K φ H d v ∧ PostN K (RelRR K) (asgTs P t d ρ S) φ H Q
theorem cTs_len {C : CC} : ∀ {es : List Expr} {ps : List CT}, cTs C es = some ps → es.length = ps.length ∧ es.any isStar = false
  | [], ps, h => by unfold cTs at h; cases h; exact ⟨rfl, rfl⟩
  | e :: es, ps, h => by
    unfold cTs at h
    split at h
    · cases h
    · rename_i hs
      split at h
      · rename_i p q e1 e2
        cases h
        obtain ⟨h1, h2⟩ := cTs_len e2
        exact ⟨by rw [List.length_cons, List.length_cons, h1], by rw [List.any_cons, h2]; simpa using hs⟩
      · cases h
theorem asgTs_len {P : Par} {K : PySem.W.Frag} {φ : List Addr} {H : Hp} {Q : L2.St → Hp → Prop} : ∀ {ps : List CT} {ds : List D} {ρ : Rho} {S : Sto}, PostN K (RelRR K) (asgTs P ps ds ρ S) φ H Q → ps.length = ds.length
  | [], [], _, _, _ => rfl
  | [], _ :: _, _, _, h => by simp [asgTs, PostN] at h
  | _ :: _, [], _, _, h => by simp [asgTs, PostN] at h
  | p :: ps, d :: ds, ρ, S, h => by
    unfold asgTs at h
    cases e : asgT P p d ρ S with
    | ok a S1 =>
      rw [e] at h
      rw [List.length_cons, List.length_cons, asgTs_len h]
    | exc c x S1 => rw [e] at h; exact h.elim
    | fail => rw [e] at h; exact h.elim
section
variable {X : Cx} {C : CC} {P : Par} {W : WX}
mutual
theorem s_cT (ok : Ok X C P W) : ∀ {e : Expr} {g : CT}, cT C e = some g → PG X e (gT X.K P g)
  | .Name x pos, g, h => by
    unfold cT at h
    have key : ∀ i, (C.sc.names.lookup x = some .local ∨ (C.sc.names.lookup x = some .cell ∧ C.cel x = true)) → idx C.N x = some i → CT.nm i = g → PG X (.Name x pos) (gT X.K P g) := by
      intro i hl hi e
      subst e
      refine PG.imp (loc_name ok.n hl hi) fun v σ H Q ⟨φ, ρ, S, d, s, r, rd, h⟩ => ?_
      unfold asgT at h
      exact h φ _ H (.refl _ _) s (r.set i rd)
    split at h
    · rename_i hl
      obtain ⟨i, hi, e⟩ := Option.map_eq_some_iff.mp h
      exact key i (.inl hl) hi e
    · rename_i hl
      split at h
      · rename_i hc
        obtain ⟨i, hi, e⟩ := Option.map_eq_some_iff.mp h
        exact key i (.inr ⟨hl, hc⟩) hi e
      · cases h
    · cases h
  | .Subscript o i pos, g, h => by
    unfold cT at h
    split at h
    · cases h
    · rename_i hs
      obtain ⟨co, e1, h⟩ := obind h
      obtain ⟨ci, e2, h⟩ := obind h
      cases h
      have ho := (main _ ok o co (Nat.lt_succ_self _) e1).1
      have hi := (main _ ok i ci (Nat.lt_succ_self _) e2).1
      have un := ok.un
      refine PG.imp (pg_sub ho hi (set_G (by omega)) (fun v => by cases i <;> first | rfl | simp [isSlice] at hs)) fun v σ H Q ⟨φ, ρ, S, d, s, r, rd, h⟩ => ?_
      unfold asgT at h
      refine ⟨φ, ρ, S, s, r, (PostN.bind (R := RelD X.K) h).mono fun y H1 ⟨φ1, S1, a, g1, s1, ra, _, h1⟩ => ⟨φ1, ρ, S1, s1, r.grow g1, (PostN.bind (R := RelD X.K) h1).mono fun z H2 ⟨φ2, S2, b, g2, s2, rb, _, h2⟩ => ?_⟩⟩
      refine setD_get (mg := X.mg) s2 (ra.grow g2) rb ((rd.grow g1).grow g2) ?_
      refine (PostN.bind (mg := X.mg) (R := fun _ _ (_ : Unit) (_ : Unit) => True) h2).mono fun _ H3 ⟨φ3, S3, _, g3, s3, _, _, h3⟩ => ?_
      exact h3 φ3 _ H3 (.refl _ _) s3 (((r.grow g1).grow g2).grow g3)
  | .Tuple es k pos, g, h => by
    unfold cT at h
    obtain ⟨ps, hp, rfl⟩ := Option.map_eq_some_iff.mp h
    obtain ⟨h1, h2⟩ := cTs_len hp
    refine PG.imp (pg_seq ok.calm (s_cTs ok hp) h2) fun v σ H Q ⟨φ, ρ, S, d, s, r, rd, h⟩ => ?_
    unfold asgT at h
    split at h
    · rename_i ds hd
      obtain ⟨p, us, e, h3, h4⟩ := seq_any s hd rd
      exact ⟨p, us, e, h3, by rw [← h4.pd.length, ← asgTs_len h, h1], φ, ρ, S, ds, s, r, h4, h⟩
    · exact h.elim
  | .Constant .., g, h => by simp [cT] at h
  | .BinOp .., g, h => by simp [cT] at h
  | .UnaryOp .., g, h => by simp [cT] at h
  | .Compare .., g, h => by simp [cT] at h
  | .BoolOp .., g, h => by simp [cT] at h
  | .IfExp .., g, h => by simp [cT] at h
  | .Call .., g, h => by simp [cT] at h
  | .Attribute .., g, h => by simp [cT] at h
  | .Slice .., g, h => by simp [cT] at h
  | .List .., g, h => by simp [cT] at h
  | .Starred .., g, h => by simp [cT] at h
  | .Dict .., g, h => by simp [cT] at h
  | .ListComp .., g, h => by simp [cT] at h
  | .NamedExpr .., g, h => by simp [cT] at h
  | .Lambda .., g, h => by simp [cT] at h
  | .Set .., g, h => by simp [cT] at h
  | .SetComp .., g, h => by simp [cT] at h
  | .DictComp .., g, h => by simp [cT] at h
  | .GeneratorExp .., g, h => by simp [cT] at h
  | .Await .., g, h => by simp [cT] at h
  | .Yield .., g, h => by simp [cT] at h
  | .YieldFrom .., g, h => by simp [cT] at h
  | .FormattedValue .., g, h => by simp [cT] at h
  | .JoinedStr .., g, h => by simp [cT] at h
theorem s_cTs (ok : Ok X C P W) : ∀ {es : List Expr} {ps : List CT}, cTs C es = some ps → PGs X es (gTs X.K P ps)
  | [], ps, h => by
    unfold cTs at h
    cases h
    refine PGs.imp pgs_nil fun v σ H Q ⟨φ, ρ, S, d, s, r, rd, h⟩ => ?_
    have := asgTs_len h
    cases d with
    | cons _ _ => simp at this
    | nil =>
      cases rd
      unfold asgTs at h
      exact ⟨rfl, h φ σ H (.refl _ _) s r⟩
  | e :: es, ps, h => by
    unfold cTs at h
    split at h
    · cases h
    · rename_i hs
      split at h
      · rename_i p q e1 e2
        cases h
        have hs' : isStar e = false := by simpa using hs
        refine PGs.imp (pgs_cons (s_cT ok e1) (s_cTs ok e2) (by rw [assignEach_cons hs']; rfl)) fun v σ H Q ⟨φ, ρ, S, d, s, r, rd, h⟩ => ?_
        have := asgTs_len h
        cases d with
        | nil => simp at this
        | cons d ds =>
          cases rd with | cons r1 r2 =>
          unfold asgTs at h
          refine ⟨_, _, rfl, φ, ρ, S, d, s, r, r1, ?_⟩
          cases ha : asgT P p d ρ S with
          | exc c x S1 => rw [ha] at h; exact h.elim
          | fail => rw [ha] at h; exact h.elim
          | ok ρ1 S1 =>
            rw [ha] at h
            exact fun φ1 σ1 H1 g1 s1 rr1 => ⟨φ1, ρ1, S1, ds, s1, rr1, r2.grow g1, PostN.grow h g1⟩
      · cases h
end
end
end G

end

section
set_option Elab.async false
set_option linter.all false
set_option maxRecDepth 100000
/-! GT: several clauses 'except X as n' (the worked rules ps_try_many and ps_try_as joined). -/
namespace G
open PySem PySem.Spec PyProof.Rows L2
/-- what the clauses wish -/
def wManyAs (K : PySem.W.Frag) (Wout : WX) (D : Ends) : List (Value × Nat × (Addr → Value → Option Addr → TS)) → WX
  | [] => Wout
  | (c, i, ts) :: r => fun cls d σ H => ∃ b, PySem.W.exmOne K cls c = some b ∧ (b = true → ∀ a, H a = none → ts a cls d { nx := fun σ' H' => D.nx (σ'.set i none) H', rt := D.rt, bk := fun σ' H' => D.bk (σ'.set i none) H', ct := fun σ' H' => D.ct (σ'.set i none) H' } (σ.set i (some (.ref a))) H) ∧
      (b = false → wManyAs K Wout D r cls d σ H)
inductive HdsAs (X : Cx) : List ExceptHandler → List (Value × Nat × (Addr → Value → Option Addr → TS)) → Prop
  | nil : HdsAs X [] []
  | cons {x n : Str} {c : Value} {i : Nat} {ts : Addr → Value → Option Addr → TS} {b₀ : Stmt} {suite : List Stmt} {np pos' : Pos} {hds : List ExceptHandler} {l : List (Value × Nat × (Addr → Value → Option Addr → TS))} (hc : Names X x c) (hi : X.N[i]? = some n) (hln : X.env.kindOf n = some .local)
      (hsu : ∀ (a : Addr) (oe : Obj) (cls : Value) (d : Option Addr) (pn : List (Addr × Obj)), Zc cls d oe → (∃ vs, oe.data = .fields vs) → PSs (X.suite a ((a, oe) :: pn)) (b₀ :: suite) (ts a cls d)) (r : HdsAs X hds l) :
      HdsAs X (.ExceptHandler (some (.Name x np)) (some n) (b₀ :: suite) pos' :: hds) ((c, i, ts) :: l)
section
variable {X : Cx} {body : List Stmt} {h₀ : ExceptHandler} {hds : List ExceptHandler} {l : List (Value × Nat × (Addr → Value → Option Addr → TS))} {pos : Pos} {tb : WX → TS} {Wout : WX}
theorem ps_try_asM (hs : X.stack = X.env :: X.outer) (hf : X.env.frame = some X.env.locals) (hN : X.N.Nodup) (tk : Takes X Wout)
    (hb : ∀ (W : WX) (pn : List (Addr × Obj)) (xe : Value → Shared → Prop), Takes (X.tr pn xe) W → PassesOwn (model X.prog X.w) X.A X.env xe → PSs (X.tr pn xe) body (tb W))
    (hh : HdsAs X (h₀ :: hds) l) : PS X (.Try body (h₀ :: hds) [] [] pos) (fun D σ H => tb (wManyAs X.K Wout D l) D σ H) := by
  refine ⟨fun pins s σ H D I h => ?_⟩
  have ok := I.ok
  have hfr : X.A.frames = some (X.env :: X.outer) := by rw [ok.frames, hs]
  refine wpAny_Try_except ?_
  refine wpAny_mono ((hb (wManyAs X.K Wout D l) (X.pn ++ pins) (fun e s₁ => wpAny (model X.prog X.w) X.A (noteFrame e X.env) (fun _ s₂ => wpAny (model X.prog X.w) X.A (setFlight e none) (fun _ s₃ =>
    wpAny (model X.prog X.w) X.A (handleBy e X.env (h₀ :: hds)) (SP X pins D) X.xe s₃) X.xe s₂) X.xe s₁) (fun u s' xx => ?_) PassesOwn.looking).run [] s σ H D (I.toTry _) h) (fun f s1 hsp => ?_) (fun e s1 he => he)
  · obtain ⟨a, B, sI, pins', σ', H', cls, d, rfl, J', nb, up, sky, na, os, ag, w⟩ := xx
    have J : Inv X pins σ' H' sI := J'.ofTry ok
    have sky' : Sky B (X.env :: X.outer) a (Zc cls d) X.env.locals s'.heap := by rw [← hs]; exact sky
    show wpAny (model X.prog X.w) X.A (noteFrame (.ref a) X.env) _ _ _
    refine Sky.land Zc.steady hfr hf sky' fun h3 fl3 up3 => ?_
    have J3 : Inv X pins σ' H' { s' with heap := h3 } := J.landed nb fl3.1 (up.trans up3) os ag
    obtain ⟨oe3, vs3, he3, hz3, hd3⟩ := fl3.there
    have notFr : ∀ {h : Heap} {o : Obj} {vs : Array Value}, h.FunFrames B (X.env :: X.outer) → h.get? a = some o → o.data = .fields vs → a ∉ frs (X.env :: X.outer) := fun {h o vs} ff e dd hm => by
      obtain ⟨_, o', e', hnf⟩ := ff.mem hm
      rw [e] at e'; cases e'
      exact hnf _ dd
    have nfr := notFr fl3.2.2.1 he3 hd3
    have nL : a ≠ X.env.locals := fun z => nfr (List.mem_filterMap.mpr ⟨X.env, List.mem_cons_self, by rw [hf, z]⟩)
    have nF : a ∉ X.fs := fun hm => by
      obtain ⟨e, he, q⟩ := List.mem_filterMap.mp hm
      exact nfr (List.mem_filterMap.mpr ⟨e, List.mem_cons_of_mem _ he, q⟩)
    have S3 := J3.suite he3 hd3 na nL nF
    have go : ∀ {hds' : List ExceptHandler} {l' : List (Value × Nat × (Addr → Value → Option Addr → TS))}, HdsAs X hds' l' → wManyAs X.K Wout D l' cls d σ' H' →
        wpAny (model X.prog X.w) X.A (handleBy (.ref a) X.env hds') (SP X pins D) X.xe { s' with heap := h3 } := by
      intro hds' l' hk
      induction hk with
      | nil =>
        intro w
        refine wpAny_handleBy_nil ?_
        obtain ⟨k1, k2, k3, oe, vs, T, oT, ts', he, hz, hd, h1, hr⟩ := id fl3
        unfold PySem.passOn
        refine wpAny_bind (wpAny_field he hd h1 ?_)
        rw [if_neg (show ¬ ((Value.ref T == Value.none) = true) from by simp)]
        have fin : wpAny (model X.prog X.w) X.A (setFlight (.ref a) X.env.frame) (fun _ s4 => wpAny (model X.prog X.w) X.A (throw (.ref a) : Sem Flow) (SP X pins D) X.xe s4) X.xe { s' with heap := h3 } := by
          rw [hf]
          refine HandSPX.setFlight_upZ fl3 fun h4 hh4 up4 => wpAny_throw (tk _ _ ?_)
          exact ⟨a, B, sI, pins, σ', H', cls, d, rfl, J, nb, (up.trans up3).trans up4, .inr (.inr (by rw [hs]; exact hh4)), na, os, ag, w⟩
        first
          | exact wpAny_bind (wpAny_pure (wpAny_bind fin))
          | exact wpAny_bind fin
      | @cons x n c i ts b₀ suite np pos' hds2 l2 hc hi hln hsu r ih =>
        intro w
        obtain ⟨b, hb1, hyes, hno⟩ := w
        have hloc : L2.Loc X.env.scope n := .inl hln
        refine wpAny_handleBy_cons (codeAny_handlers_test ?_) (by intro q; cases q)
        have LT : PySem.W.Looks (model X.prog X.w) h3 (typeOf (.ref a)) cls := fun A Q E s k q => wpAny_typeOf_ref (k _ _ he3) (by rw [hz3.1]; exact q)
        have LM := PySem.W.exm_one (M := model X.prog X.w) (J3.kIn) LT hb1
        have test : ∀ {Q : Value → Shared → Prop} {E : Value → Shared → Prop}, Q c { s' with heap := h3 } → wpAny (model X.prog X.w) (X.A.mark (some (.ref a))) (eval (.Name x np) X.env) Q E { s' with heap := h3 } := fun {Q E} q => by
          obtain ⟨hg, hdbg, hm | ⟨hm, hv, hnn⟩⟩ := hc
          · exact ld_glob (X := X.suite a ((a, oe3) :: (X.pn ++ pins))) S3 hg hm q hdbg
          · exact ld_blt (X := X.suite a ((a, oe3) :: (X.pn ++ pins))) S3 hg hm hv q hnn hdbg
        refine test (LM.here ?_)
        cases b with
        | true =>
          refine codeAny_handlers_suite_as ?_
          refine HandSPX.lands_againZ fl3 fun h4 fl4 up4 => ?_
          have J4 : Inv X pins σ' H' { s' with heap := h4 } := J.landed nb fl4.1 ((up.trans up3).trans up4) os ag
          obtain ⟨oe4, vs4, he4, hz4, hd4⟩ := fl4.there
          have S4 := J4.suite he4 hd4 na nL nF
          refine store_ok (X := X.suite a ((a, oe4) :: (X.pn ++ pins))) (v := .ref a) S4 hN hi hloc rfl (fun s5 S5 => ?_) (.inr hln)
          refine wpAny_mono ((hsu a oe4 cls d (X.pn ++ pins) hz4 ⟨_, hd4⟩).run [] s5 _ H' _ S5 (hyes rfl a na)) (fun f s6 hsp => ?_) (fun _ _ z => False.elim z)
          have end_ : ∀ {σ6 : L2.St} {H6 : Hp} {Q : Shared → Prop}, Inv (X.suite a ((a, oe4) :: (X.pn ++ pins))) [] σ6 H6 s6 → (∀ s7, Inv X pins (σ6.set i none) H6 s7 → Q s7) →
              wpAny (model X.prog X.w) X.A (do bindName X.env n .none; unbindBehindTheSuite X.env n pos') (fun _ s7 => Q s7) X.xe s6 := fun {σ6 H6 Q} S6 hq => gone_ok (S6.unsuite ok) hN hi hln hq
          cases f with
          | next =>
            obtain ⟨σ6, H6, S6, q6⟩ := hsp
            exact end_ S6 fun s7 J7 => ⟨_, _, J7, q6⟩
          | brk =>
            obtain ⟨σ6, H6, S6, q6⟩ := hsp
            exact end_ S6 fun s7 J7 => ⟨_, _, J7, q6⟩
          | cont =>
            obtain ⟨σ6, H6, S6, q6⟩ := hsp
            exact end_ S6 fun s7 J7 => ⟨_, _, J7, q6⟩
          | ret u =>
            obtain ⟨v6, σ6, H6, S6, r6, q6⟩ := hsp
            exact end_ S6 fun s7 J7 => ⟨_, _, _, J7, r6, q6⟩
        | false =>
          show wpAny _ X.A (handleBy (.ref a) X.env hds2) _ _ _
          exact ih (hno rfl)
    exact go hh w
  · cases f with
    | next =>
      obtain ⟨σ', H', J', q⟩ := hsp
      exact wpAny_execs_nil ⟨σ', H', J'.ofTry ok, q⟩
    | brk =>
      obtain ⟨σ', H', J', q⟩ := hsp
      exact ⟨σ', H', J'.ofTry ok, q⟩
    | cont =>
      obtain ⟨σ', H', J', q⟩ := hsp
      exact ⟨σ', H', J'.ofTry ok, q⟩
    | ret u =>
      obtain ⟨v, σ', H', J', r, q⟩ := hsp
      exact ⟨v, σ', H', J'.ofTry ok, r, q⟩
end
/-! ### an own error over an own class over ValueError -/
section
variable {X : Cx} {e : Expr} {es : List Expr} {ta : TA} {p p1 p2 pos : Pos} {x : Str} {B : Addr}
/-- what K says of the parent -/
structure ParC (K : PySem.W.Frag) (B : Addr) : Prop where
  sp : PySem.W.specialIn K (.ref B) "__getattribute__" = some (some (.builtin "type.__getattribute__"))
  ty : PySem.W.typeIn K (.ref B) = some (.type "type")
  rd : PySem.W.readsIn K B (.type "type") = true
  fc : PySem.W.findCls K (.ref B) (.type "type") "__init__" = some (.val (.builtin "ValueError.__init__"))
/-- B.__init__(self, ..) -/
theorem pe_parinit {pl : Sem Bool} (hg : Gl X x) (hm : X.mg x = some (.ref B)) (F : ParC X.K B) (ha : PA X (e :: es) ta) (hdb : (x == ("__debug__" : Str)) = false)
    (hc : eval (.Call (.Attribute (.Name x p1) "__init__" p2) (e :: es) [] pos) X.env = (do
      let ov ← eval (.Name x p1) X.env
      standAt p2.atName
      let (f, first) ← holding [ov] (getMethod ov "__init__" pl)
      callWith pos f first (backTo pos (starEach (e :: es) X.env)) (backToKw pos (keywordEach [] X.env))) := by rfl)
    (he : starEach (e :: es) X.env = (false, eval e X.env) :: starEach es X.env := by rfl) (hpl : (backTo pos (starEach es X.env)).any (·.1) = false := by rfl) :
    PE X (.Call (.Attribute (.Name x p1) "__init__" p2) (e :: es) [] pos) (tVeI X.K ta) := by
  refine ⟨fun pins s σ H Q I h => ?_⟩
  refine PySem.W.methodCall_KW (ld_glob I hg hm ?_ hdb) hc
  obtain ⟨m, fr⟩ := I.fr
  refine PySem.W.method_of_cls fr I.ok.mod.kin F.sp (PySem.W.cls_val fr I.ok.mod.kin F.ty F.rd F.fc (by decide +kernel) ?_)
  show wpAny _ _ (callWith pos (Value.builtin "ValueError.__init__") [] (backTo pos (starEach (e :: es) X.env)) []) _ _ _
  refine PyProof.Rows.callWith_method1 (thn (ha.run pos pins _ σ H _ (I.tok _) h) fun us s1 ⟨vs, H1, I1, r1, a, C, ws, ev, hl, T, ea, q⟩ => ?_) he hpl
  subst ev
  cases r1 with
  | @cons _ u0 _ ur ra rw' =>
    obtain rfl : u0 = Value.ref a := ra
    have hlen : ur.length ≤ sizeLine := by
      rw [← Paired.length rw', sizeLine_eq]
      omega
    exact oinit_ok T I1 ea hlen fun s' J => ⟨.non, H1, J, rfl, q⟩
/-- what such an error's __init__ promises -/
def spI (f : Str) (K : PySem.W.Frag) : Sp := fun vs H Q _ => ∃ a C y, vs = [.ref a, y] ∧ OexC K C ∧ PySem.W.findIn K (.ref C) f = some none ∧ H a = some (exo a C none) ∧ ∀ dx, H dx = none → dx ≠ a → Q .non (upd (upd H dx (exd dx [(f, y)])) a (exo a C (some dx)))
end
end G

end

section
set_option Elab.async false
set_option linter.all false
set_option maxRecDepth 100000
set_option maxHeartbeats 4000000
/-! GI: isinstance of a caught error that has its own dict (the library's kin_classE turned to an instance with a dict). -/
namespace G
open PySem PySem.W PySem.Spec PySem.Calls PyProof.Rows
section
variable {prog : Program} {w : World} {A : Around} {E : Value → Shared → Prop} {s : Shared} {K : Frag} {x D : Addr} {ox : Obj}
theorem kin_classD {od : Obj} {Q : Option Value → Shared → Prop} (hga : findIn K (.ref D) "__getattribute__" = some (some (.builtin "BaseException.__getattribute__"))) (hgt : findIn K (.ref D) "__getattr__" = some none) (hsub : subIn K (.ref D) (.type "BaseException") = some true)
    (hdct : hasDictIn K D = true) (ha : findIn K (.ref D) "__class__" = some (some (.builtin "object.__class__")))
    (hn : specialIn K (.builtin "object.__class__") "__get__" = some (some (.builtin "getset_descriptor.__get__"))) (htk : takesIn K (.builtin "object.__class__") = some true) (hm : mroIn K D (.type "object") = some true)
    (X : K.In s.heap) (I : InstAt s.heap x ox D (some od)) (h : Q (some (.ref D)) { s with toks := s.toks + 1 }) : wpAny (model prog w) A (getAttr? (.ref x) "__class__") Q E s := by
  have hf : findObj K D (some od) "__class__" = some (.bind (.builtin "getset_descriptor.__get__") (.builtin "object.__class__")) := findObj_data (by obtain ⟨cd, hc, _⟩ := any_some hdct; rw [hc]; rfl) ha hn htk
  obtain ⟨hp, g, d, t, os⟩ := s
  have L0 := I.type (M := model prog w)
  have L1 := looks_findIn (M := model prog w) X hga
  have L2 := looks_findIn (M := model prog w) X hgt
  have L3 := looks_find (M := model prog w) X I hf
  have sub : Looks (model prog w) hp (isInstance (.ref x) (.type "BaseException")) true := L0.andThen (looks_subIn X hsub)
  have hx0 : (false && onTheHeap (Value.builtin "BaseException.__getattribute__")) = false := rfl
  have hx2 : (Value.builtin "BaseException.__getattribute__" == Value.builtin "object.__getattribute__") = false := by decide +kernel
  have hx1 : (onTheHeap (Value.ref D) && Value.builtin "BaseException.__getattribute__" == Value.builtin "object.__getattribute__") = false := by rw [hx2]; rfl
  unfold getAttr? getAttrBy? getAttrBy
  refine wpAny_bind (wpAny_mkText (wpAny_bind (wpAny_attempt (wpAny_holding (wpAny_bind (L0.at (wpAny_bind (L1.at ?_))))))))
  show wpAny _ _ (if (onTheHeap (Value.ref D) && Value.builtin "BaseException.__getattribute__" == Value.builtin "object.__getattribute__") = true then _ else _) _ _ _
  rw [hx1, if_neg Bool.false_ne_true]
  unfold getAttrByItsOwn hookBefore
  refine wpAny_bind ?_
  rw [if_pos (show onTheHeap (Value.ref D) = true from rfl)]
  refine L2.at ?_
  refine wpAny_bind (wpAny_attempt (wpAny_holding ?_))
  unfold callGetattribute
  rw [hx0, if_neg Bool.false_ne_true]
  unfold boundAndCalled
  rw [PySem.F.excAttr_ValueError.ga.bind (.ref x)]
  refine wpAny_bind (wpAny_pure ?_)
  show wpAny _ _ (PySem.call (.builtin "BaseException.__getattribute__") [.ref x, .str "__class__" t]) _ _ _
  refine wpAny_call (codeAny_call_builtin PySem.F.excAttr_ValueError.ga.plain PySem.F.entry_bexc_ga ?_)
  refine @check_slot (model prog w) _ _ ⟨hp, g, d, t + 1, os⟩ "BaseException.__getattribute__" "BaseException" "__getattribute__" (.ref x) [.str "__class__" t] [] _ (by decide +kernel) (by decide +kernel) sub (PySem.F.args_bexc_ga (.ref x) (.str "__class__" t)) ?_
  unfold Builtin.«object.__getattribute__»
  refine wpAny_bind (wpAny_of_eq (a := ((Value.ref x : Value), [Value.str "__class__" t])) (by first | rfl | (simp only [slotArgs]; rfl)) ?_)
  refine wpAny_bind (wpAny_pure (wpAny_bind (L0.at (wpAny_bind (L3.at ?_)))))
  show wpAny _ _ (holding [Value.builtin "object.__class__"] (PySem.call (.builtin "getset_descriptor.__get__") [.builtin "object.__class__", .ref x, .ref D]) >>= ret) _ _ _
  refine wpAny_bind (wpAny_holding (wpAny_call (class_get (s := ⟨hp, g, d, t + 1, os⟩) (ox := ox) (od := some od) X I hm ?_)))
  refine wpAny_pure ?_
  show wpAny _ _ (handedOut (.ref D)) _ _ _
  rw [handedOut_of (v := .ref D) rfl]
  first
    | exact wpAny_pure (wpAny_pure h)
    | exact wpAny_pure h
    | exact wpAny_pure (wpAny_bind (wpAny_pure (wpAny_pure h)))
theorem kitx_excD {od : Obj} (hga : findIn K (.ref D) "__getattribute__" = some (some (.builtin "BaseException.__getattribute__"))) (hgt : findIn K (.ref D) "__getattr__" = some none) (hsub : subIn K (.ref D) (.type "BaseException") = some true) (hdct : hasDictIn K D = true) (ha : findIn K (.ref D) "__class__" = some (some (.builtin "object.__class__")))
    (hn : specialIn K (.builtin "object.__class__") "__get__" = some (some (.builtin "getset_descriptor.__get__"))) (htk : takesIn K (.builtin "object.__class__") = some true) (hm : mroIn K D (.type "object") = some true) :
    KitX K (.ref x) (.ref D) (fun h => InstAt h x ox D (some od)) where
  ty := fun _ _ _ I => I.type
  it := fun _ _ X _ => by
    obtain ⟨cdD, hcD, _⟩ := any_some hdct
    unfold clsIn at hcD
    split at hcD
    · rename_i c' d' cd' sl' ho
      intro A' Q' E' s' k q
      unfold isType loadHead
      exact wpAny_bind (wpAny_loadPart (k _ _ (X _ _ ho)) (wpAny_pure q))
    · cases hcD
  ne := fun h tp dd its n sl X htp => by
    obtain ⟨cdD, hcD, _⟩ := any_some hdct
    refine Bool.eq_false_iff.mpr fun q => ?_
    have e : D = tp := Value.ref.inj (beq_iff_eq.mp q)
    subst e
    unfold clsIn at hcD
    split at hcD
    · rename_i c' d' cd' sl' ho
      have z := (X _ _ ho).symm.trans htp
      cases z
    · cases hcD
  ca := fun X I k => kin_classD hga hgt hsub hdct ha hn htk hm X I k
end
end G
namespace G
open PySem PySem.Spec PyProof.Rows L2
/-- isinstance(e, c), e the caught error, its dict at dd -/
def rIsX (K : PySem.W.Frag) (D a : Addr) (d : Option Addr) : List V → Hp → VK → Prop := fun xs H Q => ∃ (c : V) (cv : Value) (b : Bool) (dd : Addr) (fs : List (Str × V)), xs = [.ref a, c] ∧ (∀ u, RelV c u → u = cv) ∧ d = some dd ∧ H dd = some (.xd fs) ∧ PySem.W.kitOne K (.ref D) cv = some b ∧ Q (.bl b) H
theorem call_isX {X : Cx} {a D : Addr} {d : Option Addr} {oe : Obj} {pn : List (Addr × Obj)} (C : ExcC X.K D) (hz : Zc (.ref D) d oe) (hf : ∃ vs, oe.data = .fields vs) : CallR (X.suite a ((a, oe) :: pn)) (.builtin "isinstance") (rIsX X.K D a d) := by
  intro pins s σ H xs us Q I r h
  obtain ⟨c, cv, b, dd, fs, rfl, hcv, ed, ea, e, q⟩ := h
  subst ed
  cases r with
  | cons rx rr =>
    cases rr with
    | cons rt rr =>
      cases rr
      cases rx
      have ec := hcv _ rt
      subst ec
      obtain ⟨hget, _⟩ := I.pin (a, oe) (List.mem_append.mpr (.inl List.mem_cons_self))
      obtain ⟨vs, hv⟩ := hf
      have hx : ObjOk X.prog X.w H s.heap dd (.xd fs) := I.hok dd _ ea
      obtain ⟨mA, hns, hr⟩ := hx
      obtain ⟨od, ho, hl⟩ := lookIn_ns hns
      have J : PySem.W.InstAt s.heap a oe D (some od) := ⟨hget, hz.1, by unfold PySem.W.notCls; rw [hv] <;> rfl, by rw [hz.2]; exact ho⟩
      exact PySem.W.kia_one (kitx_excD C.hg C.hk C.hs C.hd C.ha C.hn C.ht C.hm) I.kIn J e (fun z => nomatch z) fun tk => ⟨.bl b, H, I.kept (t' := tk) fun _ _ z => z, rfl, q⟩
end G

end

section
set_option Elab.async false
set_option linter.all false
set_option maxRecDepth 100000
/-! G15: statements. -/
namespace G
open PySem PySem.Spec PyProof.Rows L2
/-- what must be seen of an own error's class -/
structure CFact (K : PySem.W.Frag) (D : Addr) : Prop where
  xf : XfC K D
  ec : ExcC K D
  no : PySem.W.findIn K (.ref D) "given" = some none
/-- C(e) can be made -/
def RaiseOk (X : Cx) (c : Str) (f : Str) : Prop := ∃ D : Addr, X.mg c = some (.ref D) ∧ ∀ (e : Expr) (es : List Expr) (ta : TA) (p pos : Pos), Gl X c → (c == ("__debug__" : Str)) = false → (∀ σ H Q Q', (∀ ys H, Q ys H → Q' ys H) → ta σ H Q → ta σ H Q') → (e :: es).any isStar = false → PA X (e :: es) ta →
  PMk X (.Call (.Name c p) (e :: es) [] pos) (fun σ H Q => ta σ H fun vs H1 => ∃ v, vs = [v] ∧ ∀ dx, H1 dx = none → Q (.ref D) (some dx) (upd H1 dx (.xd [(f, v)])))
structure OkS (X : Cx) (C : CC) (P : Par2) (W : WX) : Prop extends Ok X C P.toPar W where
  hp : PassesOwn (model X.prog X.w) X.A X.env X.xe
  hs : X.stack = X.env :: X.outer
  hf : X.env.frame = some X.env.locals
  rs : ∀ c f, P.cls c = some (some f) → ∀ pn xe, RaiseOk (X.tr pn xe) c f
  rc : ∀ c ∈ C.cls, ∃ f, P.cls c = some (some f)
  su : ∀ c c' b, P.sub c c' = some b → ∃ D, X.mg c = some (.ref D) ∧ CFact X.K D ∧ ((∃ D', X.mg c' = some (.ref D') ∧ PySem.W.kitOne X.K (.ref D) (.ref D') = some b ∧ PySem.W.exmOne X.K (.ref D) (.ref D') = some b) ∨
    (c' = "ValueError" ∧ X.mg c' = none ∧ PySem.W.kitOne X.K (.ref D) (.type "ValueError") = some b))
theorem OkS.tr {X : Cx} {C : CC} {P : Par2} {W W' : WX} (ok : OkS X C P W) {pn : List (Addr × Obj)} {xe : Value → Shared → Prop} (tk : Takes (X.tr pn xe) W') (hp : PassesOwn (model X.prog X.w) X.A X.env xe) : OkS (X.tr pn xe) C P W' where
  sc := ok.sc
  kind := ok.kind
  N := ok.N
  nd := ok.nd
  calm := ok.calm
  fn := ok.fn
  tk := tk
  un := ok.un
  bi := ok.bi
  free := ok.free
  fns := fun f hf => ⟨(ok.fns f hf).ok⟩
  gl := ok.gl
  hp := hp
  hs := ok.hs
  hf := ok.hf
  rs := fun c f h pn' xe' => ok.rs c f h pn' xe'
  rc := ok.rc
  su := ok.su
section
variable {X : Cx} {C : CC} {P : Par2} {W : WX}
/-- a comprehension's parts -/
theorem lc_parts (ok : Ok X C P.toPar W) {elt tg iter : Expr} {ifs : List Expr} {scope : Scope} {pos : Pos} {c : CE} (h : cE C (.ListComp elt [⟨tg, iter, ifs, 0⟩] scope pos) = some c) :
    ∃ (own : List (Str × Nat)) (it : CI) (g : CP) (cifs : CEs) (celt : CE), c = .lc g it cifs (own.map (·.2)) celt ∧ blkC' C.N C.sc scope own = true ∧ scope.kind = .function ∧ (∀ x ∈ pNames g, x ∈ own.map (·.2)) ∧ (∀ x, foldedSetIterable iter X.env x = pure x) ∧ PI X tg iter (tI X.K X.mg W P.toPar it) ∧
      (∀ (s : Shared) (H : Hp) (D : Addr) (cl : List (Str × Addr)) (fp : List Addr), PG (X.blk s H scope (compEnvC scope cl D X.env) fp) tg (gP X.K (own.map (·.2)) g)) ∧
      (∀ (s : Shared) (H : Hp) (D : Addr) (cl : List (Str × Addr)) (fp : List Addr), PTs (X.blk s H scope (compEnvC scope cl D X.env) fp) ifs (tG X.K X.mg RelEq noWX (evIfs P.toPar cifs))) ∧
      ∀ (s : Shared) (H : Hp) (D : Addr) (cl : List (Str × Addr)) (fp : List Addr), SE (X.blk s H scope (compEnvC scope cl D X.env) fp) P.toPar noWX elt celt := by
  rw [cE.eq_def] at h
  dsimp only at h
  obtain ⟨it, e1, h⟩ := obind h
  obtain ⟨g, e2, h⟩ := obind h
  by_cases hb : (!blkC' C.N C.sc scope ((pNames g).map fun i => (C.N.getD i Str.empty, i))) = true
  · rw [if_pos hb] at h; cases h
  · rw [if_neg hb] at h
    by_cases hs : (ifs.any isStar || decide (1 < ifs.length)) = true
    · rw [if_pos hs] at h; cases h
    · rw [if_neg hs] at h
      obtain ⟨cifs, e3, h⟩ := obind h
      obtain ⟨celt, e4, h⟩ := obind h
      cases h
      replace e1 : cI C tg iter = some it := e1
      obtain ⟨hi, hset⟩ := s_iter ok (n := sizeOf iter + 1) (fun e c => main _ ok e c) (by omega) e1
      have hb' : blkC' C.N C.sc scope ((pNames g).map fun i => (C.N.getD i Str.empty, i)) = true := by simpa using hb
      have hk : scope.kind = .function := by
        unfold blkC' at hb'
        simp only [Bool.and_eq_true] at hb'
        have := hb'.1.1.1
        split at this
        · assumption
        · cases this
      have ihb : ∀ (n : Nat) (s : Shared) (H : Hp) (D : Addr) (cl : List (Str × Addr)) (fp : List Addr) (e : Expr) (c : CE), sizeOf e < n → cE (blkOf C scope) e = some c → Both (X.blk s H scope (compEnvC scope cl D X.env) fp) P.toPar noWX e c := fun n s H D cl fp e c => main n (ok.blk hk s H D cl fp) e c
      refine ⟨_, it, g, cifs, celt, rfl, hb', hk, (fun x hx => by simpa using hx), hset, hi, (fun s H D cl fp => s_cP (ok.blk hk s H D cl fp).n _ e2 fun x hx => by simpa using hx), (fun s H D cl fp => ?_), fun s H D cl fp => (ihb (sizeOf elt + 1) s H D cl fp elt celt (by omega) e4).1⟩
      have hs' : ifs.any isStar = false ∧ ifs.length ≤ 1 := by simpa using hs
      have hp : Ps (X.blk s H scope (compEnvC scope cl D X.env) fp) P.toPar noWX ifs cifs := ps_of (n := sizeOf ifs + 1) (ihb _ s H D cl fp) (by omega) e3
      match ifs, hs', hp with
      | [], _, .nil => exact s_ifs0
      | [c], _, .cons _ _ ht .nil => exact s_ifs1 ht
      | [_], hs', .star _ .nil => simp [isStar] at hs'
      | _ :: _ :: _, hs', _ => exact absurd hs'.2 (by simp)
/-! ### stores -/
theorem swaps_eq (ok : Ok X C P.toPar W) {t e : Expr} {c : CE} {l : Nat} (h : cE C e = some c) (hw : swC C t e = false) : swapsWithSole [t] e l X.env = pure false := by
  show swapsWith e (some t) l X.env = pure false
  have hk : X.env.blockKind = .function := by
    unfold Env.blockKind
    rw [ok.sc, ok.kind]
    rfl
  cases e with
  | ListComp elt gs scope pos =>
    cases t with
    | Name x p =>
      show (pure (X.env.blockKind == .function && X.env.kindOf x == some .local && p.line == pos.line && !(scope.names.any fun (n, k) => n == x && (k == .local || k == .cell))) : Sem Bool) = pure false
      rw [hk, kind_of ok]
      replace hw : (C.sc.names.lookup x == some .local && p.line == pos.line && !(scope.names.any fun (n, k) => n == x && (k == .local || k == .cell))) = false := hw
      rw [show (ScopeKind.function == ScopeKind.function) = true from rfl, Bool.true_and, hw]
    | _ => rfl
  | SetComp => rw [cE.eq_def] at h; cases h
  | DictComp => rw [cE.eq_def] at h; cases h
  | _ => rfl
theorem blk_kind (ok : Ok X C P.toPar W) : X.env.blockKind = .function := by
  unfold Env.blockKind
  rw [ok.sc, ok.kind]
  rfl
/-- the stores of a display, as the model sees them -/
theorem stores_eq (ok : Ok X C P.toPar W) {t e : Expr} {r : Option (List Str)} (h : swS C t e = some r) (ht : ∀ ts p, t ≠ .List ts p) : swappedStores [t] e X.env = pure r := by
  unfold swS at h
  split at h
  · rename_i ts k p vs k2 p2
    show (do
      if !(ts.length == 2 || ts.length == 3) || vs.length != ts.length || X.env.blockKind != .function then return none
      if vs.any fun | .Starred .. => true | _ => false then return none
      let line := (ts.head?.map (·.pos.line)).getD 0
      let names := ts.filterMap fun
        | .Name id pos => if X.env.kindOf id == some .local && pos.line == line then some id else none
        | _ => none
      if names.length != ts.length || names.eraseDups.length != names.length then return none
      if vs.all (foldedForSure 8) then return none
      if vs.all (constantsAlone 8) then unsupported "assign.tuple-of-constant-expressions:order-of-the-stores"
      return some names : Sem (Option (List Str))) = pure r
    rw [blk_kind ok]
    have e0 : (ScopeKind.function != ScopeKind.function) = false := rfl
    rw [e0, Bool.or_false]
    have e1 : vs.any (fun | .Starred .. => true | _ => false) = vs.any isStar := by
      congr 1
    rw [e1]
    have e2 : (fun e : Expr => match e with
        | .Name id pos => if X.env.kindOf id == some NameKind.local && pos.line == (ts.head?.map (fun t : Expr => t.pos.line)).getD 0 then some id else none
        | _ => none) = nameOn C ((ts.head?.map (fun t : Expr => t.pos.line)).getD 0) := by
      funext e
      cases e <;> first | rfl | (unfold nameOn; simp only [kind_of ok])
    dsimp only
    rw [e2]
    split at h
    · rename_i h1; rw [if_pos h1]; cases h; rfl
    · rename_i h1
      rw [if_neg h1]
      split at h
      · rename_i h2; rw [if_pos h2]; cases h; rfl
      · rename_i h2
        rw [if_neg h2]
        dsimp only at h
        split at h
        · rename_i h3; rw [if_pos h3]; cases h; rfl
        · rename_i h3
          rw [if_neg h3]
          split at h
          · rename_i h4; rw [if_pos h4]; cases h; rfl
          · rename_i h4
            rw [if_neg h4]
            split at h
            · cases h
            · rename_i h5
              rw [if_neg h5]
              cases h
              rfl
  · rename_i hne
    cases h
    cases t with
    | Tuple ts k p =>
      cases e with
      | Tuple vs k2 p2 => exact absurd rfl (hne ts k p vs k2 p2 rfl)
      | _ => rfl
    | List ts p => exact absurd rfl (ht ts p)
    | _ => rfl
theorem bind_rs {α β : Type} (r : Res α) (f : α → Sto → Res β) (ρ : Rho) (k : β → Sto → RS) : (r.bind f).rs ρ k = r.rs ρ fun a S => (f a S).rs ρ k := by cases r <;> rfl
theorem nox_rs {α : Type} {R : List Addr → Hp → α → L2.St → Prop} {K : PySem.W.Frag} {mg : Str → Option Value} {D : Ends} {φ : List Addr} {H : Hp} {r : Res α} {ρ : Rho} {k : α → Sto → RS} (h : PostS K mg W D φ H (r.nox.rs ρ k)) : PostN K R r φ H fun σ1 H1 => ∃ φ1 S1 a, Grow φ H φ1 H1 ∧ Sim K φ1 S1 H1 ∧ R φ1 H1 a σ1 ∧ r = .ok a S1 ∧ PostS K mg W D φ1 H1 (k a S1) := by
  cases r with
  | ok a S1 => exact fun φ1 y H1 g s ra => ⟨φ1, S1, a, g, s, ra, rfl, PostS.grow h g⟩
  | exc c x S1 => exact h.elim
  | fail => exact h.elim
theorem nameOn_some {t : Expr} {x : Str} {l : Nat} (h : nameOn C l t = some x) : ∃ p, t = .Name x p ∧ C.sc.names.lookup x = some .local := by
  unfold nameOn at h
  split at h
  · split at h
    · rename_i hc
      cases h
      simp only [Bool.and_eq_true, beq_iff_eq] at hc
      exact ⟨_, rfl, hc.1⟩
    · cases h
  · cases h
theorem cT_local {x : Str} {p : Pos} {c : CT} (hl : C.sc.names.lookup x = some .local) (h : cT C (.Name x p) = some c) : ∃ i, idx C.N x = some i ∧ c = .nm i := by
  unfold cT at h
  rw [hl] at h
  obtain ⟨i, e, rfl⟩ := Option.map_eq_some_iff.mp h
  exact ⟨i, e, rfl⟩
theorem idx_ne {x y : Str} {i j : Nat} (hx : idx C.N x = some i) (hy : idx C.N y = some j) (h : x ≠ y) : i ≠ j := by
  rintro rfl
  have a := idx_get hx
  rw [idx_get hy] at a
  exact h (Option.some.inj a).symm
theorem cEs_len : ∀ {es : List Expr} {cs : CEs}, cEs C es = some cs → ∀ {ρ : Rho} {S S' : Sto} {vs : List D} {P : Par}, es.any isStar = false → evEs P cs ρ S = .ok vs S' → vs.length = es.length
  | [], cs, h, ρ, S, S', vs, P, _, e => by
    rw [cEs.eq_def] at h
    cases h
    cases e
    rfl
  | e :: es, cs, h, ρ, S, S', vs, P, hs, he => by
    rw [List.any_cons, Bool.or_eq_false_iff] at hs
    rw [cEs.eq_def] at h
    split at h
    · rename_i h1; cases h1
    · rename_i h1; cases h1; simp [isStar] at hs
    · rename_i h1
      cases h1
      obtain ⟨c, e1, h⟩ := obind h
      obtain ⟨cs', e2, h⟩ := obind h
      cases h
      obtain ⟨x, S1, e3, he⟩ := Res.bind_ok he
      obtain ⟨xs, S2, e4, he⟩ := Res.bind_ok he
      cases he
      rw [List.length_cons, List.length_cons, cEs_len e2 hs.2 e4]
theorem cTs_cons {e : Expr} {es : List Expr} {cts : List CT} (h : cTs C (e :: es) = some cts) : ∃ c cs, cT C e = some c ∧ cTs C es = some cs ∧ cts = c :: cs := by
  unfold cTs at h
  split at h
  · cases h
  · split at h
    · rename_i p q e1 e2
      cases h
      exact ⟨p, q, e1, e2, rfl⟩
    · cases h
theorem cTs_nil {cts : List CT} (h : cTs C [] = some cts) : cts = [] := by
  unfold cTs at h
  cases h
  rfl
theorem fm_full {α β : Type} {f : α → Option β} : ∀ {xs : List α}, (xs.filterMap f).length = xs.length → ∃ ys, xs.filterMap f = ys ∧ xs.map f = ys.map some
  | [], _ => ⟨[], rfl, rfl⟩
  | x :: xs, h => by
    cases e : f x with
    | none =>
      rw [List.filterMap_cons, e] at h
      have := List.length_filterMap_le f xs
      simp only [List.length_cons] at h
      omega
    | some y =>
      rw [List.filterMap_cons, e] at h ⊢
      obtain ⟨ys, h1, h2⟩ := fm_full (xs := xs) (by simpa using h)
      exact ⟨y :: ys, by rw [← h1], by rw [List.map_cons, e, h2]; rfl⟩
/-- x, y = a, b on one line -/
theorem s_par (ok : OkS X C P W) {ts vs : List Expr} {k k2 : Nat} {p p2 pos : Pos} {names : List Str} {ct : CT} {ce : CE} (h : swS C (.Tuple ts k p) (.Tuple vs k2 p2) = some (some names)) (ht : cT C (.Tuple ts k p) = some ct) (he : cE C (.Tuple vs k2 p2) = some ce) :
    PS X (.Assign [.Tuple ts k p] (.Tuple vs k2 p2) pos) (tS X.K X.mg W (exS P (.asg ct ce))) := by
  have hst := stores_eq ok.toOk h (fun _ _ z => by cases z)
  unfold swS at h
  dsimp only at h
  split at h
  · cases h
  · rename_i h1
    split at h
    · cases h
    · rename_i h2
      split at h
      · cases h
      · rename_i h3
        split at h
        · cases h
        · split at h
          · cases h
          · cases h
            have hs : vs.any isStar = false := by simpa using h2
            have hl : (ts.length = 2 ∨ ts.length = 3) ∧ vs.length = ts.length := by
              have h1' : (¬ts.length = 2 → ts.length = 3) ∧ vs.length = ts.length := by simpa using h1
              exact ⟨Decidable.or_iff_not_imp_left.mpr h1'.1, h1'.2⟩
            simp only [Bool.or_eq_true, bne_iff_ne, ne_eq, not_or, Decidable.not_not] at h3
            obtain ⟨h3, h4⟩ := h3
            rw [cE.eq_def] at he
            obtain ⟨cs, e1, e2⟩ := Option.map_eq_some_iff.mp he
            cases e2
            unfold cT at ht
            obtain ⟨cts, e3, e4⟩ := Option.map_eq_some_iff.mp ht
            cases e4
            have hp : Ps X P.toPar W vs cs := ps_of (n := sizeOf vs + 1) (fun e c => main _ ok.toOk e c) (by omega) e1
            have nN : X.N.Nodup := by rw [ok.N]; exact ok.nd
            have loc : ∀ {x : Str}, C.sc.names.lookup x = some .local → X.env.scope.names.lookup x = some .local := fun h => by rw [ok.sc]; exact h
            have slot : ∀ {x : Str} {i : Nat}, idx C.N x = some i → X.N[i]? = some x := fun h => by rw [ok.N]; exact idx_get h
            -- the evaluator's side
            have key : ∀ (D : Ends) (σ : L2.St) (H : Hp), tS X.K X.mg W (exS P (.asg (.tup cts) (.tup cs))) D σ H → tA X.K X.mg W P.toPar cs σ H fun xs H1 => ∃ φ ρ S ds, Sim X.K φ S H1 ∧ RelR X.K φ H1 ρ σ ∧ RelDs X.K φ H1 ds xs ∧ ds.length = vs.length ∧ PostS X.K X.mg W D φ H1 ((asgTs P.toPar cts ds ρ S).nox.rs ρ fun ρ S => .fl .next ρ S) := by
              intro D σ H ⟨φ, ρ, S, s, r, h⟩
              refine ⟨φ, ρ, S, s, r, ?_⟩
              replace h : PostS X.K X.mg W D φ H (((evEs P.toPar cs ρ S).bind fun vs S => .of (newT vs S)).rs ρ fun d S => (asgT P.toPar (.tup cts) d ρ S).nox.rs ρ fun ρ S => .fl .next ρ S) := h
              rw [bind_rs] at h
              refine (PostS.rs (R := RelDs X.K) h r).mono fun xs H1 ⟨φ1, S1, ds, g1, s1, rd, e, h1⟩ => ⟨φ1, ρ, S1, ds, s1, r.grow g1, rd, cEs_len e1 hs e, ?_⟩
              unfold newT at h1
              split at h1
              · exact h1
              · exact h1.elim
            match ts, vs, hl, hs, e3, h3, h4, key, hp, hst with
            | [a, b], [va, vb], _, hs, e3, h3, h4, key, hp, hst =>
              obtain ⟨ys, f1, f2⟩ := fm_full h3
              rw [f1] at h4 hst
              match ys, f2, h4, hst with
              | [], f2, _, _ => simp at f2
              | [_], f2, _, _ => simp at f2
              | _ :: _ :: _ :: _, f2, _, _ => simp at f2
              | [x, y], f2, h4, hst =>
                  simp only [List.map_cons, List.map_nil, List.cons.injEq, and_true] at f2
                  obtain ⟨px, rfl, lx⟩ := nameOn_some f2.1
                  obtain ⟨py, rfl, ly⟩ := nameOn_some f2.2
                  have nxy : x ≠ y := by
                    rintro rfl
                    simp [List.eraseDups_cons] at h4
                  obtain ⟨c1, cs1, q1, q2, rfl⟩ := cTs_cons e3
                  obtain ⟨c2, cs2, q3, q4, rfl⟩ := cTs_cons q2
                  cases cTs_nil q4
                  obtain ⟨i, hi, rfl⟩ := cT_local lx q1
                  obtain ⟨j, hj, rfl⟩ := cT_local ly q3
                  refine PS.imp (ps_par ok.calm nN (slot hi) (slot hj) (idx_ne hi hj nxy) (loc lx) (loc ly) (s_args hp) hst rfl) fun D σ H h => (key D σ H h).map fun xs H1 ⟨φ, ρ, S, ds, s, r, rd, hd, hq⟩ => ?_
                  match ds, xs, rd, hd, hq with
                  | [u, w], _, .cons r1 (.cons r2 .nil), _, hq =>
                    exact ⟨_, _, rfl, hq φ _ H1 (.refl _ _) s ((r.set i r1).set j r2)⟩
                  | [], _, _, hd, _ => simp at hd
                  | [_], _, _, hd, _ => simp at hd
                  | _ :: _ :: _ :: _, _, _, hd, _ => simp at hd
            | [a, b, d], [va, vb, vd], _, hs, e3, h3, h4, key, hp, hst =>
              obtain ⟨ys, f1, f2⟩ := fm_full h3
              rw [f1] at h4 hst
              match ys, f2, h4, hst with
              | [], f2, _, _ => simp at f2
              | [_], f2, _, _ => simp at f2
              | [_, _], f2, _, _ => simp at f2
              | _ :: _ :: _ :: _ :: _, f2, _, _ => simp at f2
              | [x, y, z], f2, h4, hst =>
                    simp only [List.map_cons, List.map_nil, List.cons.injEq, and_true] at f2
                    obtain ⟨px, rfl, lx⟩ := nameOn_some f2.1
                    obtain ⟨py, rfl, ly⟩ := nameOn_some f2.2.1
                    obtain ⟨pz, rfl, lz⟩ := nameOn_some f2.2.2
                    have nxy : x ≠ y ∧ x ≠ z ∧ y ≠ z := by
                      have h4' : [x, y, z].eraseDups.length = 3 := h4
                      refine ⟨?_, ?_, ?_⟩
                      · rintro rfl
                        by_cases e : z = x
                        · subst e; simp [List.eraseDups_cons] at h4'
                        · simp [List.eraseDups_cons, e] at h4'
                      · rintro rfl
                        by_cases e : y = x
                        · subst e; simp [List.eraseDups_cons] at h4'
                        · simp [List.eraseDups_cons, e] at h4'
                      · rintro rfl
                        by_cases e : y = x
                        · subst e; simp [List.eraseDups_cons] at h4'
                        · simp [List.eraseDups_cons, e] at h4'
                    obtain ⟨c1, cs1, q1, q2, rfl⟩ := cTs_cons e3
                    obtain ⟨c2, cs2, q3, q4, rfl⟩ := cTs_cons q2
                    obtain ⟨c3, cs3, q5, q6, rfl⟩ := cTs_cons q4
                    cases cTs_nil q6
                    obtain ⟨i, hi, rfl⟩ := cT_local lx q1
                    obtain ⟨j, hj, rfl⟩ := cT_local ly q3
                    obtain ⟨l, hl, rfl⟩ := cT_local lz q5
                    refine PS.imp (ps_par3 ok.calm nN (slot hi) (slot hj) (slot hl) (idx_ne hi hj nxy.1) (idx_ne hi hl nxy.2.1) (idx_ne hj hl nxy.2.2) (loc lx) (loc ly) (loc lz) (s_args hp) hst rfl) fun D σ H h => (key D σ H h).map fun xs H1 ⟨φ, ρ, S, ds, s, r, rd, hd, hq⟩ => ?_
                    match ds, xs, rd, hd, hq with
                    | [u, w, v], _, .cons r1 (.cons r2 (.cons r3 .nil)), _, hq =>
                      exact ⟨_, _, _, rfl, hq φ _ H1 (.refl _ _) s (((r.set i r1).set j r2).set l r3)⟩
                    | [], _, _, hd, _ => simp at hd
                    | [_], _, _, hd, _ => simp at hd
                    | [_, _], _, _, hd, _ => simp at hd
                    | _ :: _ :: _ :: _ :: _, _, _, hd, _ => simp at hd
            | [], _, hl, _, _, _, _, _, _, _ => simp at hl
            | [_], _, hl, _, _, _, _, _, _, _ => simp at hl
            | [_, _], [], hl, _, _, _, _, _, _, _ => simp at hl
            | [_, _], [_], hl, _, _, _, _, _, _, _ => simp at hl
            | [_, _], _ :: _ :: _ :: _, hl, _, _, _, _, _, _, _ => simp at hl
            | [_, _, _], [], hl, _, _, _, _, _, _, _ => simp at hl
            | [_, _, _], [_], hl, _, _, _, _, _, _, _ => simp at hl
            | [_, _, _], [_, _], hl, _, _, _, _, _, _, _ => simp at hl
            | [_, _, _], _ :: _ :: _ :: _ :: _, hl, _, _, _, _, _, _, _ => simp at hl
            | _ :: _ :: _ :: _ :: _, _, hl, _, _, _, _, _, _, _ => simp at hl
end
end G

end

section
set_option Elab.async false
set_option linter.all false
set_option maxRecDepth 100000
/-! G16: all statements. -/
namespace G
open PySem PySem.Spec PyProof.Rows L2
section
variable {X : Cx} {C : CC} {P : Par2} {W : WX}
abbrev SS (X : Cx) (P : Par2) (W : WX) (st : Stmt) (c : CS) : Prop := PS X st (tS X.K X.mg W (exS P c))
abbrev SB (X : Cx) (P : Par2) (W : WX) (st : List Stmt) (c : CB) : Prop := PSs X st (tS X.K X.mg W (exB P c))
theorem one (ok : Ok X C P.toPar W) {e : Expr} {c : CE} (h : cE C e = some c) : Both X P.toPar W e c := main _ ok e c (Nat.lt_succ_self _) h
/-- an evaluation, then a store -/
theorem tS.asg {D : Ends} {σ : L2.St} {H : Hp} {t : CT} {e : CE} (h : tS X.K X.mg W (exS P (.asg t e)) D σ H) : tAsg (tE X.K X.mg W P.toPar e) (gT X.K P.toPar t) D σ H := by
  obtain ⟨φ, ρ, S, s, r, h⟩ := h
  replace h : PostS X.K X.mg W D φ H ((evE P.toPar e ρ S).rs ρ fun d S => (asgT P.toPar t d ρ S).nox.rs ρ fun ρ S => .fl .next ρ S) := h
  refine ⟨φ, ρ, S, s, r, (PostS.rs (R := RelD X.K) h r).mono fun y H1 ⟨φ1, S1, d, g1, s1, rd, _, h1⟩ => ⟨φ1, ρ, S1, d, s1, r.grow g1, rd, ?_⟩⟩
  have := nox_rs (R := RelRR X.K) h1
  unfold PostN at this ⊢
  split
  · rename_i a S2 e2
    rw [e2] at this
    refine fun φ2 σ2 H2 g2 s2 r2 => ?_
    obtain ⟨φ3, S3, ρ3, g3, s3, r3, e3, h3⟩ := this φ2 σ2 H2 g2 s2 r2
    exact h3 φ3 σ2 H2 (.refl _ _) s3 r3
  · rename_i hne
    split at this
    · rename_i e2; exact (hne _ _ e2).elim
    · exact this
theorem s_asg (ok : OkS X C P W) {t e : Expr} {ct : CT} {ce : CE} {pos : Pos} (hsw : (swS C t e).isNone = false) (ht : cT C t = some ct) (he : cE C e = some ce) : SS X P W (.Assign [t] e pos) (.asg ct ce) := by
  have hnl : ∀ ts p, t ≠ .List ts p := fun ts p z => by subst z; unfold cT at ht; cases ht
  cases hs : swS C t e with
  | none => rw [hs] at hsw; cases hsw
  | some r =>
    cases r with
    | some names =>
      have hs2 := hs
      unfold swS at hs2
      split at hs2
      · exact s_par ok hs ht he
      · cases hs2
    | none =>
      have hst := stores_eq ok.toOk hs hnl
      cases hc : swC C t e with
      | false =>
        have h1 : (assignEach [t] X.env).map (·.2) = [assign t X.env] := by
          have : isStar t = false := by
            cases t with
            | Starred v p => unfold cT at ht; cases ht
            | _ => rfl
          rw [assignEach_cons this]; rfl
        exact PS.imp (ps_asg (one ok.toOk he).1 (s_cT ok.toOk ht) (swaps_eq ok.toOk he hc) hst h1) fun D σ H h => h.asg
      | true =>
        have hc2 := hc
        unfold swC at hc2
        split at hc2
        · rename_i x p elt gs scope pos2
          simp only [Bool.and_eq_true, beq_iff_eq] at hc2
          have hl : C.sc.names.lookup x = some .local := hc2.1.1
          obtain ⟨i, hi, rfl⟩ := cT_local hl ht
          -- the comprehension
          rw [cE.eq_def] at he
          split at he <;> first | (rename_i z; cases z; done) | skip
          all_goals try (cases he; done)
          rename_i elt' tg iter ifs scope' pos' z
          cases z
          have he' : cE C (.ListComp elt [⟨tg, iter, ifs, 0⟩] scope pos2) = some ce := by rw [cE.eq_def]; exact he
          obtain ⟨own, it, g, cifs, celt, rfl, hb, hk, hv, hset, hi2, hg, htt, hee⟩ := lc_parts ok.toOk he'
          have hsw2 : swapsWith (.ListComp elt [⟨tg, iter, ifs, 0⟩] scope pos2) (some (.Name x p)) pos.line X.env = pure true := by
            show (pure (X.env.blockKind == .function && X.env.kindOf x == some .local && p.line == pos2.line && !(scope.names.any fun (n, k) => n == x && (k == .local || k == .cell))) : Sem Bool) = pure true
            rw [blk_kind ok.toOk, kind_of ok.toOk]
            replace hc : (C.sc.names.lookup x == some .local && p.line == pos2.line && !(scope.names.any fun (n, k) => n == x && (k == .local || k == .cell))) = true := hc
            rw [show (ScopeKind.function == ScopeKind.function) = true from rfl, Bool.true_and, hc]
          refine PS.imp (s_setLc ok.toOk hb hk hv hset hi2 hg htt hee hi hl hsw2) fun D σ H h => ?_
          obtain ⟨φ, ρ, S, s, r, h⟩ := h
          replace h : PostS X.K X.mg W D φ H ((evE P.toPar (.lc g it cifs (own.map (·.2)) celt) ρ S).rs ρ fun d S => (asgT P.toPar (.nm i) d ρ S).nox.rs ρ fun ρ S => .fl .next ρ S) := h
          refine ⟨φ, ρ, S, s, r, (PostS.rs (R := RelD X.K) h r).mono fun y H1 ⟨φ1, S1, d, g1, s1, rd, _, h1⟩ => ?_⟩
          exact h1 φ1 _ H1 (.refl _ _) s1 ((r.grow g1).set i rd)
        · cases hc2
/-! ### plain ones -/
theorem s_exprS (ok : OkS X C P W) {e : Expr} {c : CE} {pos : Pos} (hc : isComp e = false) (he : cE C e = some c) : SS X P W (.Expr e pos) (.expr c) := by
  refine PS.imp (ps_expr (one ok.toOk he).1 ?_) fun D σ H ⟨φ, ρ, S, s, r, h⟩ => ?_
  · cases e with
    | ListComp => simp [isComp] at hc
    | SetComp => rw [cE.eq_def] at he; cases he
    | DictComp => rw [cE.eq_def] at he; cases he
    | _ => rfl
  · replace h : PostS X.K X.mg W D φ H ((evE P.toPar c ρ S).rs ρ fun _ S => .fl .next ρ S) := h
    exact ⟨φ, ρ, S, s, r, (PostS.rs (R := RelD X.K) h r).mono fun y H1 ⟨φ1, S1, d, g1, s1, rd, _, h1⟩ => h1 φ1 σ H1 (.refl _ _) s1 (r.grow g1)⟩
theorem s_retS (ok : OkS X C P W) {e : Expr} {c : CE} {pos : Pos} (he : cE C e = some c) : SS X P W (.Return (some e) pos) (.ret c) := by
  refine PS.imp (ps_ret (one ok.toOk he).1) fun D σ H ⟨φ, ρ, S, s, r, h⟩ => ?_
  replace h : PostS X.K X.mg W D φ H ((evE P.toPar c ρ S).rs ρ fun d S => .fl (.ret d) ρ S) := h
  exact ⟨φ, ρ, S, s, r, (PostS.rs (R := RelD X.K) h r).mono fun y H1 ⟨φ1, S1, d, g1, s1, rd, _, h1⟩ => h1 φ1 y H1 (.refl _ _) s1 rd⟩
theorem s_retN {pos : Pos} : SS X P W (.Return none pos) .retN := PS.imp ps_retN fun D σ H ⟨φ, ρ, S, s, r, h⟩ => h φ .non H (.refl _ _) s .non
theorem s_ifS (ok : OkS X C P W) {c : Expr} {cc : CE} {a b : List Stmt} {ca cb : CB} {pos : Pos} (hc : cE C c = some cc) (ha : SB X P W a ca) (hb : SB X P W b cb) : SS X P W (.If c a b pos) (.ife cc ca cb) := by
  refine PS.imp (ps_if (one ok.toOk hc).2 ha hb) fun D σ H ⟨φ, ρ, S, s, r, h⟩ => ?_
  replace h : PostS X.K X.mg W D φ H ((evT P.toPar cc ρ S).rs ρ fun k S => if k then exB P ca ρ S else exB P cb ρ S) := h
  refine ⟨φ, ρ, S, s, r, (PostS.rs (R := RelEq (α := Bool)) h r).mono fun y H1 ⟨φ1, S1, k, g1, s1, e, _, h1⟩ => ?_⟩
  cases e
  cases y with
  | true => rw [if_pos rfl]; exact ⟨φ1, ρ, S1, s1, r.grow g1, h1⟩
  | false => rw [if_neg (by decide)]; exact ⟨φ1, ρ, S1, s1, r.grow g1, h1⟩
/-! ### loops -/
theorem s_whlS (ok : OkS X C P W) {c : Expr} {cc : CE} {b : List Stmt} {cb : CB} {pos : Pos} (hc : cE C c = some cc) (hb : SB X P W b cb) : SS X P W (.While c b [] pos) (.whl cc cb) := by
  refine PS.imp (ps_while ok.hp (one ok.toOk hc).2 hb) fun D σ H ⟨φ, ρ, S, s, r, h⟩ => ?_
  refine ⟨fun m σ H => tS X.K X.mg W (whlL (evT P.toPar cc) (exB P cb) m) D σ H, ⟨P.w, φ, ρ, S, s, r, h⟩, fun m σ H ⟨φ, ρ, S, s, r, h⟩ => ?_⟩
  cases m with
  | zero => exact h.elim
  | succ m =>
    refine ⟨φ, ρ, S, s, r, (PostS.rs (R := RelEq (α := Bool)) h r).mono fun y H1 ⟨φ1, S1, k, g1, s1, e, _, h1⟩ => ?_⟩
    cases e
    cases y with
    | false => rw [if_neg (by decide)]; exact h1 φ1 σ H1 (.refl _ _) s1 (r.grow g1)
    | true =>
      rw [if_pos rfl]
      refine ⟨fun σ' H' => tS X.K X.mg W (whlL (evT P.toPar cc) (exB P cb) m) D σ' H', fun σ' H' w => ⟨m, Nat.lt_succ_self _, w⟩, φ1, ρ, S1, s1, r.grow g1, ?_⟩
      simp only [if_true] at h1
      cases ht : exB P cb ρ S1 with
      | fail => rw [ht] at h1; exact h1
      | exc c x ρ' S' => rw [ht] at h1; exact h1
      | fl f ρ' S' =>
        rw [ht] at h1
        cases f with
        | ret d => exact h1
        | next => exact fun φ2 σ2 H2 g2 s2 r2 => ⟨φ2, ρ', S', s2, r2, PostS.grow h1 g2⟩
        | cont => exact fun φ2 σ2 H2 g2 s2 r2 => ⟨φ2, ρ', S', s2, r2, PostS.grow h1 g2⟩
        | brk => exact h1
theorem s_forS (ok : OkS X C P W) {tg iter : Expr} {g : CP} {it : CI} {b : List Stmt} {cb : CB} {pos : Pos} (hg : cP C tg = some g) (hi : cI C tg iter = some it) (hb : SB X P W b cb) : SS X P W (.For tg iter b [] pos) (.for g it cb) := by
  obtain ⟨hi, hset⟩ := s_iter ok.toOk (n := sizeOf iter + 1) (fun e c => main _ ok.toOk e c) (by omega) hi
  refine PS.imp (ps_for ok.hp ok.calm hi (s_cP ok.toOk.n (pNames g) hg fun x hx => hx) hb hset) fun D σ H ⟨φ, ρ, S, s, r, h⟩ => ?_
  replace h : PostS X.K X.mg W D φ H ((evI P.toPar it ρ S).rs ρ fun J S => forL J (fun x ρ S => match asgP S g x ρ with
      | some ρ' => exB P cb ρ' S
      | none => .fail) J.items ρ S) := h
  refine ⟨φ, ρ, S, s, r, (PostS.rs (R := RelI X.K) h r).mono fun J' H1 ⟨φ1, S1, J, g1, s1, ri, _, h1⟩ => ?_⟩
  generalize hturn : (fun (x : G.D) (ρ : Rho) (S : Sto) => match asgP S g x ρ with
      | some ρ' => exB P cb ρ' S
      | none => RS.fail) = turn at h1
  refine ⟨fun i m σ H' => ∃ φ' ρ' S', Grow φ1 H1 φ' H' ∧ Sim X.K φ' S' H' ∧ RelR X.K φ' H' ρ' σ ∧ m = J.items.length - i ∧ i ≤ J.items.length ∧ PostS X.K X.mg W D φ' H' (forL J turn (J.items.drop i) ρ' S'), ⟨_, φ1, ρ, S1, .refl _ _, s1, r.grow g1, rfl, Nat.zero_le _, h1⟩, fun i m σi Hi ⟨φi, ρi, Si, gi, si, rr, hm, hil, hp⟩ => ?_⟩
  have hJ : J.ok Si = true := by
    cases hb : J.ok Si with
    | true => rfl
    | false =>
      exfalso
      cases hd : J.items.drop i with
      | nil => rw [hd] at hp; unfold forL at hp; rw [hb] at hp; exact hp
      | cons x xs => rw [hd] at hp; unfold forL at hp; rw [hb] at hp; exact hp
  have rel := ri φi Hi Si gi si hJ i
  cases hx : J.items[i]? with
  | none =>
    rw [hx] at rel
    refine .inl ⟨rel, ?_⟩
    rw [List.drop_eq_nil_of_le (List.getElem?_eq_none_iff.mp hx)] at hp
    unfold forL at hp
    rw [hJ] at hp
    exact hp φi σi Hi (.refl _ _) si rr
  | some x =>
    rw [hx] at rel
    obtain ⟨go, yl⟩ := rel
    have hlt : i < J.items.length := (List.getElem?_eq_some_iff.mp hx).1
    rw [List.drop_eq_getElem_cons hlt] at hp
    have hxe : J.items[i] = x := by rw [List.getElem?_eq_getElem hlt] at hx; exact Option.some.inj hx
    rw [hxe] at hp
    unfold forL at hp
    rw [hJ] at hp
    simp only [if_true] at hp
    refine .inr ⟨go, fun σ' H' => ∃ φ' ρ' S', Grow φ1 H1 φ' H' ∧ Sim X.K φ' S' H' ∧ RelR X.K φ' H' ρ' σ' ∧ J.items.length - (i + 1) = J.items.length - (i + 1) ∧ i + 1 ≤ J.items.length ∧ PostS X.K X.mg W D φ' H' (forL J turn (J.items.drop (i + 1)) ρ' S'), fun σ' H' w => ⟨J.items.length - (i + 1), by omega, w⟩, fun xv H2 hy => ?_⟩
    obtain ⟨g2, s2, rx⟩ := yl xv H2 hy
    have ht : turn x ρi Si = match asgP Si g x ρi with
      | some ρ' => exB P cb ρ' Si
      | none => RS.fail := by rw [← hturn]
    rw [ht] at hp
    cases ha : asgP Si g x ρi with
    | none => rw [ha] at hp; exact hp.elim
    | some ρ' =>
      rw [ha] at hp
      dsimp only at hp
      refine ⟨φi, ρi, Si, x, ρ', s2, rr.grow g2, rx, ha, fun σ2 r2 _ => ⟨φi, ρ', Si, s2, r2, ?_⟩⟩
      cases hb : exB P cb ρ' Si with
      | fail => rw [hb] at hp; exact hp.elim
      | exc c y ρ3 S3 => rw [hb] at hp; exact PostS.grow (r := .exc c y ρ3 S3) hp g2
      | fl f ρ3 S3 =>
        rw [hb] at hp
        cases f with
        | ret d => exact PostS.grow (r := .fl (.ret d) ρ3 S3) hp g2
        | brk => exact PostS.grow (r := .fl .next ρ3 S3) hp g2
        | next => exact fun φ3 σ3 H3 g3 s3 r3 => ⟨φ3, ρ3, S3, (gi.trans g2).trans g3, s3, r3, rfl, hlt, PostS.grow hp (g2.trans g3)⟩
        | cont => exact fun φ3 σ3 H3 g3 s3 r3 => ⟨φ3, ρ3, S3, (gi.trans g2).trans g3, s3, r3, rfl, hlt, PostS.grow hp (g2.trans g3)⟩
/-! ### raise -/
theorem s_raiseS (ok : OkS X C P W) {c : Str} {es : List Expr} {cs : CEs} {p pos pos2 : Pos} (hg : C.glob c = true) (hin : c ∈ C.cls) (hs : es.any isStar = false) (hl : es.length = 1) (he : cEs C es = some cs) : SS X P W (.Raise (some (.Call (.Name c p) es [] pos)) none pos2) (.raise c cs) := by
  obtain ⟨f, hf⟩ := ok.rc c hin
  obtain ⟨D0, hm, rk⟩ := ok.rs c f hf X.pn X.xe
  match es, hl, hs, he with
  | [e], _, hs, he =>
    have hp : Ps X P.toPar W [e] cs := ps_of (n := sizeOf [e] + 1) (fun e c => main _ ok.toOk e c) (by omega) he
    obtain ⟨g1, g2, _⟩ := glob_gl ok.toOk hg
    refine PS.imp (ps_raise ok.calm ok.tk (rk e [] (tA X.K X.mg W P.toPar cs) p pos g1 g2 (fun σ H Q Q' k h => tG.map h k) hs (s_args hp))) fun D σ H ⟨φ, ρ, S, s, r, h⟩ => ?_
    replace h : PostS X.K X.mg W D φ H ((evEs P.toPar cs ρ S).rs ρ fun vs S => match P.cls c, vs with
      | some (some f), [d] => .exc c (some (f, d)) ρ S
      | some none, [] => .exc c none ρ S
      | _, _ => .fail) := h
    refine ⟨φ, ρ, S, s, r, (PostS.rs (R := RelDs X.K) h r).mono fun y H1 ⟨φ1, S1, ds, g1, s1, rd, _, h1⟩ => ?_⟩
    rw [hf] at h1
    match ds, y, rd, h1 with
    | [d], [v], .cons r1 .nil, h1 =>
      refine ⟨_, rfl, fun dx hdx => ?_⟩
      have g2 : Grow φ1 H1 φ1 (upd H1 dx (.xd [(f, v)])) := by simpa using Grow.new hdx []
      exact h1 φ1 σ (.ref D0) (some dx) _ g2 (s1.skip hdx) ((r.grow g1).grow g2) ⟨hm, ⟨D0, rfl⟩, dx, v, rfl, upd_same, r1.grow g2⟩
    | [], _, _, h1 => exact h1.elim
    | _ :: _ :: _, _, _, h1 => exact h1.elim
/-! ### several statements -/
theorem sb_nil : SB X P W [] .nil := PSs.imp pss_nil fun D σ H ⟨φ, ρ, S, s, r, h⟩ => h φ σ H (.refl _ _) s r
theorem sb_cons {st : Stmt} {sts : List Stmt} {c : CS} {cb : CB} (h1 : SS X P W st c) (h2 : SB X P W sts cb) : SB X P W (st :: sts) (.cons c cb) :=
  PSs.imp (pss_cons h1 h2) fun D σ H ⟨φ, ρ, S, s, r, h⟩ => ⟨φ, ρ, S, s, r, PostS.seq h⟩
/-! ### try -/
/-- what the exception's reading in a suite is: i the name's slot -/
def tHs (K : PySem.W.Frag) (mg : Str → Option Value) (sub : Str → Str → Option Bool) (i : Nat) (a : Addr) (cls : Value) (d : Option Addr) (hs : List CH) : TA := fun σ H Q => ∃ φ S c x vs, σ[i]? = some (some (.ref a)) ∧ Sim K φ S H ∧ RelX K mg φ H c x cls d ∧
  (∃ D : Addr, cls = .ref D ∧ CFact K D) ∧ x.isSome = true ∧ evH sub c x hs = some vs ∧ ∀ ys, RelDs K φ H vs ys → Q ys H
/-- one of them -/
def tH (K : PySem.W.Frag) (mg : Str → Option Value) (sub : Str → Str → Option Bool) (i : Nat) (a : Addr) (cls : Value) (d : Option Addr) (h : CH) : TE := fun σ H Q => tHs K mg sub i a cls d [h] σ H fun ys H1 => ∃ y, ys = [y] ∧ Q y H1
theorem cst_rel {K : PySem.W.Frag} {φ : List Addr} {H : Hp} {c : Const} {d : G.D} (h : cC c = some d) : ∃ v, RelD K φ H d v ∧ ∀ (X : Cx) k p, PE X (.Constant c k p) (tC v) := by
  cases c with
  | none => cases h; exact ⟨_, .non, fun X k p => pe_non⟩
  | bool b => cases h; exact ⟨_, .bl b, fun X k p => pe_bl⟩
  | int b => cases h; exact ⟨_, .int b, fun X k p => pe_int⟩
  | str b => cases h; exact ⟨_, .str b, fun X k p => pe_str⟩
  | _ => cases h
theorem pe_none {Y : Cx} {e : Expr} {t : TE} (h : ∀ σ H Q, t σ H Q → False) : PE Y e t := ⟨fun pins s σ H Q I q => (h σ H Q q).elim⟩
theorem mgs (ok : OkS X C P W) {c c' : Str} {b : Bool} (h : P.sub c c' = some b) : (∃ D', X.mg c' = some (.ref D')) ∨ (c' = "ValueError" ∧ X.mg c' = none) := by
  obtain ⟨D, _, _, ⟨D', h1, _⟩ | ⟨h1, h2, _⟩⟩ := ok.su c c' b h
  · exact .inl ⟨D', h1⟩
  · exact .inr ⟨h1, h2⟩
theorem ve_bltn : bootBuiltins (Str.ofString "ValueError") = some (.type "ValueError") := by with_unfolding_all rfl
/-- isinstance(e, C) in a suite -/
theorem s_isX (ok : OkS X C P W) {n c' : Str} {i : Nat} (hi : idx C.N n = some i) (hln : C.sc.names.lookup n = some .local) (hbn : badName n = false) (hgi : C.glob (Str.ofString "isinstance") = true) (hgc : C.glob c' = true) {a : Addr} {oe : Obj} {cls : Value} {d : Option Addr} {pn : List (Addr × Obj)} (hz : Zc cls d oe) (hf : ∃ vs, oe.data = .fields vs) {p p1 p2 pos : Pos} :
    PE (X.suite a ((a, oe) :: pn)) (.Call (.Name (Str.ofString "isinstance") p) [.Name n p1, .Name c' p2] [] pos) (fun σ H Q => ∃ φ S c x b, σ[i]? = some (some (.ref a)) ∧ Sim X.K φ S H ∧ RelX X.K X.mg φ H c x cls d ∧ (∃ D : Addr, cls = .ref D ∧ CFact X.K D) ∧ x.isSome = true ∧ P.sub c c' = some b ∧ Q (.bl b) H) := by
  by_cases hc : (∃ D : Addr, cls = .ref D ∧ CFact X.K D) ∧ ∃ c b, P.sub c c' = some b
  · obtain ⟨⟨D, rfl, cf⟩, c0, b0, h0⟩ := hc
    obtain ⟨g1, g2, g3⟩ := glob_gl ok.toOk hgi
    obtain ⟨k1, k2, k3⟩ := glob_gl ok.toOk hgc
    obtain ⟨n1, n2, n3⟩ := badName_no hbn
    have pn1 : PE (X.suite a ((a, oe) :: pn)) (.Name n p1) (tVar i) := pe_var (X := X.suite a ((a, oe) :: pn)) (by show X.N[i]? = some n; rw [ok.N]; exact idx_get hi) (.inl (by show X.env.scope.names.lookup n = some .local; rw [ok.sc]; exact hln)) n1 n2
    have fin : ∀ {v : V} {u : Value}, RelV v u → PE (X.suite a ((a, oe) :: pn)) (.Name c' p2) (tC v) → (∀ w, RelV v w → w = u) → (∀ c b, X.mg c = some (.ref D) → P.sub c c' = some b → PySem.W.kitOne X.K (.ref D) u = some b) →
        PE (X.suite a ((a, oe) :: pn)) (.Call (.Name (Str.ofString "isinstance") p) [.Name n p1, .Name c' p2] [] pos) (fun σ H Q => ∃ φ S c x b, σ[i]? = some (some (.ref a)) ∧ Sim X.K φ S H ∧ RelX X.K X.mg φ H c x (.ref D) d ∧ (∃ D' : Addr, Value.ref D = .ref D' ∧ CFact X.K D') ∧ x.isSome = true ∧ P.sub c c' = some b ∧ Q (.bl b) H) := by
      intro v u rv pv hu hk
      refine PE.imp (pe_callB (X := X.suite a ((a, oe) :: pn)) (call_isX cf.ec hz hf) g1 (ok.free "isinstance" (by decide)) isi_bltn (pa_cons pn1 (pa_cons pv pa_nil rfl) rfl) g3 g2 rfl rfl) fun σ H Q ⟨φ, S, c, x, b, hσ, s, rx, _, hx, hsb, q⟩ => ?_
      obtain ⟨hm, _, hxd⟩ := rx
      cases x with
      | none => cases hx
      | some q' =>
        obtain ⟨dd, vv, h1, h2, _⟩ := hxd
        exact ⟨_, hσ, v, u, b, dd, _, rfl, hu, h1, h2, hk c b hm hsb, q⟩
    rcases mgs ok h0 with ⟨D', hm⟩ | ⟨rfl, hm⟩
    · refine fin (v := .ref D') (u := .ref D') rfl (pe_glob (X := X.suite a ((a, oe) :: pn)) k1 hm rfl k2) (fun w hw => hw) fun c b hmc hs => ?_
      obtain ⟨E, e1, _, ⟨E', e2, e3, _⟩ | ⟨e2, e3, _⟩⟩ := ok.su c c' b hs
      · rw [hmc] at e1
        rw [hm] at e2
        cases e1
        cases e2
        exact e3
      · rw [e3] at hm; cases hm
    · refine fin (v := .ty "ValueError") (u := .type "ValueError") rfl (pe_bltn (X := X.suite a ((a, oe) :: pn)) k1 hm ve_bltn rfl k3 k2) (fun w hw => hw) fun c b hmc hs => ?_
      obtain ⟨E, e1, _, ⟨E', e2, e3, _⟩ | ⟨e2, _, e3⟩⟩ := ok.su c _ b hs
      · rw [e2] at hm; cases hm
      · rw [hmc] at e1
        cases e1
        exact e3
  · exact pe_none fun σ H Q ⟨φ, S, c, x, b, _, _, _, h1, _, h2, _⟩ => hc ⟨h1, c, b, h2⟩
theorem s_cH (ok : OkS X C P W) {n : Str} {i : Nat} (hi : idx C.N n = some i) (hln : C.sc.names.lookup n = some .local) (hbn : badName n = false) {a : Addr} {oe : Obj} {cls : Value} {d : Option Addr} {pn : List (Addr × Obj)} (hz : Zc cls d oe) (hf : ∃ vs, oe.data = .fields vs) {e : Expr} {h : CH} (hh : cH C n e = some h) :
    PE (X.suite a ((a, oe) :: pn)) e (tH X.K X.mg P.sub i a cls d h) := by
  unfold cH at hh
  split at hh
  · obtain ⟨v, e1, e2⟩ := Option.map_eq_some_iff.mp hh
    cases e2
    rename_i c k p
    refine ⟨fun pins s σ H Q I q => ?_⟩
    obtain ⟨φ, S, c0, x, vs, hσ, sm, rx, cf, hx, ev, kk⟩ := q
    cases ev
    obtain ⟨w, rw', pe⟩ := cst_rel (K := X.K) (φ := φ) (H := H) e1
    obtain ⟨y, e3, q⟩ := kk [w] (.cons rw' .nil)
    cases e3
    exact (pe (X.suite a ((a, oe) :: pn)) k p).run pins s σ H Q I q
  · split at hh
    · rename_i x p f p2 hc
      cases hh
      simp only [Bool.and_eq_true, beq_iff_eq] at hc
      obtain ⟨rfl, rfl⟩ := hc
      by_cases hD : ∃ D : Addr, cls = .ref D ∧ CFact X.K D
      · obtain ⟨D, rfl, cf⟩ := hD
        obtain ⟨n1, n2, n3⟩ := badName_no hbn
        have pn1 : PE (X.suite a ((a, oe) :: pn)) (.Name x p) (tVar i) := pe_var (X := X.suite a ((a, oe) :: pn)) (by show X.N[i]? = some x; rw [ok.N]; exact idx_get hi) (.inl (by show X.env.scope.names.lookup x = some .local; rw [ok.sc]; exact hln)) n1 n2
        refine PE.imp (pe_xf cf.xf cf.no hz hf pn1 rfl) fun σ H Q ⟨φ, S, c0, x0, vs, hσ, sm, rx, _, hx, ev, kk⟩ => ?_
        obtain ⟨hm, _, hxd⟩ := rx
        cases x0 with
        | none => cases hx
        | some q' =>
          obtain ⟨g, y⟩ := q'
          obtain ⟨dd, v, h1, h2, h3⟩ := hxd
          simp only [evH] at ev
          split at ev
          · rename_i hg
            subst hg
            cases ev
            obtain ⟨y', e3, q⟩ := kk [v] (.cons h3 .nil)
            cases e3
            exact ⟨_, hσ, rfl, rfl, dd, _, v, h1, h2, by simp [List.lookup], q⟩
          · cases ev
      · exact pe_none fun σ H Q ⟨φ, S, c, x, vs, _, _, _, h1, _⟩ => hD h1
    · cases hh
  · split at hh
    · rename_i f p x p1 c' p2 pos hc
      cases hh
      simp only [Bool.and_eq_true, beq_iff_eq] at hc
      obtain ⟨⟨⟨rfl, rfl⟩, hg⟩, he⟩ := hc
      have hgc : C.glob c' = true := by
        unfold CC.exc at he
        simp only [Bool.and_eq_true] at he
        exact he.1
      refine PE.imp (s_isX ok hi hln hbn hg hgc hz hf) fun σ H Q ⟨φ, S, c, x, vs, hσ, sm, rx, cf, hx, ev, kk⟩ => ?_
      simp only [evH, mapO] at ev
      split at ev
      · rename_i bs hbs
        split at hbs
        · rename_i b bs' hb hbs'
          cases hbs'
          cases hbs
          cases ev
          obtain ⟨y, e3, q⟩ := kk [.bl ([b].all id)] (.cons (.bl _) .nil)
          cases e3
          exact ⟨φ, S, c, x, b, hσ, sm, rx, cf, hx, hb, by simpa using q⟩
        · cases hbs
      · cases ev
    · cases hh
  · split at hh
    · rename_i f p x p1 c' p2 pos f2 p' x2 p1' c2 p2' pos' pos2 hc
      cases hh
      simp only [Bool.and_eq_true, beq_iff_eq] at hc
      obtain ⟨⟨⟨⟨⟨⟨rfl, rfl⟩, rfl⟩, rfl⟩, hg⟩, he⟩, he2⟩ := hc
      have hgc : ∀ {c'}, C.exc c' = true → C.glob c' = true := fun he => by
        unfold CC.exc at he
        simp only [Bool.and_eq_true] at he
        exact he.1
      refine PE.imp (pe_and (s_isX ok hi hln hbn hg (hgc he) hz hf) (pe_one (s_isX ok hi hln hbn hg (hgc he2) hz hf))) fun σ H Q ⟨φ, S, c, x, vs, hσ, sm, rx, cf, hx, ev, kk⟩ => ?_
      simp only [evH, mapO] at ev
      split at ev
      · rename_i bs hbs
        split at hbs
        · rename_i b bs' hb hbs'
          split at hbs'
          · rename_i b2 bs2 hb2 hbs2
            cases hbs2
            cases hbs'
            cases hbs
            cases ev
            obtain ⟨y, e3, q⟩ := kk [.bl ([b, b2].all id)] (.cons (.bl _) .nil)
            cases e3
            refine ⟨φ, S, c, x, b, hσ, sm, rx, cf, hx, hb, b, rfl, ?_⟩
            cases b with
            | false => rw [if_neg (by decide)]; simpa using q
            | true => rw [if_pos rfl]; exact ⟨φ, S, c, x, b2, hσ, sm, rx, cf, hx, hb2, by simpa using q⟩
          · cases hbs'
        · cases hbs
      · cases ev
    · cases hh
  · cases hh
theorem evH_cons {sub : Str → Str → Option Bool} {c : Str} {x : Option (Str × G.D)} {h : CH} {hs : List CH} {vs : List G.D} (e : evH sub c x (h :: hs) = some vs) : ∃ v r, vs = v :: r ∧ evH sub c x [h] = some [v] ∧ evH sub c x hs = some r := by
  cases h with
  | cst d =>
    obtain ⟨r, e1, e2⟩ := Option.map_eq_some_iff.mp e
    exact ⟨d, r, e2.symm, rfl, e1⟩
  | fld f =>
    simp only [evH] at e ⊢
    split at e
    · split at e
      · rename_i g
        obtain ⟨r, e1, e2⟩ := Option.map_eq_some_iff.mp e
        exact ⟨_, r, e2.symm, by simp [g], e1⟩
      · cases e
    · cases e
  | isi cs =>
    simp only [evH] at e ⊢
    split at e
    · rename_i bs hb
      obtain ⟨r, e1, e2⟩ := Option.map_eq_some_iff.mp e
      exact ⟨_, r, e2.symm, rfl, e1⟩
    · cases e
theorem cH_star {n : Str} {e : Expr} {h : CH} (hh : cH C n e = some h) : isStar e = false := by
  cases e <;> first | rfl | (unfold cH at hh; cases hh)
theorem s_cHs (ok : OkS X C P W) {n : Str} {i : Nat} (hi : idx C.N n = some i) (hln : C.sc.names.lookup n = some .local) (hbn : badName n = false) {a : Addr} {oe : Obj} {cls : Value} {d : Option Addr} {pn : List (Addr × Obj)} (hz : Zc cls d oe) (hf : ∃ vs, oe.data = .fields vs) : ∀ {es : List Expr} {hs : List CH}, cHs C n es = some hs →
    PA (X.suite a ((a, oe) :: pn)) es (tHs X.K X.mg P.sub i a cls d hs)
  | [], hs, h => by
    unfold cHs at h
    cases h
    exact PA.imp pa_nil fun σ H Q ⟨φ, S, c, x, vs, _, _, _, _, _, ev, kk⟩ => by cases ev; exact kk [] .nil
  | e :: es, hs, h => by
    unfold cHs at h
    split at h
    · rename_i p ps e1 e2
      cases h
      refine PA.imp (pa_cons (s_cH ok hi hln hbn hz hf e1) (s_cHs ok hi hln hbn hz hf e2) (starEach_cons (cH_star e1))) fun σ H Q ⟨φ, S, c, x, vs, hσ, sm, rx, cf, hx, ev, kk⟩ => ?_
      obtain ⟨v, r, rfl, ev1, ev2⟩ := evH_cons ev
      refine ⟨φ, S, c, x, [v], hσ, sm, rx, cf, hx, ev1, fun ys ry => ?_⟩
      cases ry with | cons r1 r2 =>
      cases r2
      exact ⟨_, rfl, φ, S, c, x, r, hσ, sm, rx, cf, hx, ev2, fun zs rz => kk _ (.cons r1 rz)⟩
    · cases h
/-- the clauses -/
theorem s_hds (ok : OkS X C P W) : ∀ {hs : List ExceptHandler} {ch : List (Str × Nat × List CH)}, cHds C hs = some ch → ∃ l, HdsAs X hs l ∧
    ∀ (D : Ends) (φ : List Addr) (H : Hp) (ρ : Rho) (S : Sto) (c : Str) (x : Option (Str × G.D)) (σ : L2.St) (cls : Value) (dd : Option Addr), PostS X.K X.mg W D φ H (catchL P.sub c x ρ S ch) → Sim X.K φ S H → RelR X.K φ H ρ σ → RelX X.K X.mg φ H c x cls dd → wManyAs X.K W D l cls dd σ H
  | [], ch, h => by
    unfold cHds at h
    cases h
    exact ⟨[], .nil, fun D φ H ρ S c x σ cls dd h s r rx => h φ σ cls dd H (.refl _ _) s r rx⟩
  | hd :: hs, ch, h => by
    unfold cHds at h
    split at h
    · rename_i q qs e1 e2
      cases h
      obtain ⟨l, h1, h2⟩ := s_hds ok e2
      unfold cHd at e1
      split at e1
      · rename_i k np n es lp rp hp
        split at e1
        · rename_i hc
          obtain ⟨i, hi, e1⟩ := Option.bind_eq_some_iff.mp e1
          obtain ⟨cs, e3, e4⟩ := Option.map_eq_some_iff.mp e1
          cases e4
          simp only [Bool.and_eq_true, decide_eq_true_eq, Bool.not_eq_true'] at hc
          obtain ⟨⟨⟨hk, hg⟩, hln⟩, hbn⟩ := hc
          obtain ⟨f, hf⟩ := ok.rc k (by simpa using hk)
          obtain ⟨D', hm, _⟩ := ok.rs k f hf X.pn X.xe
          obtain ⟨g1, g2, g3⟩ := glob_gl ok.toOk hg
          refine ⟨(.ref D', i, fun a cls d => tRet (tLst (tHs X.K X.mg P.sub i a cls d cs))) :: l, .cons ⟨g1, g2, .inl hm⟩ (by rw [ok.N]; exact idx_get hi) ((kind_of ok.toOk n).trans hln) (fun a oe cls d pn hz hfl => pss_one (ps_ret (pe_lst (s_cHs ok hi hln hbn hz hfl e3)))) h1, fun D φ H ρ S c x σ cls dd h s r rx => ?_⟩
          unfold catchL at h
          split at h
          · rename_i hsub
            obtain ⟨E, m1, cf, ⟨E', m2, _, m3⟩ | ⟨m2, m3, _⟩⟩ := ok.su c k true hsub
            · obtain ⟨r1, r2, r3⟩ := rx
              rw [m1] at r1
              cases r1
              rw [show X.mg k = some (.ref D') from hm] at m2
              cases m2
              refine ⟨true, m3, fun _ a ha => ?_, fun z => by cases z⟩
              split at h
              case isFalse => exact h.elim
              rename_i hcond
              simp only [Bool.and_eq_true, decide_eq_true_eq] at hcond
              have hx := hcond.2
              have hl : i < σ.length := by rw [← r.len]; exact hcond.1
              cases ev : evH P.sub c x cs with
              | none => rw [ev] at h; exact h.elim
              | some vs =>
                rw [ev] at h
                refine ⟨φ, S, c, x, vs, by rw [List.getElem?_set_self hl], s, ⟨m1, r2, r3⟩, ⟨E, rfl, cf⟩, hx, ev, fun ys ry => ?_⟩
                replace h : PostS X.K X.mg W D φ H ((Res.of (newL vs S)).rs ρ fun d S => .fl (.ret d) ρ S) := h
                have h' := PostS.rs (R := RelD X.K) h r
                obtain ⟨d, S', e5, k5⟩ := PostG.noexc h'
                refine newL_ok s ry e5 fun φ1 y H1 g1 s1 rd => ?_
                obtain ⟨φ2, S2, d2, g2, s2, rd2, e6, h6⟩ := k5 φ1 y H1 g1 s1 rd
                exact h6 φ2 y H1 (.refl _ _) s2 rd2
            · subst m2
              rw [show X.mg (Str.ofString "ValueError") = some (.ref D') from hm] at m3
              cases m3
          · rename_i hsub
            obtain ⟨E, m1, cf, ⟨E', m2, _, m3⟩ | ⟨m2, m3, _⟩⟩ := ok.su c k false hsub
            · have rx' := rx
              obtain ⟨r1, r2, r3⟩ := rx
              rw [m1] at r1
              cases r1
              rw [show X.mg k = some (.ref D') from hm] at m2
              cases m2
              exact ⟨false, m3, fun z => (by cases z), fun _ => h2 D φ H ρ S c x σ _ dd h s r rx'⟩
            · subst m2
              rw [show X.mg (Str.ofString "ValueError") = some (.ref D') from hm] at m3
              cases m3
          · exact h.elim
        · cases e1
      · cases e1
    · cases h
theorem s_tryS (ok : OkS X C P W) {b : List Stmt} {cb : CB} {h : ExceptHandler} {hs : List ExceptHandler} {ch : List (Str × Nat × List CH)} {pos : Pos} (hh : cHds C (h :: hs) = some ch)
    (hb : ∀ (W' : WX) (pn : List (Addr × Obj)) (xe : Value → Shared → Prop), OkS (X.tr pn xe) C P W' → SB (X.tr pn xe) P W' b cb) : SS X P W (.Try b (h :: hs) [] [] pos) (.tryc cb ch) := by
  obtain ⟨l, h1, h2⟩ := s_hds ok hh
  refine PS.imp (ps_try_asM (tb := fun W' => tS X.K X.mg W' (exB P cb)) ok.hs ok.hf (by rw [ok.N]; exact ok.nd) ok.tk (fun W' pn xe tk hp => hb W' pn xe (ok.tr tk hp)) h1) fun D σ H ⟨φ, ρ, S, s, r, h⟩ => ?_
  refine ⟨φ, ρ, S, s, r, ?_⟩
  replace h : PostS X.K X.mg W D φ H (match exB P cb ρ S with
    | .exc c x ρ' S' => catchL P.sub c x ρ' S' ch
    | r => r) := h
  cases e : exB P cb ρ S with
  | fail => rw [e] at h; exact h
  | fl f ρ' S' =>
    rw [e] at h
    cases f <;> exact h
  | exc c x ρ' S' =>
    rw [e] at h
    exact fun φ' σ' cls dd H' g s' r' rx => h2 D φ' H' ρ' S' c x σ' cls dd (PostS.grow h g) s' r' rx
/-- all statements -/
theorem stm : ∀ (n : Nat) {X : Cx} {C : CC} {P : Par2} {W : WX} (ok : OkS X C P W) (st : Stmt) (c : CS), sizeOf st < n → cS C st = some c → SS X P W st c
  | 0, _, _, _, _, _, _, _, hn, _ => absurd hn (Nat.not_lt_zero _)
  | n + 1, X, C, P, W, ok, st, c, hn, h => by
    have ihs : ∀ {X : Cx} {W : WX} (ok : OkS X C P W) (sts : List Stmt) (cb : CB), sizeOf sts < n → cB C sts = some cb → SB X P W sts cb := by
      intro X W ok sts
      induction sts with
      | nil =>
        intro cb _ h
        rw [cB.eq_def] at h
        cases h
        exact sb_nil
      | cons st sts ih =>
        intro cb hn h
        rw [List.cons.sizeOf_spec] at hn
        rw [cB.eq_def] at h
        obtain ⟨c, e1, h⟩ := obind h
        obtain ⟨cb', e2, h⟩ := obind h
        cases h
        exact sb_cons (stm n ok st c (by omega) e1) (ih cb' (by omega) e2)
    rw [cS.eq_def] at h
    split at h
    · cases h; exact s_retN
    · obtain ⟨ce, e1, e2⟩ := Option.map_eq_some_iff.mp h
      cases e2
      exact s_retS ok e1
    · split at h
      · cases h
      · rename_i hs
        obtain ⟨ct, e1, h⟩ := obind h
        obtain ⟨ce, e2, h⟩ := obind h
        cases h
        exact s_asg ok (Bool.eq_false_iff.mpr hs) e1 e2
    · rename_i tg it b pos
      simp at hn
      obtain ⟨g, e1, h⟩ := obind h
      obtain ⟨ci, e2, h⟩ := obind h
      obtain ⟨cb, e3, h⟩ := obind h
      cases h
      exact s_forS ok e1 e2 (ihs ok b cb (by omega) e3)
    · rename_i c' b pos
      simp at hn
      obtain ⟨cc, e1, h⟩ := obind h
      obtain ⟨cb, e2, h⟩ := obind h
      cases h
      exact s_whlS ok e1 (ihs ok b cb (by omega) e2)
    · rename_i c' a b pos
      simp at hn
      obtain ⟨cc, e1, h⟩ := obind h
      obtain ⟨ca, e2, h⟩ := obind h
      obtain ⟨cb, e3, h⟩ := obind h
      cases h
      exact s_ifS ok e1 (ihs ok a ca (by omega) e2) (ihs ok b cb (by omega) e3)
    · split at h
      · cases h
      · rename_i hs
        obtain ⟨ce, e1, e2⟩ := Option.map_eq_some_iff.mp h
        cases e2
        exact s_exprS ok (by simpa using hs) e1
    · split at h
      · rename_i hc
        obtain ⟨cs, e1, e2⟩ := Option.map_eq_some_iff.mp h
        cases e2
        simp only [Bool.and_eq_true, Bool.not_eq_true', beq_iff_eq] at hc
        exact s_raiseS ok hc.1.1.1 (by simpa using hc.1.1.2) hc.1.2 hc.2 e1
      · cases h
    · rename_i b h' hs pos
      simp at hn
      obtain ⟨cb, e1, h⟩ := obind h
      obtain ⟨ch, e2, h⟩ := obind h
      cases h
      exact s_tryS ok e2 fun W' pn xe ok' => ihs ok' b cb (by omega) e1
    · cases h; exact PS.imp ps_pass fun D σ H ⟨φ, ρ, S, s, r, h⟩ => h φ σ H (.refl _ _) s r
    · cases h; exact PS.imp ps_break fun D σ H ⟨φ, ρ, S, s, r, h⟩ => h φ σ H (.refl _ _) s r
    · cases h; exact PS.imp ps_continue fun D σ H ⟨φ, ρ, S, s, r, h⟩ => h φ σ H (.refl _ _) s r
    · cases h
theorem body (ok : OkS X C P W) : ∀ {sts : List Stmt} {cb : CB}, cB C sts = some cb → SB X P W sts cb
  | [], cb, h => by
    rw [cB.eq_def] at h
    cases h
    exact sb_nil
  | st :: sts, cb, h => by
    rw [cB.eq_def] at h
    obtain ⟨c, e1, h⟩ := obind h
    obtain ⟨cb', e2, h⟩ := obind h
    cases h
    exact sb_cons (stm _ ok st c (Nat.lt_succ_self _) e1) (body ok e2)
end
end G

end

section
set_option Elab.async false
set_option linter.all false
set_option maxRecDepth 100000
/-! G17: defs and error classes. -/
namespace G
open PySem PySem.Spec PyProof.Rows L2
/-- an error's __init__: its parent's name, the parameters, the field -/
def initOf (a : Arguments) (b : List Stmt) (sc : Scope) : Option (Str × Str × Str × Str) := match b with
  | [.Expr (.Call (.Attribute (.Name B _) m mp) [.Name s _, .Constant (.str _) _ _] [] cp) _, .Assign [.Attribute (.Name s2 _) f _] (.Name g _) _] =>
    if m == ("__init__" : Str) && s2 == s && mp.endLine == cp.line && plainArgs a && decide (a.args.map (·.arg) = [s, g]) && scopeOk [s, g] [s, g] sc && decide (sc.names.lookup B = some .globalImplicit) && decide (sc.names.lookup s = some .local) && decide (sc.names.lookup g = some .local) && !badName B && !badName s && !badName g then some (B, s, g, f) else none
  | _ => none
theorem scope_of {N ps : List Str} {sc : Scope} (h : scopeOk N ps sc = true) : FnScope N ps sc := by
  unfold scopeOk at h
  simp only [Bool.and_eq_true, decide_eq_true_eq, Bool.not_eq_true', List.all_eq_true, Bool.or_eq_true] at h
  obtain ⟨⟨⟨⟨⟨⟨h1, h2⟩, h3⟩, h4⟩, h5⟩, h6⟩, h7⟩ := h
  exact ⟨h1, h2, h3, h4, h5, h6, h7⟩
section
variable {P : Program} {w : World} {K : PySem.W.Frag} {mg : Str → Option Value} {base : Heap}
theorem binds_of {x qual : Str} {a : Arguments} {b : List Stmt} {sc : Scope} {f : Addr} {fd : FuncData} {ps : List Str} (F : FunD K x qual a b sc [] [] f fd) (hp : plainArgs a = true) (he : ps = a.args.map (·.arg)) (hn : ps.Nodup) : Binds K fd ps [] :=
  F.bindsN fun kV doc pm an cdv ct us hl => bind_pos (fd := PySem.W.fnOf x qual a b sc .none kV doc pm an cdv ct) hp rfl he hn us hl
/-- what stands of an error's class -/
structure ErrC (K : PySem.W.Frag) (mg : Str → Option Value) (c f : Str) : Prop where
  ex : ∃ (D fI : Addr) (fd : FuncData) (x qual : Str) (a : Arguments) (b : List Stmt) (sc : Scope) (B s g : Str) (Bd : Addr), mg c = some (.ref D) ∧ OexC K D ∧ PySem.W.findIn K (.ref D) "__init__" = some (some (.ref fI)) ∧ PySem.W.typeIn K (.ref fI) = some (.type "function") ∧
    PySem.W.findIn K (.ref D) f = some none ∧ FunD K x qual a b sc [] [] fI fd ∧ initOf a b sc = some (B, s, g, f) ∧ mg B = some (.ref Bd) ∧ ParC K Bd
theorem init_hc {env : PySem.Env} {B s t0 : Str} {k0 : Nat} {p1 p2 p3 p4 p5 : Pos} (hl : (p2.endLine == p5.line) = true) : eval (.Call (.Attribute (.Name B p1) "__init__" p2) [.Name s p3, .Constant (.str t0) k0 p4] [] p5) env = (do
      let ov ← eval (.Name B p1) env
      standAt p2.atName
      let (f, first) ← holding [ov] (getMethod ov "__init__" (do return (← importBound (.Name B p1) env).getD true))
      callWith p5 f first (backTo p5 (starEach [.Name s p3, .Constant (.str t0) k0 p4] env)) (backToKw p5 (keywordEach [] env))) := by
  have h : methodCallPos true (.Name B p1) env p2 p5 = pure p5 := by
    unfold methodCallPos
    rw [hl]; rfl
  show (do
      let ov ← eval (.Name B p1) env
      standAt p2.atName
      let (f, first) ← holding [ov] (getMethod ov "__init__" (do return (← importBound (.Name B p1) env).getD true))
      let callPos ← methodCallPos true (.Name B p1) env p2 p5
      callWith callPos f first (backTo p5 (starEach [.Name s p3, .Constant (.str t0) k0 p4] env)) (backToKw p5 (keywordEach [] env))) = _
  simp only [h, pure_bind]
theorem init_ok {k : Nat} {f x qual : Str} {a : Arguments} {b : List Stmt} {sc : Scope} {B s g : Str} {Bd fI : Addr} {fd : FuncData} (F : FunD K x qual a b sc [] [] fI fd) (hi : initOf a b sc = some (B, s, g, f)) (hB : mg B = some (.ref Bd)) (pc : ParC K Bd) :
    FnOk P w K mg base (L2.CX P w) (k + 1) fI fd [s, g] (spI f K) ∧ Binds K fd [s, g] [] := by
  unfold initOf at hi
  split at hi
  · rename_i B' p1 m p2 s' p3 t0 k0 p4 p5 p6 s2 p7 f' p8 g' p9 p10
    split at hi
    · rename_i hc
      simp only [Bool.and_eq_true, decide_eq_true_eq, beq_iff_eq, Bool.not_eq_true'] at hc
      obtain ⟨⟨⟨⟨⟨⟨⟨⟨⟨⟨⟨rfl, rfl⟩, hml⟩, hpl⟩, hps⟩, hsc⟩, hlB⟩, hls⟩, hlg⟩, hbB⟩, hbs⟩, hbg⟩ := hc
      obtain ⟨rfl, rfl, rfl, rfl⟩ : B' = B ∧ s2 = s ∧ g' = g ∧ f' = f := by
        simp only [Option.some.injEq, Prod.mk.injEq] at hi
        exact hi
      have FS := scope_of hsc
      refine ⟨F.ok FS (fun vs H Q E ⟨a, C, y, h, _⟩ => by rw [h]; rfl) fun cdv A outer s0 H vs Q E hr hsp => ?_, binds_of F hpl hps.symm FS.nd⟩
      obtain ⟨a0, C, y, rfl, T, hno, ha, q⟩ := hsp
      generalize hX : cxOf (L2.CX P w) P w K mg base [s2, g'] qual sc fI cdv A outer s0 H E = X
      have hg : Gl X B' := by subst hX; exact hlB
      have hmB : X.mg B' = some (.ref Bd) := by subst hX; exact hB
      have hK : X.K = K := by subst hX; rfl
      obtain ⟨b1, b2, b3⟩ := badName_no hbB
      obtain ⟨c1, c2, c3⟩ := badName_no hbs
      obtain ⟨d1, d2, d3⟩ := badName_no hbg
      have v0 : PE X (.Name s2 p3) (tVar 0) := pe_var (by subst hX; rfl) (.inl (by subst hX; exact hls)) c1 c2
      have v0' : PE X (.Name s2 p7) (tVar 0) := pe_var (by subst hX; rfl) (.inl (by subst hX; exact hls)) c1 c2
      have v1 : PE X (.Name g' p9) (tVar 1) := pe_var (by subst hX; rfl) (.inl (by subst hX; exact hlg)) d1 d2
      refine ⟨_, pss_cons (ps_expr (pe_parinit hg hmB (by rw [hK]; exact pc) (pa_cons v0 (pa_cons pe_str pa_nil rfl) rfl) b1 (init_hc (by simpa using hml)))) (pss_one (ps_ost v0' v1)), ?_⟩
      refine ⟨.ref a0, rfl, a0, C, _, rfl, by simp, by rw [hK]; exact T, ha, ?_⟩
      refine ⟨y, rfl, .ref a0, rfl, a0, C, rfl, by rw [hK]; exact T, by rw [hK]; exact hno, .inl ⟨ha, fun dx h1 h2 => q dx h1 h2⟩⟩
    · cases hi
  · cases hi
theorem raise_ok {X : Cx} {c f : Str} (E : ErrC X.K X.mg c f) (hr : Room 2 X.A) : RaiseOk X c f := by
  obtain ⟨D, fI, fd, x, qual, a, b, sc, B, s, g, Bd, hm, T, iC, tI, hno, F, hi, hB, pc⟩ := E.ex
  obtain ⟨F1, hb⟩ := init_ok (P := X.prog) (w := X.w) (base := X.base) (k := 0) F hi hB pc
  refine ⟨D, hm, fun e es ta p pos hg hdb mono hs ha => ?_⟩
  rw [List.any_cons, Bool.or_eq_false_iff] at hs
  intro pins s0 σ H Q I h
  refine pmk_oex (dvs := []) (ds := []) T iC tI F1 hr hb .nil passL hg hm ha hdb (starEach_cons hs.1) (plain_any hs.2) pins s0 σ H Q I ?_
  refine mono σ H _ _ (fun vs H1 ⟨v, hv, q⟩ => ?_) h
  subst hv
  refine ⟨by simp, fun x hx => ⟨x, D, v, rfl, T, hno, upd_same, fun dx h1 h2 => ⟨rfl, dx, [(f, v)], upd_same, ?_, ?_, ?_⟩⟩⟩
  · rw [upd_ne h2, upd_same]
  · rw [upd_ne h2] at h1; exact h1
  · rw [upd_ne h2] at h1
    have e : upd (del (upd (upd (upd H1 x (exo x D none)) dx (exd dx [(f, v)])) x (exo x D (some dx))) x) dx (.xd [(f, v)]) = upd H1 dx (.xd [(f, v)]) := by
      funext b
      by_cases hb : b = dx
      · rw [hb, upd_same, upd_same]
      · rw [upd_ne hb, upd_ne hb]
        by_cases hx' : b = x
        · rw [hx', del_same, hx]
        · rw [del_ne hx', upd_ne hx', upd_ne hb, upd_ne hx']
    rw [e]
    exact q dx h1
/-- what stands behind a law's top: the names of t, the table T -/
structure Facts (K : PySem.W.Frag) (mg : Str → Option Value) (t : Top) (T : Tbl) : Prop where
  defs : ∀ f ∈ t.fns, ∃ (fa : Addr) (fd : FuncData) (x qual : Str) (a : Arguments) (b : List Stmt) (sc : Scope) (d : CDef), mg f = some (.ref fa) ∧ FunD K x qual a b sc [] [] fa fd ∧ T.defs f = some d ∧ cDef t a b sc = some d
  bi : ∀ f ∈ t.bis, f ∈ biNames ∧ (if f = "gcd" then mg "gcd" = some (.builtin "math.gcd") else mg (Str.ofString f) = none)
  free : ∀ f ∈ (["isinstance", "range", "enumerate", "zip"] ++ tyNames : List String), mg (Str.ofString f) = none
  gl : ∀ x d, T.gl x = some d → ∃ u v, mg x = some u ∧ RelV v u ∧ ∀ φ H, RelD K φ H d v
  rc : ∀ c ∈ t.cls, ∃ f, T.cls c = some (some f)
  er : ∀ c f, T.cls c = some (some f) → ErrC K mg c f
  su : ∀ c c' b, T.sub c c' = some b → ∃ D, mg c = some (.ref D) ∧ CFact K D ∧ ((∃ D', mg c' = some (.ref D') ∧ PySem.W.kitOne K (.ref D) (.ref D') = some b ∧ PySem.W.exmOne K (.ref D) (.ref D') = some b) ∨
    (c' = "ValueError" ∧ mg c' = none ∧ PySem.W.kitOne K (.ref D) (.type "ValueError") = some b))
/-- a def, its depth, its promise -/
abbrev parOf (T : Tbl) (w k : Nat) : Par2 := ⟨⟨call T w k, byK T (call T w k), T.gl, w⟩, T.cls, T.sub⟩
theorem cDef_get {t : Top} {a : Arguments} {b : List Stmt} {sc : Scope} {d : CDef} (h : cDef t a b sc = some d) : plainArgs a = true ∧ d.ps = a.args.map (·.arg) ∧ d.n = (defN d.ps b sc).length ∧ scopeOk (defN d.ps b sc) d.ps sc = true ∧ cB ⟨sc, defN d.ps b sc, t.fns, t.cls, t.cons, t.bis, fun _ => true⟩ b = some d.body := by
  unfold cDef at h
  dsimp only at h
  split at h
  · rename_i hc
    obtain ⟨c, e1, e2⟩ := Option.map_eq_some_iff.mp h
    cases e2
    simp only [Bool.and_eq_true] at hc
    exact ⟨hc.1, rfl, rfl, hc.2, e1⟩
  · cases h
theorem start_rel {K : PySem.W.Frag} {φ : List Addr} {H : Hp} {ds : List D} {vs : List V} {N : List Str} {n : Nat} (r : RelDs K φ H ds vs) (hn : n = N.length) : RelR K φ H (startR n ds) (L2.start N vs) := by
  subst hn
  have hl := r.pd.length
  unfold startR L2.start
  refine ⟨by simp [hl], fun i d e => ?_⟩
  by_cases hi : i < ds.length
  · rw [List.getElem?_append_left (by simpa using hi), List.getElem?_map] at e
    obtain ⟨d', e1, e2⟩ := Option.map_eq_some_iff.mp e
    cases e2
    obtain ⟨v, h1, h2⟩ := Pd.get r.pd e1
    exact ⟨v, by rw [List.getElem?_append_left (by simpa [← hl] using hi), List.getElem?_map, h1]; rfl, h2⟩
  · rw [List.getElem?_append_right (by simpa using hi)] at e
    obtain ⟨h1, h2⟩ := List.getElem?_eq_some_iff.mp e
    simp at h2
theorem binds_key {x qual : Str} {a : Arguments} {b : List Stmt} {sc : Scope} {f : Addr} {fd : FuncData} {ps : List Str} (F : FunD K x qual a b sc [] [] f fd) (hp : plainArgs a = true) (he : ps = a.args.map (·.arg)) (s : Shared) (ks : List Str) (us ws : List Value) (hw : orderK ps ks us = some ws) : BindsTo s fd ⟨[], ks.zip us⟩ (ps.zip ws) := by
  obtain ⟨oc, od, dV, kV, doc, pm, an, cdv, ct, osl, rfl, lk, hcd, hD, hK⟩ := F.ex
  rcases hD with ⟨_, rfl⟩ | ⟨e, _⟩
  · exact .of_eq (bind_key (fd := PySem.W.fnOf x qual a b sc .none kV doc pm an cdv ct) hp rfl he hw)
  · exact absurd rfl e
/-- THE THEOREM: each def keeps what the evaluator tells -/
theorem def_ok {t : Top} {T : Tbl} (FF : Facts K mg t T) (wn : Nat) : ∀ (k : Nat) (f : Str) (fa : Addr) (fd : FuncData) (x qual : Str) (a : Arguments) (b : List Stmt) (sc : Scope) (d : CDef), mg f = some (.ref fa) → FunD K x qual a b sc [] [] fa fd → T.defs f = some d → cDef t a b sc = some d →
    FnOk P w K mg base (L2.CX P w) (k + 2) fa fd d.ps (spF K mg (call T wn k f))
  | k, f, fa, fd, x, qual, a, b, sc, d, hm, F, hd, hc => by
    obtain ⟨c1, c2, c3, c4, c5⟩ := cDef_get hc
    have FS := scope_of c4
    have len : ∀ vs H Q E, spF K mg (call T wn k f) vs H Q E → vs.length = d.ps.length := fun vs H Q E ⟨φ, S, ds, s, r, h⟩ => by
      cases k with
      | zero => exact h.elim
      | succ k =>
        unfold call at h
        rw [hd] at h
        dsimp only at h
        split at h
        · rename_i hl; rw [← r.pd.length, hl]
        · exact h.elim
    cases k with
    | zero => exact ⟨len, fun A outer s H args us vs Q E hr he hb hv ⟨φ, S, ds, sm, r, h⟩ => h.elim⟩
    | succ k =>
      refine F.ok FS len fun cdv A outer s H vs Q E hr ⟨φ, S, ds, sm, r, h⟩ => ?_
      unfold call at h
      rw [hd] at h
      dsimp only at h
      split at h
      case isFalse => exact h.elim
      have ok : OkS (cxOf (L2.CX P w) P w K mg base (defN d.ps b sc) qual sc fa cdv A outer s H E) ⟨sc, defN d.ps b sc, t.fns, t.cls, t.cons, t.bis, fun _ => true⟩ (parOf T wn k) (fun cls dd _ H' => E cls dd H') := {
        sc := rfl
        kind := FS.kind
        N := rfl
        nd := FS.nd
        calm := rfl
        fn := fun _ _ => rfl
        tk := takes_of rfl rfl rfl rfl
        un := by have := hr.un; show (A.deeper (envOfC qual sc s.heap.objs.size fa cdv)).units + 200 < cLine; omega
        bi := FF.bi
        free := FF.free
        fns := fun g hg => by
          obtain ⟨ga, gd, gx, gq, gaa, gb, gs, gdd, g1, g2, g3, g4⟩ := FF.defs g hg
          obtain ⟨e1, e2, e3, e4, e5⟩ := cDef_get g4
          have GS := scope_of e4
          refine ⟨ga, gd, k + 2, gdd.ps, g1, g2.kp, hr, def_ok FF wn k g ga gd gx gq gaa gb gs gdd g1 g2 g3 g4, binds_of g2 e1 e2 (by rw [← GS.pre]; exact List.Nodup.sublist (List.take_sublist _ _) GS.nd), binds_key g2 e1 e2, fun ks vs S => ?_⟩
          show byK T (call T wn k) g ks vs S = _
          unfold byK
          rw [g3] <;> rfl
        gl := FF.gl
        hp := passes_of rfl
        hs := rfl
        hf := rfl
        rs := fun c g hc pn xe => raise_ok (X := (cxOf (L2.CX P w) P w K mg base (defN d.ps b sc) qual sc fa cdv A outer s H E).tr pn xe) (FF.er c g hc) (hr.mono (Nat.le_add_left 2 k))
        rc := FF.rc
        su := FF.su }
      refine ⟨_, body ok c5, φ, startR d.n ds, S, sm, start_rel r c3, ?_⟩
      unfold runD at h
      cases e : exB (parOf T wn k) d.body (startR d.n ds) S with
      | fail => rw [e] at h; exact h.elim
      | exc c x ρ' S' =>
        rw [e] at h
        exact fun φ' σ' cls dd H' g s' _ rx => h φ' cls dd H' g s' rx
      | fl f' ρ' S' =>
        rw [e] at h
        cases f' with
        | next => exact fun φ' σ' H' g s' _ => h φ' .non H' g s' .non
        | ret v => exact fun φ' y H' g s' rd => h φ' y H' g s' rd
        | brk => exact h.elim
        | cont => exact h.elim
end
end G

end

section
set_option Elab.async false
set_option linter.all false
set_option maxRecDepth 100000
/-! G18: what a head tells, as Facts; the law's end. -/
namespace G
open PySem PySem.Spec PyProof.Rows L2
/-- a law's names -/
structure Spec where
  t : Top
  /-- the top's defs -/
  defs : List He.DefD
  /-- the errors' __init__ -/
  inits : List He.DefD
  par : Str
  cons : List (Str × D)
def oexB (K : PySem.W.Frag) (C : Addr) : Bool := (match K.lookup C with
  | some ⟨.type "type", _, .cls cd, sl⟩ => (match cd.mro, sl.toList with
    | .ref C' :: bm, [_, _, _, _, some (.builtin n), _] => C' == C && n == "ValueError.__new__" && !cd.hasDel && cd.hasDict && PySem.HandSPX.refsVE bm
    | _, _ => false)
  | _ => false) && He.eqO (PySem.W.findIn K (.ref C) "__setattr__") (some (some (.builtin "object.__setattr__"))) && decide (PySem.W.subIn K (.ref C) (.type "BaseException") = some true) && decide (PySem.W.typeIn K (.ref C) = some (.type "type")) && PySem.W.keepIn K (.ref C)
theorem oexB_ok {K : PySem.W.Frag} {C : Addr} (h : oexB K C = true) : OexC K C := by
  unfold oexB at h
  simp only [Bool.and_eq_true, decide_eq_true_eq] at h
  obtain ⟨⟨⟨⟨h1, h2⟩, h3⟩, h4⟩, h5⟩ := h
  refine ⟨?_, He.eqO_ok h2, h3, h4, h5⟩
  split at h1
  · rename_i dd cd sl ho
    split at h1
    · rename_i C' bm k0 k1 k2 k3 n k5 hm hs
      simp only [Bool.and_eq_true, beq_iff_eq, Bool.not_eq_true'] at h1
      obtain ⟨⟨⟨⟨rfl, rfl⟩, hdel⟩, hdi⟩, hr⟩ := h1
      obtain ⟨nm, bs, mro, ns, qn, hd, sn, sub, ab, col, del⟩ := cd
      dsimp only at hm hdel hdi
      subst hm hdel hdi
      have hsl : sl = #[k0, k1, k2, k3, some (.builtin "ValueError.__new__"), k5] := by
        obtain ⟨l⟩ := sl
        simp only at hs
        rw [hs]
      subst hsl
      exact ⟨nm, qn, ns, bs, bm, sn, sub, ab, col, dd, k0, k1, k2, k3, k5, ho, hr⟩
    · cases h1
  · cases h1
def parB (K : PySem.W.Frag) (B : Addr) : Bool := He.eqO (PySem.W.specialIn K (.ref B) "__getattribute__") (some (some (.builtin "type.__getattribute__"))) && decide (PySem.W.typeIn K (.ref B) = some (.type "type")) && PySem.W.readsIn K B (.type "type") && (match PySem.W.findCls K (.ref B) (.type "type") "__init__" with
  | some (.val (.builtin n)) => n == "ValueError.__init__"
  | _ => false)
theorem parB_ok {K : PySem.W.Frag} {B : Addr} (h : parB K B = true) : ParC K B := by
  unfold parB at h
  simp only [Bool.and_eq_true, decide_eq_true_eq] at h
  obtain ⟨⟨⟨h1, h2⟩, h3⟩, h4⟩ := h
  refine ⟨He.eqO_ok h1, h2, h3, ?_⟩
  split at h4
  · rename_i n hn
    rw [hn, beq_iff_eq.mp h4]
  · cases h4
def eccB (K : PySem.W.Frag) (D : Addr) : Bool := He.eqO (PySem.W.findIn K (.ref D) "__class__") (some (some (.builtin "object.__class__"))) && He.eqO (PySem.W.specialIn K (.builtin "object.__class__") "__get__") (some (some (.builtin "getset_descriptor.__get__"))) && decide (PySem.W.takesIn K (.builtin "object.__class__") = some true) && decide (PySem.W.mroIn K D (.type "object") = some true)
theorem ecc_ok {K : PySem.W.Frag} {D : Addr} (x : XfC K D) (h : eccB K D = true) : ExcC K D := by
  unfold eccB at h
  simp only [Bool.and_eq_true, decide_eq_true_eq] at h
  obtain ⟨⟨⟨h1, h2⟩, h3⟩, h4⟩ := h
  exact ⟨x.ga, x.gg, x.exC, x.hdC, He.eqO_ok h1, He.eqO_ok h2, h3, h4⟩
/-- is the error class c the class c', or below it -/
def Spec.sub (s : Spec) (c c' : Str) : Option Bool := if s.t.cls.contains c then (if s.t.cls.contains c' || c' == s.par then some (c == c' || c' == s.par) else if c' == ("ValueError" : Str) then some true else none) else none
def Spec.code (s : Spec) (f : Str) : Option CDef := (s.defs.find? fun d => decide (d.name = f)).bind fun d => cDef s.t d.params d.body d.scope
def Spec.tbl (s : Spec) : Tbl := ⟨s.code, fun x => s.cons.lookup x, fun c => if s.t.cls.contains c then some (some ("given" : Str)) else none, s.sub⟩
/-- the constants of the top -/
def dvOf : D → Option He.Dv
  | .non => some .non
  | .bl b => some (.bl b)
  | .int i => some (.int i)
  | .str s => some (.str s)
  | _ => none
def conB (K : PySem.W.Frag) (x : Str) : D → Bool
  | .int i => (He.Fa.int x i).ok K
  | .str s => (He.Fa.str x s).ok K
  | .tup ds => (He.Fa.glo x).ok K && (match mapO dvOf ds with
    | some vs => He.tupB K x vs
    | none => false)
  | _ => false
theorem dvs_rel {K : PySem.W.Frag} {φ : List Addr} {H : Hp} : ∀ {ds : List D} {vs : List He.Dv}, mapO dvOf ds = some vs → RelDs K φ H ds (vs.map (He.Dv.v K))
  | [], vs, h => by cases h; exact .nil
  | d :: ds, vs, h => by
    unfold mapO at h
    split at h
    · rename_i v r e1 e2
      cases h
      refine .cons ?_ (dvs_rel e2)
      cases d <;> first | (cases e1; done) | (cases e1; constructor)
    · cases h
theorem con_ok {K : PySem.W.Frag} {h : Heap} {mg : Str → Option Value} (X : K.In h) (Gm : h.Ns mainGlobals mg) {x : Str} {d : D} (c : conB K x d = true) : ∃ u v, mg x = some u ∧ RelV v u ∧ ∀ φ H, RelD K φ H d v := by
  cases d with
  | int i =>
    obtain ⟨t, e⟩ := He.int_ok X Gm c
    exact ⟨_, .int i, e, ⟨t, rfl⟩, fun _ _ => .int i⟩
  | str s =>
    obtain ⟨t, e⟩ := He.str_ok X Gm c
    exact ⟨_, .str s, e, ⟨t, rfl⟩, fun _ _ => .str s⟩
  | tup ds =>
    unfold conB at c
    simp only [Bool.and_eq_true] at c
    obtain ⟨c1, c2⟩ := c
    split at c2
    · rename_i vs hv
      exact ⟨_, .ref (He.ga K x), He.glo_ok X Gm c1, rfl, fun φ H => .tup (He.tupB_ok c2 H) (dvs_rel hv)⟩
    · cases c2
  | _ => cases c
/-- all that the head must tell, over K -/
def Spec.exB (s : Spec) (K : PySem.W.Frag) : Bool :=
  (s.cons.all fun p => conB K p.1 p.2) && (!s.t.bis.contains "gcd" || He.eqO (PySem.W.nsIn K mainGlobals "gcd") (some (some (.builtin "math.gcd")))) && parB K (He.ga K s.par) &&
    (s.t.cls.all fun c => oexB K (He.ga K c) && xfB K (He.ga K c) && eccB K (He.ga K c) && decide (PySem.W.kitOne K (.ref (He.ga K c)) (.type "ValueError") = some true) &&
      (s.par :: s.t.cls).all fun c' => decide (PySem.W.kitOne K (.ref (He.ga K c)) (.ref (He.ga K c')) = s.sub c c') && decide (PySem.W.exmOne K (.ref (He.ga K c)) (.ref (He.ga K c')) = s.sub c c'))
def Spec.fa (s : Spec) : List He.Fa := (s.t.fns.map .glo) ++ ((s.par :: s.t.cls).map .glo) ++ (s.t.cls.map fun c => .meth c "__init__") ++ (s.t.cls.map fun c => .noat c "given") ++
  ((s.t.bis.filter fun f => f != "gcd").map fun f => .free (Str.ofString f)) ++ ((["isinstance", "range", "enumerate", "zip"] ++ tyNames).map fun f => .free (Str.ofString f)) ++ [.free "ValueError"]
/-- what the text must tell -/
def Spec.good (s : Spec) : Bool :=
  (s.t.fns.all fun f => match s.defs.find? fun d => decide (d.name = f) with
    | some d => decide (d.at_ = (f, none)) && d.dfl.isEmpty && d.kwd.isEmpty && (cDef s.t d.params d.body d.scope).isSome
    | none => false) &&
  (s.t.cls.all fun c => match s.inits.find? fun d => decide (d.at_ = (c, some ("__init__" : Str))) with
    | some d => d.dfl.isEmpty && d.kwd.isEmpty && (match initOf d.params d.body d.scope with
      | some (B, _, _, f) => decide (B = s.par) && decide (f = ("given" : Str))
      | none => false)
    | none => false) &&
  (s.t.bis.all fun f => biNames.contains f) && !(s.par :: s.t.cls).contains ("ValueError" : Str)
theorem lookup_all {α : Type} {p : Str × α → Bool} {x : Str} {d : α} : ∀ {l : List (Str × α)}, l.all p = true → l.lookup x = some d → p (x, d) = true
  | [], _, h => by cases h
  | q :: l, ha, h => by
    rw [List.all_cons, Bool.and_eq_true] at ha
    unfold List.lookup at h
    split at h
    · rename_i he
      cases h
      obtain ⟨a, b⟩ := q
      cases (beq_iff_eq.mp he)
      exact ha.1
    · exact lookup_all ha.2 h
theorem facts_of {s : Spec} (hg : s.good = true) {K : PySem.W.Frag} {h : Heap} {mg : Str → Option Value} {w : World} {fn : List He.DefD} (hfn : fn = s.defs ++ s.inits) (X : K.In h) (Gm : h.Ns mainGlobals mg) (c : He.SaysD s.fa fn K) (hx : s.exB K = true) : Facts K mg s.t s.tbl := by
  subst hfn
  unfold Spec.good at hg
  simp only [Bool.and_eq_true, List.all_eq_true, Bool.not_eq_true'] at hg
  obtain ⟨⟨⟨g1, g2⟩, g3⟩, g4⟩ := hg
  unfold Spec.exB at hx
  simp only [Bool.and_eq_true] at hx
  obtain ⟨⟨⟨x1, x0⟩, x2⟩, x3⟩ := hx
  have glo : ∀ x, x ∈ s.t.fns ∨ x ∈ s.par :: s.t.cls → mg x = some (.ref (He.ga K x)) := fun x hx => He.glo_ok X Gm (c.facts (f := .glo x) (by
    unfold Spec.fa
    simp only [List.mem_append, List.mem_map]
    rcases hx with hx | hx
    · exact .inl (.inl (.inl (.inl (.inl (.inl ⟨x, hx, rfl⟩)))))
    · exact .inl (.inl (.inl (.inl (.inl (.inr ⟨x, hx, rfl⟩)))))))
  have mth : ∀ x, x ∈ s.t.cls → Meth K (He.ga K x) "__init__" (He.ma K (He.ga K x) "__init__") := fun x hx => He.meth_ok (c.facts (f := .meth x "__init__") (by
    unfold Spec.fa
    simp only [List.mem_append, List.mem_map]
    exact .inl (.inl (.inl (.inl (.inr ⟨x, hx, rfl⟩))))))
  have noa : ∀ x, x ∈ s.t.cls → PySem.W.findIn K (.ref (He.ga K x)) "given" = some none := fun x hx => He.noat_ok (c.facts (f := .noat x "given") (by
    unfold Spec.fa
    simp only [List.mem_append, List.mem_map]
    exact .inl (.inl (.inl (.inr ⟨x, hx, rfl⟩)))))
  have fre : ∀ f, f ∈ (["isinstance", "range", "enumerate", "zip"] ++ tyNames : List String) → mg (Str.ofString f) = none := fun f hf => He.free_ok X Gm (c.facts (f := .free (Str.ofString f)) (by
    unfold Spec.fa
    simp only [List.mem_append, List.mem_map]
    exact .inl (.inr ⟨f, List.mem_append.mp hf, rfl⟩)))
  have frv : mg "ValueError" = none := He.free_ok X Gm (c.facts (f := .free "ValueError") (by
    unfold Spec.fa
    simp))
  have gp : mg s.par = some (.ref (He.ga K s.par)) := glo s.par (.inr (List.mem_cons_self ..))
  have cl : ∀ x, x ∈ s.t.cls → OexC K (He.ga K x) ∧ XfC K (He.ga K x) ∧ ExcC K (He.ga K x) ∧ PySem.W.kitOne K (.ref (He.ga K x)) (.type "ValueError") = some true ∧ ∀ y ∈ s.par :: s.t.cls, PySem.W.kitOne K (.ref (He.ga K x)) (.ref (He.ga K y)) = s.sub x y ∧ PySem.W.exmOne K (.ref (He.ga K x)) (.ref (He.ga K y)) = s.sub x y := fun x hx => by
    have := List.all_eq_true.mp x3 x hx
    simp only [Bool.and_eq_true, decide_eq_true_eq] at this
    obtain ⟨⟨⟨⟨a1, a2⟩, a3⟩, a4⟩, a5⟩ := this
    have xf := xfB_ok a2
    refine ⟨oexB_ok a1, xf, ecc_ok xf a3, a4, fun y hy => ?_⟩
    have := List.all_eq_true.mp a5 y hy
    simpa only [Bool.and_eq_true, decide_eq_true_eq] using this
  refine { defs := fun f hf => ?_, bi := fun f hf => ?_, free := fre, gl := fun x d hd => ?_, rc := fun c hc => ?_, er := fun c0 f hc => ?_, su := fun c0 c' b hb => ?_ }
  · have hh := g1 f hf
    split at hh
    · rename_i d hd
      simp only [Bool.and_eq_true, decide_eq_true_eq, List.isEmpty_iff] at hh
      obtain ⟨⟨⟨h1, h2⟩, h3⟩, h4⟩ := hh
      obtain ⟨code, h5⟩ := Option.isSome_iff_exists.mp h4
      obtain ⟨fd, F⟩ := c.defs (List.mem_append_left _ (List.mem_of_find?_eq_some hd))
      have e1 : d.dvs K = [] := by unfold He.DefD.dvs; rw [h2]; rfl
      have e2 : d.kws K = [] := by unfold He.DefD.kws; rw [h3]; rfl
      rw [e1, e2, h1] at F
      refine ⟨_, fd, d.name, d.qual, d.params, d.body, d.scope, code, glo f (.inl hf), F, ?_, h5⟩
      show s.code f = _
      unfold Spec.code
      rw [hd]
      exact h5
    · cases hh
  · have hb : f ∈ biNames := by simpa using g3 f hf
    refine ⟨hb, ?_⟩
    split
    · rename_i e
      subst e
      have hc : s.t.bis.contains "gcd" = true := by simpa using hf
      rw [hc] at x0
      exact PySem.W.mg_of X Gm (He.eqO_ok (by simpa using x0))
    · rename_i e
      exact He.free_ok X Gm (c.facts (f := .free (Str.ofString f)) (by
        unfold Spec.fa
        simp only [List.mem_append, List.mem_map, List.mem_filter]
        exact .inl (.inl (.inr ⟨f, ⟨hf, by simpa using e⟩, rfl⟩))))
  · exact con_ok X Gm (lookup_all (p := fun p => conB K p.1 p.2) x1 hd)
  · exact ⟨"given", by show (if s.t.cls.contains c then some (some ("given" : Str)) else none) = _; rw [if_pos (by simpa using hc)]⟩
  · have hc' : (if s.t.cls.contains c0 then some (some ("given" : Str)) else none) = some (some f) := hc
    split at hc'
    · rename_i hin
      cases hc'
      have hin' : c0 ∈ s.t.cls := by simpa using hin
      have hh := g2 c0 hin'
      split at hh
      · rename_i d hd
        simp only [Bool.and_eq_true, List.isEmpty_iff] at hh
        obtain ⟨⟨h2, h3⟩, h4⟩ := hh
        split at h4
        · rename_i B s' g' f' hi
          simp only [Bool.and_eq_true, decide_eq_true_eq] at h4
          obtain ⟨rfl, rfl⟩ := h4
          have h1 : d.at_ = (c0, some ("__init__" : Str)) := by simpa using List.find?_some hd
          obtain ⟨fd, F⟩ := c.defs (List.mem_append_right _ (List.mem_of_find?_eq_some hd))
          have e1 : d.dvs K = [] := by unfold He.DefD.dvs; rw [h2]; rfl
          have e2 : d.kws K = [] := by unfold He.DefD.kws; rw [h3]; rfl
          rw [e1, e2, h1] at F
          have m := mth c0 hin'
          exact ⟨_, _, fd, d.name, d.qual, d.params, d.body, d.scope, s.par, s', g', _, glo c0 (.inr (List.mem_cons_of_mem _ hin')), (cl c0 hin').1, m.at_, beq_iff_eq.mp m.fn, noa c0 hin', F, hi, gp, parB_ok x2⟩
        · cases h4
      · cases hh
    · cases hc'
  · have hb' : s.sub c0 c' = some b := hb
    have hin : c0 ∈ s.t.cls := by
      unfold Spec.sub at hb'
      split at hb'
      · rename_i h; simpa using h
      · cases hb'
    obtain ⟨a1, a2, a3, a4, a5⟩ := cl c0 hin
    refine ⟨_, glo c0 (.inr (List.mem_cons_of_mem _ hin)), ⟨a2, a3, noa c0 hin⟩, ?_⟩
    by_cases hc' : c' ∈ s.par :: s.t.cls
    · obtain ⟨k1, k2⟩ := a5 c' hc'
      exact .inl ⟨_, glo c' (.inr hc'), k1.trans hb', k2.trans hb'⟩
    · unfold Spec.sub at hb'
      rw [if_pos (by simpa using hin)] at hb'
      split at hb'
      · rename_i h
        exact absurd (by simpa [or_comm] using h) hc'
      · split at hb'
        · rename_i h
          cases hb'
          cases (beq_iff_eq.mp h)
          exact .inr ⟨rfl, frv, a4⟩
        · cases hb'
/-! ### the hook: what the names reach, and the interpreter's own statics -/
def asC (g : Addr → Option Obj) (n : Nat) : List Addr := He.asD g n ++ [cStatics]
def obsC (n : Nat) (fa : List He.Fa) (fn : List He.DefD) (ex : PySem.W.Frag → Bool) (g : Addr → Option Obj) : He.AlD × Bool := (He.obsD fa fn (He.frG g (asC g n)), ex (He.frG g (asC g n)))
def hookC (n : Nat) (fa : List He.Fa) (fn : List He.DefD) (ex : PySem.W.Frag → Bool) : PySem.W.Hook where
  α := He.AlD × Bool
  obs := fun s => obsC n fa fn ex s.heap.get?
  val := fun _ => (He.valD fn, true)
  says := fun _ h => ∃ K : PySem.W.Frag, K.In h ∧ He.SaysD fa fn K ∧ ex K = true
  of := fun _ _ e => ⟨_, He.frG_in, congrArg (fun z : He.AlD × Bool => z.1) e, congrArg (fun z : He.AlD × Bool => z.2) e⟩
  keeps := fun _ _ _ ⟨K, hK, c⟩ k => ⟨K, PySem.W.Frag.In.keeps hK k, c⟩
theorem obsC_eq {n : Nat} {fa : List He.Fa} {fn : List He.DefD} {ex : PySem.W.Frag → Bool} {g : Addr → Option Obj} {s : Shared} (h : ∀ a, g a = s.heap.get? a) : obsC n fa fn ex g = (hookC n fa fn ex).obs s := by
  have e : g = s.heap.get? := funext h
  rw [e] <;> rfl
end G

end

section
set_option Elab.async false
set_option linter.all false
set_option maxRecDepth 100000
/-! G19: the law's end. -/
namespace G
open PySem PySem.Spec PyProof.Rows L2
section
variable {P : Program} {w : World} {K : PySem.W.Frag} {mg : Str → Option Value} {base : Heap}
theorem FnOk.calm0 {k : Nat} {f : Addr} {fd : FuncData} {ps : List Str} {sp : Sp} (F : FnOk P w K mg base (L2.CX P w) k f fd ps sp) : FnOk P w K mg base CX0 k f fd ps (fun vs H Q _ => sp vs H Q fun _ _ _ => False) :=
  ⟨fun vs H Q E h => F.len _ _ _ _ h, fun A outer s H args us vs Q E hr he hb hv hs => codeAny_mono (F.run A outer s H args us vs Q _ hr he hb hv hs) fun r s' h => by
    cases r with
    | error e =>
      obtain ⟨_, _, _, _, _, _, _, _, _, _, _, _, z⟩ := h
      exact z.elim
    | ok f =>
      cases f <;> exact h⟩
/-- all that is left of a law -/
theorem law_F {s : Spec} {fn : List He.DefD} (hg : s.good = true) (hfn : fn = s.defs ++ s.inits) (hl : ("law" : Str) ∈ s.t.fns) {wn k : Nat} {d : CDef} (hd : s.code "law" = some d) (hps : d.ps = [("script" : Str)])
    (hv : ∀ ns : List Int, ns.length ≤ 63 → ∃ S', call s.tbl wn k "law" [.fl (ns.map .int)] [] = .ok (.bl true) S') {h : Heap} (X : K.In h) (Gm : h.Ns mainGlobals mg) (c : He.SaysD s.fa fn K) (hx : s.exB K = true) {fa : Addr} (hfa : mg ("law" : Str) = some (.ref fa)) :
    ∃ (fd : FuncData) (sp : Sp), (∀ (s : Shared) (u : Value), BindsTo s fd ⟨[u], []⟩ [(("script" : Str), u)]) ∧
      (∀ (H : Hp) (a : Addr) (ns : List Int), ns.length ≤ 63 → Only H → SqL K H a (ns.map V.int) → sp [.ref a] H (fun v _ => v = .bl true) fun _ _ _ => False) ∧
        ∀ base : Heap, K.In base → base.Ns mainGlobals mg → FnOk P w K mg base CX0 (k + 2) fa fd [("script" : Str)] sp := by
  have FF := facts_of (w := w) hg hfn X Gm c hx
  obtain ⟨fa', fd, x, qual, a, b, sc, d', hm, F, hd', hc⟩ := FF.defs "law" hl
  rw [hfa] at hm
  cases hm
  have e : d' = d := Option.some.inj (hd'.symm.trans hd)
  subst e
  obtain ⟨c1, c2, c3, c4, c5⟩ := cDef_get hc
  have FS := scope_of c4
  have nd : d'.ps.Nodup := by rw [hps]; decide
  refine ⟨fd, fun vs H Q _ => spF K mg (call s.tbl wn k "law") vs H Q fun _ _ _ => False, fun s0 u => ?_, fun H a ns hn ho hs => ?_, fun base hb hbn => ?_⟩
  · obtain ⟨oc, od, dV, kV, doc, pm, an, cdv, ct, osl, rfl, lk, hcd, hD, hK⟩ := F.ex
    rcases hD with ⟨_, rfl⟩ | ⟨e, _⟩
    · have := bind_pos (fd := PySem.W.fnOf x qual a b sc .none kV doc pm an cdv ct) (ps := d'.ps) c1 rfl c2 nd [u] (by rw [hps]; rfl)
      rw [hps] at this
      exact .of_eq this
    · exact absurd rfl e
  · obtain ⟨S', e⟩ := hv ns hn
    have hsF : SqF K H a (ns.map V.int) := by
      rcases hs with (h1 | ⟨o, h1⟩) | h1
      · rcases ho a with z | ⟨o, xs, z⟩
        · rw [h1] at z; cases z
        · rw [h1] at z; cases z
      · exact .inl ⟨o, h1⟩
      · exact .inr h1
    refine ⟨[], [], [.fl (ns.map .int)], ⟨rfl, List.nodup_nil, fun n o a e => by simp at e⟩, .cons (.fl hsF (RelDs.of (Pd.map (f := D.int) (g := V.int) fun x _ => .int x))) .nil, ?_⟩
    rw [e]
    intro φ' y H' _ _ r
    cases r
    rfl
  · have := FnOk.calm0 (def_ok (P := P) (w := w) (base := base) FF wn k "law" fa fd x qual a b sc d' hfa F hd' hc)
    rw [hps] at this
    exact this
end
end G

end

section
set_option Elab.async false
set_option linter.all false
/-! M0: what a list of free jobs waits, as whole numbers. -/
namespace G
abbrev IJ := Int × Int
def mn (x y : IJ) : Int := min (x.1 * y.2) (y.1 * x.2)
theorem mn_comm (x y : IJ) : mn x y = mn y x := by unfold mn; exact Int.min_comm _ _
def cross (x : IJ) : List IJ → Int
  | [] => 0
  | y :: r => mn x y + cross x r
def PW : List IJ → Int
  | [] => 0
  | x :: r => x.1 * x.2 + cross x r + PW r
theorem cross_perm {x : IJ} {l m : List IJ} (h : l.Perm m) : cross x l = cross x m := by
  induction h with
  | nil => rfl
  | cons y _ ih => simp [cross, ih]
  | swap y z l => simp only [cross]; omega
  | trans _ _ i1 i2 => rw [i1, i2]
theorem PW_perm {l m : List IJ} (h : l.Perm m) : PW l = PW m := by
  induction h with
  | nil => rfl
  | cons y p ih => simp [PW, ih, cross_perm p]
  | swap y z l => simp only [PW, cross]; rw [mn_comm y z]; omega
  | trans _ _ i1 i2 => rw [i1, i2]
theorem PW_snoc (l : List IJ) (x : IJ) : PW (l ++ [x]) = PW l + x.1 * x.2 + cross x l := by
  have : (l ++ [x]).Perm (x :: l) := List.perm_append_comm
  rw [PW_perm this]; simp only [PW]; omega
def sum1 : List IJ → Int
  | [] => 0
  | x :: r => x.1 + sum1 r
def sum2 : List IJ → Int
  | [] => 0
  | x :: r => x.2 + sum2 r
theorem sum1_perm {l m : List IJ} (h : l.Perm m) : sum1 l = sum1 m := by
  induction h with
  | nil => rfl
  | cons y _ ih => simp [sum1, ih]
  | swap y z l => simp only [sum1]; omega
  | trans _ _ i1 i2 => rw [i1, i2]
/-- the wait of a row, begun at e -/
def CW (e : Int) : List IJ → Int
  | [] => 0
  | x :: r => (e + x.1) * x.2 + CW (e + x.1) r
/-- r ahead of x -/
def ah (r x : IJ) : Prop := r.1 * x.2 ≤ x.1 * r.2
/-- a job that is one -/
def pos (x : IJ) : Prop := 0 ≤ x.1 ∧ 0 ≤ x.2 ∧ 0 < x.1 + x.2
theorem mn_ah {r x : IJ} (h : ah r x) : mn r x = r.1 * x.2 := by unfold mn; exact Int.min_eq_left h
theorem cross_ah {x : IJ} : ∀ {l : List IJ}, (∀ y ∈ l, ah x y) → cross x l = x.1 * sum2 l
  | [], _ => by simp [cross, sum2]
  | y :: r, h => by
    simp only [cross, sum2]
    rw [mn_ah (h y (by simp)), cross_ah (l := r) fun z hz => h z (by simp [hz]), Int.mul_add]
theorem CW_sorted : ∀ {l : List IJ} {e : Int}, l.Pairwise ah → CW e l = e * sum2 l + PW l
  | [], e, _ => by simp [CW, sum2, PW]
  | x :: r, e, h => by
    rw [List.pairwise_cons] at h
    simp only [CW, sum2, PW]
    rw [CW_sorted h.2, cross_ah h.1]
    rw [Int.add_mul, Int.add_mul, Int.mul_add]
    omega
theorem ah_trans {x y z : IJ} (px : pos x) (py : pos y) (pz : pos z) (h1 : ah x y) (h2 : ah y z) : ah x z := by
  obtain ⟨x1, x2⟩ := x
  obtain ⟨y1, y2⟩ := y
  obtain ⟨z1, z2⟩ := z
  simp only [ah, pos] at *
  -- x1 y2 ≤ y1 x2, y1 z2 ≤ z1 y2
  by_cases hy : 0 < y2
  · have a1 : x1 * y2 * z2 ≤ y1 * x2 * z2 := Int.mul_le_mul_of_nonneg_right h1 pz.2.1
    have a2 : y1 * z2 * x2 ≤ z1 * y2 * x2 := Int.mul_le_mul_of_nonneg_right h2 px.2.1
    have e1 : y1 * x2 * z2 = y1 * z2 * x2 := by ac_rfl
    have e2 : x1 * y2 * z2 = x1 * z2 * y2 := by ac_rfl
    have e3 : z1 * y2 * x2 = z1 * x2 * y2 := by ac_rfl
    rw [e2] at a1; rw [e3] at a2
    have := Int.le_trans a1 (e1 ▸ a2)
    exact Int.le_of_mul_le_mul_right this hy
  · have y20 : y2 = 0 := by omega
    have y1p : 0 < y1 := by omega
    subst y20
    simp at h2
    have : z2 = 0 := by
      have h3 : y1 * z2 ≤ y1 * 0 := by simpa using h2
      have := Int.le_of_mul_le_mul_left h3 y1p
      omega
    subst this
    simp
    exact Int.mul_nonneg pz.1 px.2.1
theorem ah_total (x y : IJ) : ah x y ∨ ah y x := by unfold ah; omega
/-- the place of x in a row -/
def plc (x : IJ) : List IJ → Nat
  | [] => 0
  | r :: t => if r.2 * x.1 < x.2 * r.1 then 0 else plc x t + 1
def ins (x : IJ) (l : List IJ) : List IJ := l.take (plc x l) ++ x :: l.drop (plc x l)
theorem plc_le (x : IJ) : ∀ l, plc x l ≤ l.length
  | [] => by simp [plc]
  | r :: t => by
    have := plc_le x t
    simp only [plc]; split <;> simp <;> omega
theorem ins_cons (x r : IJ) (t : List IJ) : ins x (r :: t) = if r.2 * x.1 < x.2 * r.1 then x :: r :: t else r :: ins x t := by
  unfold ins; simp only [plc]; split <;> simp
theorem ins_perm (x : IJ) (l : List IJ) : (ins x l).Perm (x :: l) := by
  unfold ins
  exact List.perm_middle.trans (by rw [List.take_append_drop])
theorem ins_mem {x y : IJ} {l : List IJ} (h : y ∈ ins x l) : y = x ∨ y ∈ l := by
  have := (ins_perm x l).mem_iff.mp h
  simpa using this
theorem ins_sorted {x : IJ} (px : pos x) : ∀ {l : List IJ}, (∀ y ∈ l, pos y) → l.Pairwise ah → (ins x l).Pairwise ah
  | [], _, _ => by simp [ins, plc]
  | r :: t, hp, h => by
    rw [ins_cons]
    have h' := List.pairwise_cons.mp h
    split
    · rename_i hlt
      rw [List.pairwise_cons]
      refine ⟨fun y hy => ?_, h⟩
      have xr : ah x r := by
        unfold ah
        have e1 : x.1 * r.2 = r.2 * x.1 := by ac_rfl
        have e2 : r.1 * x.2 = x.2 * r.1 := by ac_rfl
        omega
      rcases List.mem_cons.mp hy with rfl | hy
      · exact xr
      · exact ah_trans px (hp r (by simp)) (hp y (by simp [hy])) xr (h'.1 y hy)
    · rename_i hlt
      rw [List.pairwise_cons]
      refine ⟨fun y hy => ?_, ins_sorted px (fun y hy => hp y (by simp [hy])) h'.2⟩
      rcases ins_mem hy with rfl | hy
      · unfold ah
        have e1 : y.1 * r.2 = r.2 * y.1 := by ac_rfl
        have e2 : r.1 * y.2 = y.2 * r.1 := by ac_rfl
        omega
      · exact h'.1 y hy
/-- a row of all jobs, one after another put in -/
def insAll : List IJ → List IJ → List IJ
  | [], row => row
  | x :: r, row => insAll r (ins x row)
theorem insAll_perm : ∀ (l row : List IJ), (insAll l row).Perm (l ++ row)
  | [], row => by simp [insAll]
  | x :: r, row => by
    simp only [insAll]
    refine (insAll_perm r (ins x row)).trans ?_
    refine ((List.Perm.refl r).append (ins_perm x row)).trans ?_
    simpa using List.perm_middle
theorem insAll_sorted : ∀ {l row : List IJ}, (∀ y ∈ l, pos y) → (∀ y ∈ row, pos y) → row.Pairwise ah → (insAll l row).Pairwise ah
  | [], row, _, _, h => h
  | x :: r, row, hl, hr, h => by
    simp only [insAll]
    refine insAll_sorted (fun y hy => hl y (by simp [hy])) (fun y hy => ?_) (ins_sorted (hl x (by simp)) hr h)
    rcases ins_mem hy with rfl | hy
    · exact hl y (by simp)
    · exact hr y hy
theorem smith {l : List IJ} (h : ∀ y ∈ l, pos y) : CW 0 (insAll l []) = PW l := by
  rw [CW_sorted (insAll_sorted h (by simp) (by simp)), PW_perm (insAll_perm l [])]
  simp
/-! sets of jobs -/
def subs : List IJ → Nat → List IJ
  | [], _ => []
  | x :: r, m => if m.testBit 0 then x :: subs r (m / 2) else subs r (m / 2)
theorem tb_or {m i j : Nat} : (m ||| 2 ^ i).testBit j = (m.testBit j || decide (i = j)) := by
  rw [Nat.testBit_or, Nat.testBit_two_pow]
theorem or_half {m i : Nat} : (m ||| 2 ^ (i + 1)) / 2 = m / 2 ||| 2 ^ i := by
  apply Nat.eq_of_testBit_eq
  intro j
  rw [Nat.testBit_div_two, tb_or, tb_or, Nat.testBit_div_two]
  simp
theorem or_one_half {m : Nat} : (m ||| 1) / 2 = m / 2 := by
  apply Nat.eq_of_testBit_eq
  intro j
  have : m ||| 1 = m ||| 2 ^ 0 := by simp
  rw [Nat.testBit_div_two, this, tb_or, Nat.testBit_div_two]
  simp
theorem subs_put : ∀ {l : List IJ} {m i : Nat} {x : IJ}, l[i]? = some x → m.testBit i = false → (subs l (m ||| 2 ^ i)).Perm (x :: subs l m)
  | [], m, i, x, h, _ => by simp at h
  | y :: r, m, 0, x, h, hb => by
    simp at h; subst h
    have e : m ||| 2 ^ 0 = m ||| 1 := by simp
    rw [e]
    have t1 : (m ||| 1).testBit 0 = true := by rw [← e, tb_or]; simp
    unfold subs
    rw [t1, hb, or_one_half]
    simp
  | y :: r, m, i + 1, x, h, hb => by
    simp at h
    have t1 : (m ||| 2 ^ (i + 1)).testBit 0 = m.testBit 0 := by rw [tb_or]; simp
    have hb' : (m / 2).testBit i = false := by rw [Nat.testBit_div_two]; exact hb
    have ih := subs_put (l := r) (m := m / 2) (i := i) h hb'
    unfold subs
    rw [t1, or_half]
    split
    · exact ((List.Perm.cons y ih)).trans (List.Perm.swap x y _)
    · exact ih
theorem subs_get : ∀ {l : List IJ} {m : Nat} {x : IJ}, x ∈ subs l m → ∃ i m', l[i]? = some x ∧ m'.testBit i = false ∧ m = m' ||| 2 ^ i ∧ m' < m
  | [], m, x, h => by simp [subs] at h
  | y :: r, m, x, h => by
    unfold subs at h
    by_cases hb : m.testBit 0 = true
    · rw [hb] at h
      simp at h
      rcases h with rfl | h
      · refine ⟨0, m - 1, rfl, ?_, ?_, ?_⟩
        · simp [Nat.testBit_zero] at hb ⊢; omega
        · simp [Nat.testBit_zero] at hb
          apply Nat.eq_of_testBit_eq
          intro j
          rw [tb_or]
          cases j with
          | zero => simp [Nat.testBit_zero, hb]
          | succ j =>
            rw [Nat.testBit_succ, Nat.testBit_succ]
            have : (m - 1) / 2 = m / 2 := by omega
            rw [this]; simp
        · simp [Nat.testBit_zero] at hb; omega
      · obtain ⟨i, m', h1, h2, h3, h4⟩ := subs_get h
        refine ⟨i + 1, 2 * m' + 1, by simpa using h1, ?_, ?_, ?_⟩
        · rw [Nat.testBit_succ]
          have : (2 * m' + 1) / 2 = m' := by omega
          rw [this]; exact h2
        · simp [Nat.testBit_zero] at hb
          apply Nat.eq_of_testBit_eq
          intro j
          rw [tb_or]
          cases j with
          | zero =>
            simp [Nat.testBit_zero, hb]
          | succ j =>
            rw [Nat.testBit_succ, Nat.testBit_succ, h3, tb_or]
            have : (2 * m' + 1) / 2 = m' := by omega
            rw [this]; simp
        · omega
    · rw [Bool.not_eq_true] at hb
      rw [hb] at h
      simp at h
      obtain ⟨i, m', h1, h2, h3, h4⟩ := subs_get h
      simp [Nat.testBit_zero] at hb
      refine ⟨i + 1, 2 * m', by simpa using h1, ?_, ?_, ?_⟩
      · rw [Nat.testBit_succ]
        have : (2 * m') / 2 = m' := by omega
        rw [this]; exact h2
      · apply Nat.eq_of_testBit_eq
        intro j
        rw [tb_or]
        cases j with
        | zero => simp [Nat.testBit_zero, hb]
        | succ j =>
          rw [Nat.testBit_succ, Nat.testBit_succ, h3, tb_or]
          have : (2 * m') / 2 = m' := by omega
          rw [this]; simp
      · omega
theorem subs_mem : ∀ {l : List IJ} {m : Nat} {x : IJ}, x ∈ subs l m → x ∈ l
  | [], m, x, h => by simp [subs] at h
  | y :: r, m, x, h => by
    unfold subs at h
    split at h
    · rcases List.mem_cons.mp h with rfl | h
      · simp
      · simp [subs_mem h]
    · simp [subs_mem h]
theorem subs_zero : ∀ l, subs l 0 = []
  | [] => rfl
  | y :: r => by unfold subs; simp [subs_zero r]
theorem subs_full : ∀ l, subs l (2 ^ l.length - 1) = l
  | [] => rfl
  | y :: r => by
    unfold subs
    have h1 : (2 ^ (y :: r).length - 1).testBit 0 = true := by
      simp [Nat.testBit_zero, Nat.pow_succ]
      have := Nat.one_le_two_pow (n := r.length)
      omega
    have h2 : (2 ^ (y :: r).length - 1) / 2 = 2 ^ r.length - 1 := by
      simp [Nat.pow_succ]; omega
    rw [h1, h2, subs_full r]; simp
theorem subs_ne {l : List IJ} {m : Nat} (h : m ≠ 0) (hm : m < 2 ^ l.length) : subs l m ≠ [] := by
  induction l generalizing m with
  | nil => simp at hm; omega
  | cons y r ih =>
    unfold subs
    split
    · simp
    · rename_i hb
      simp [Nat.testBit_zero] at hb
      refine ih (by omega) ?_
      simp [Nat.pow_succ] at hm; omega
theorem last_of : ∀ {l : List IJ}, (∀ y ∈ l, pos y) → l ≠ [] → ∃ x ∈ l, ∀ y ∈ l, ah y x
  | [], _, h => absurd rfl h
  | [x], _, _ => ⟨x, by simp, fun y hy => by simp at hy; subst hy; exact Int.le_refl _⟩
  | x :: z :: r, hp, _ => by
    obtain ⟨w, hw, h⟩ := last_of (l := z :: r) (fun y hy => hp y (by simp at hy ⊢; exact .inr hy)) (by simp)
    have hw' : w ∈ x :: z :: r := List.mem_cons_of_mem _ hw
    rcases ah_total x w with q | q
    · exact ⟨w, hw', fun y hy => by
        rcases List.mem_cons.mp hy with rfl | hy
        · exact q
        · exact h y hy⟩
    · exact ⟨x, by simp, fun y hy => by
        rcases List.mem_cons.mp hy with rfl | hy
        · exact Int.le_refl _
        · exact ah_trans (hp y (List.mem_cons_of_mem _ hy)) (hp w hw') (hp x (by simp)) (h y hy) q⟩
theorem cross_le {x : IJ} : ∀ {l : List IJ}, cross x l ≤ sum1 l * x.2
  | [] => by simp [cross, sum1]
  | y :: r => by
    have := cross_le (x := x) (l := r)
    have h2 : mn x y ≤ y.1 * x.2 := by unfold mn; omega
    simp only [cross, sum1]; rw [Int.add_mul]; omega
theorem cross_last {x : IJ} : ∀ {l : List IJ}, (∀ y ∈ l, ah y x) → cross x l = sum1 l * x.2
  | [], _ => by simp [cross, sum1]
  | y :: r, h => by
    have := cross_last (x := x) (l := r) fun z hz => h z (by simp [hz])
    have h2 : mn x y = y.1 * x.2 := by rw [mn_comm]; exact mn_ah (h y (by simp))
    simp only [cross, sum1]; rw [Int.add_mul, h2, this]
/-- the least wait of a set -/
def FP (l : List IJ) (m : Nat) : Int := PW (subs l m)
def FA (l : List IJ) (m : Nat) : Int := sum1 (subs l m)
theorem FA_put {l : List IJ} {m i : Nat} {x : IJ} (h : l[i]? = some x) (hb : m.testBit i = false) : FA l (m ||| 2 ^ i) = FA l m + x.1 := by
  unfold FA; rw [sum1_perm (subs_put h hb)]; simp only [sum1]; omega
theorem FP_put {l : List IJ} {m i : Nat} {x : IJ} (h : l[i]? = some x) (hb : m.testBit i = false) : FP l (m ||| 2 ^ i) ≤ FP l m + x.2 * (FA l m + x.1) := by
  unfold FP FA; rw [PW_perm (subs_put h hb)]; simp only [PW]
  have := cross_le (x := x) (l := subs l m)
  rw [Int.mul_add, Int.mul_comm x.2 (sum1 _), Int.mul_comm x.2 x.1]; omega
theorem FP_last {l : List IJ} (hp : ∀ y ∈ l, pos y) {m : Nat} (h0 : m ≠ 0) (hm : m < 2 ^ l.length) : ∃ i m' x, l[i]? = some x ∧ m'.testBit i = false ∧ m = m' ||| 2 ^ i ∧ m' < m ∧ FP l m = FP l m' + x.2 * (FA l m' + x.1) := by
  obtain ⟨x, hx, hl⟩ := last_of (l := subs l m) (fun y hy => hp y (subs_mem hy)) (subs_ne h0 hm)
  obtain ⟨i, m', h1, h2, h3, h4⟩ := subs_get hx
  refine ⟨i, m', x, h1, h2, h3, h4, ?_⟩
  have pm := subs_put h1 h2
  rw [← h3] at pm
  unfold FP FA
  rw [PW_perm pm]
  simp only [PW]
  have : cross x (subs l m') = sum1 (subs l m') * x.2 := cross_last fun y hy => hl y (pm.mem_iff.mpr (by simp [hy]))
  rw [this, Int.mul_add, Int.mul_comm x.2 (sum1 _), Int.mul_comm x.2 x.1]; omega
/-- multiplied through -/
theorem PW_scale {g h : Int} (hg : 0 ≤ g) (hh : 0 ≤ h) : ∀ {l m : List IJ}, l.length = m.length → (∀ p ∈ l.zip m, p.1.1 * g = p.2.1 * h ∧ p.1.2 * g = p.2.2 * h) → PW l * (g * g) = PW m * (h * h)
  | [], [], _, _ => by simp [PW]
  | [], _ :: _, e, _ => by simp at e
  | _ :: _, [], e, _ => by simp at e
  | x :: l, y :: m, e, hz => by
    have ih := PW_scale hg hh (l := l) (m := m) (by simpa using e) fun p hp => hz p (by simp [hp])
    have hxy := hz (x, y) (by simp)
    have mnE : ∀ z w : IJ, z.1 * g = w.1 * h → z.2 * g = w.2 * h → mn x z * (g * g) = mn y w * (h * h) := by
      intro z w e1 e2
      have gg := Int.mul_nonneg hg hg
      have hhh := Int.mul_nonneg hh hh
      have minmul : ∀ a b c : Int, 0 ≤ c → min a b * c = min (a * c) (b * c) := by
        intro a b c hc
        rcases Int.le_total a b with q | q
        · rw [Int.min_eq_left q, Int.min_eq_left (Int.mul_le_mul_of_nonneg_right q hc)]
        · rw [Int.min_eq_right q, Int.min_eq_right (Int.mul_le_mul_of_nonneg_right q hc)]
      unfold mn
      rw [minmul _ _ _ gg, minmul _ _ _ hhh]
      have a1 : x.1 * z.2 * (g * g) = (x.1 * g) * (z.2 * g) := by ac_rfl
      have a2 : z.1 * x.2 * (g * g) = (z.1 * g) * (x.2 * g) := by ac_rfl
      have a3 : y.1 * w.2 * (h * h) = (y.1 * h) * (w.2 * h) := by ac_rfl
      have a4 : w.1 * y.2 * (h * h) = (w.1 * h) * (y.2 * h) := by ac_rfl
      rw [a1, a2, a3, a4, hxy.1, hxy.2, e1, e2]
    have cr : ∀ {u v : List IJ}, u.length = v.length → (∀ p ∈ u.zip v, p.1.1 * g = p.2.1 * h ∧ p.1.2 * g = p.2.2 * h) → cross x u * (g * g) = cross y v * (h * h) := by
      intro u
      induction u with
      | nil => intro v e _; cases v with
        | nil => simp [cross]
        | cons _ _ => simp at e
      | cons z u ihu => intro v e hz; cases v with
        | nil => simp at e
        | cons w v =>
          have q := hz (z, w) (by simp)
          simp only [cross]
          rw [Int.add_mul, Int.add_mul, mnE z w q.1 q.2, ihu (by simpa using e) fun p hp => hz p (by simp [hp])]
    simp only [PW]
    have c := cr (u := l) (v := m) (by simpa using e) fun p hp => hz p (by simp [hp])
    have d : x.1 * x.2 * (g * g) = y.1 * y.2 * (h * h) := by
      have a1 : x.1 * x.2 * (g * g) = (x.1 * g) * (x.2 * g) := by ac_rfl
      have a2 : y.1 * y.2 * (h * h) = (y.1 * h) * (y.2 * h) := by ac_rfl
      rw [a1, a2, hxy.1, hxy.2]
    rw [Int.add_mul, Int.add_mul, Int.add_mul, Int.add_mul, c, d, ih]
end G

end

section
set_option Elab.async false
set_option linter.all false
set_option maxRecDepth 100000
/-! K0: codes of defs that stand in several laws. -/
namespace G
open PySem
def c_is_integer : CDef := ⟨["value"], 1, (.cons (.ret (.and (.cons false (.isi (.var 0) ["int"]) (.cons false (.not (.isi (.var 0) ["bool"])) .nil))))
    .nil)⟩
def c_is_list : CDef := ⟨["value"], 1, (.cons (.ret (.isi (.var 0) ["list", "tuple"]))
    .nil)⟩
def c_is_tuple : CDef := ⟨["value", "many"], 2, (.cons (.ret (.and (.cons false (.isi (.var 0) ["tuple"]) (.cons false (.cmp .Eq (.bi "len" (.cons false (.var 0) .nil)) (.var 1)) .nil))))
    .nil)⟩
def c_reduced : CDef := ⟨["top", "base"], 3, (.cons (.asg (.nm 2) (.bi "gcd" (.cons false (.var 0) (.cons false (.var 1) .nil))))
    (.cons (.ife (.cmp .Lt (.var 1) (.cst (.int (0)))) (.cons (.asg (.nm 2) (.neg (.var 2)))
    .nil) .nil)
    (.cons (.ret (.tup (.cons false (.bin .FloorDiv (.var 0) (.var 2)) (.cons false (.bin .FloorDiv (.var 1) (.var 2)) .nil))))
    .nil)))⟩
def c_is_fraction : CDef := ⟨["value"], 2, (.cons (.ife (.or (.cons false (.not (.call "is_tuple" (.cons false (.var 0) (.cons false (.cst (.int (2))) .nil)))) (.cons false (.not (.bi "all" (.cons false (.lc (.nm 1) (.seq (.var 0)) .nil [1] (.call "is_integer" (.cons false (.var 1) .nil))) .nil))) .nil))) (.cons (.ret (.cst (.bl false)))
    .nil) .nil)
    (.cons (.ret (.and (.cons false (.cmp .Gt (.ix (.var 0) (.cst (.int (1)))) (.cst (.int (0)))) (.cons false (.cmp .Eq (.bi "gcd" (.cons false (.ix (.var 0) (.cst (.int (0)))) (.cons false (.ix (.var 0) (.cst (.int (1)))) .nil))) (.cst (.int (1)))) .nil))))
    .nil))⟩
def c_is_amount : CDef := ⟨["value"], 1, (.cons (.ret (.and (.cons false (.call "is_fraction" (.cons false (.var 0) .nil)) (.cons false (.cmp .GtE (.ix (.var 0) (.cst (.int (0)))) (.cst (.int (0)))) .nil))))
    .nil)⟩
def c_add : CDef := ⟨["one", "other"], 2, (.cons (.ret (.call "reduced" (.cons false (.bin .Add (.bin .Mult (.ix (.var 0) (.cst (.int (0)))) (.ix (.var 1) (.cst (.int (1))))) (.bin .Mult (.ix (.var 1) (.cst (.int (0)))) (.ix (.var 0) (.cst (.int (1)))))) (.cons false (.bin .Mult (.ix (.var 0) (.cst (.int (1)))) (.ix (.var 1) (.cst (.int (1))))) .nil))))
    .nil)⟩
def c_multiply : CDef := ⟨["one", "other"], 2, (.cons (.ret (.call "reduced" (.cons false (.bin .Mult (.ix (.var 0) (.cst (.int (0)))) (.ix (.var 1) (.cst (.int (0))))) (.cons false (.bin .Mult (.ix (.var 0) (.cst (.int (1)))) (.ix (.var 1) (.cst (.int (1))))) .nil))))
    .nil)⟩
def c_is_below : CDef := ⟨["one", "other"], 2, (.cons (.ret (.cmp .Lt (.bin .Mult (.ix (.var 0) (.cst (.int (0)))) (.ix (.var 1) (.cst (.int (1))))) (.bin .Mult (.ix (.var 1) (.cst (.int (0)))) (.ix (.var 0) (.cst (.int (1)))))))
    .nil)⟩
def c_least_of : CDef := ⟨["one", "other"], 2, (.cons (.ret (.ite (.call "is_below" (.cons false (.var 1) (.cons false (.var 0) .nil))) (.var 1) (.var 0)))
    .nil)⟩
def c_is_job : CDef := ⟨["value"], 1, (.cons (.ret (.and (.cons false (.call "is_tuple" (.cons false (.var 0) (.cons false (.cst (.int (2))) .nil))) (.cons false (.call "is_amount" (.cons false (.ix (.var 0) (.cst (.int (0)))) .nil)) (.cons false (.call "is_amount" (.cons false (.ix (.var 0) (.cst (.int (1)))) .nil)) (.cons false (.cmp .NotEq (.var 0) (.tup (.cons false (.glob "ZERO") (.cons false (.glob "ZERO") .nil)))) .nil))))))
    .nil)⟩
def c_pair_of : CDef := ⟨["one", "other"], 2, (.cons (.ret (.call "least_of" (.cons false (.call "multiply" (.cons false (.ix (.var 0) (.cst (.int (0)))) (.cons false (.ix (.var 1) (.cst (.int (1)))) .nil))) (.cons false (.call "multiply" (.cons false (.ix (.var 1) (.cst (.int (0)))) (.cons false (.ix (.var 0) (.cst (.int (1)))) .nil))) .nil))))
    .nil)⟩
def s_pair_wait_1_1_1 : CS := .raise "InvalidJob" (.cons false (.var 2) .nil)
def s_pair_wait_1_1 : CS := .ife (.not (.call "is_job" (.cons false (.var 2) .nil))) (.cons s_pair_wait_1_1_1 .nil) .nil
def s_pair_wait_1 : CS := .for (.nm 2) (.seq (.tup (.cons false (.var 0) (.cons false (.var 1) .nil)))) (.cons s_pair_wait_1_1 .nil)
def s_pair_wait_2 : CS := .ret (.call "pair_of" (.cons false (.var 0) (.cons false (.var 1) .nil)))
def c_pair_wait : CDef := ⟨["one", "other"], 3, (.cons s_pair_wait_1 (.cons s_pair_wait_2 .nil))⟩
def c_are_free : CDef := ⟨["value"], 2, (.cons (.ret (.and (.cons false (.call "is_list" (.cons false (.var 0) .nil)) (.cons false (.cmp .LtE (.bi "len" (.cons false (.var 0) .nil)) (.glob "MOST_FREE")) (.cons false (.bi "all" (.cons false (.lc (.nm 1) (.seq (.var 0)) .nil [1] (.call "is_job" (.cons false (.var 1) .nil))) .nil)) .nil)))))
    .nil)⟩
def c_check_jobs : CDef := ⟨["jobs"], 1, (.cons (.ife (.not (.call "are_free" (.cons false (.var 0) .nil))) (.cons (.raise "InvalidJobs" (.cons false (.var 0) .nil))
    .nil) .nil)
    .nil)⟩
def s_free_of_1 : CS := .asg (.nm 1) (.glob "ZERO")
def s_free_of_2_1 : CS := .asg (.nm 1) (.call "add" (.cons false (.var 1) (.cons false (.call "multiply" (.cons false (.ix (.var 3) (.cst (.int (0)))) (.cons false (.ix (.var 3) (.cst (.int (1)))) .nil))) .nil)))
def s_free_of_2_2_1 : CS := .asg (.nm 1) (.call "add" (.cons false (.var 1) (.cons false (.call "pair_of" (.cons false (.var 3) (.cons false (.var 4) .nil))) .nil)))
def s_free_of_2_2 : CS := .for (.nm 4) (.seq (.sl (.var 0) .none (.some (.var 2)))) (.cons s_free_of_2_2_1 .nil)
def s_free_of_2 : CS := .for (.tup [(.nm 2), (.nm 3)]) (.enum (.var 0)) (.cons s_free_of_2_1 (.cons s_free_of_2_2 .nil))
def s_free_of_3 : CS := .ret (.var 1)
def c_free_of : CDef := ⟨["jobs"], 5, (.cons s_free_of_1 (.cons s_free_of_2 (.cons s_free_of_3 .nil)))⟩
def c_free_wait : CDef := ⟨["jobs"], 1, (.cons (.expr (.call "check_jobs" (.cons false (.var 0) .nil)))
    (.cons (.ret (.call "free_of" (.cons false (.var 0) .nil)))
    .nil))⟩
def c__law_cell : CDef := ⟨["script", "k"], 2, (.cons (.ret (.ite (.cmp .Lt (.var 1) (.bi "len" (.cons false (.var 0) .nil))) (.ix (.var 0) (.var 1)) (.bin .Add (.bin .Mult (.cst (.int (6569))) (.var 1)) (.bin .Mod (.bi "sum" (.cons false (.sl (.var 0) .none (.some (.cst (.int (1))))) .nil)) (.cst (.int (1000033)))))))
    .nil)⟩
def c__law_box : CDef := ⟨["great"], 1, (.cons (.ret (.lst (.cons false (.bi "abs" (.cons false (.var 0) .nil)) (.cons false (.cmp .GtE (.bi "abs" (.cons false (.var 0) .nil)) (.bin .Pow (.cst (.int (10))) (.cst (.int (18))))) (.cons false (.bin .Mod (.bi "int" (.cons false (.bi "abs" (.cons false (.var 0) .nil)) .nil)) (.cst (.int (2147483629)))) (.cons false (.cst (.int (0))) .nil))))))
    .nil)⟩
def c__law_take : CDef := ⟨["box", "many"], 3, (.cons (.ife (.and (.cons false (.ix (.var 0) (.cst (.int (1)))) (.cons false (.cmp .Gt (.ix (.var 0) (.cst (.int (0)))) (.cst (.int (0)))) .nil))) (.cons (.asg (.nm 2) (.bin .Mod (.bi "int" (.cons false (.ix (.var 0) (.cst (.int (0)))) .nil)) (.var 1)))
    (.cons (.asg (.ix (.var 0) (.cst (.int (0)))) (.bin .FloorDiv (.bi "int" (.cons false (.ix (.var 0) (.cst (.int (0)))) .nil)) (.var 1)))
    (.cons (.ret (.var 2))
    .nil))) .nil)
    (.cons (.asg (.ix (.var 0) (.cst (.int (3)))) (.bin .Add (.ix (.var 0) (.cst (.int (3)))) (.cst (.int (1)))))
    (.cons (.asg (.ix (.var 0) (.cst (.int (2)))) (.bin .Mod (.bin .Add (.bin .Add (.bin .Mult (.ix (.var 0) (.cst (.int (2)))) (.cst (.int (69621)))) (.bin .Mult (.cst (.int (1667))) (.ix (.var 0) (.cst (.int (3)))))) (.cst (.int (7)))) (.cst (.int (2147483629)))))
    (.cons (.ret (.bin .Mod (.bin .FloorDiv (.ix (.var 0) (.cst (.int (2)))) (.cst (.int (64)))) (.var 1)))
    .nil))))⟩
def s__law_same_1_1 : CS := .ret (.ite (.cmp .Is (.var 1) (.cst .non)) (.cmp .Is (.var 0) (.cst .non)) (.and (.cons false (.isi (.var 0) ["bool"]) (.cons false (.cmp .Eq (.cmp .Is (.var 0) (.cst (.bl true))) (.cmp .Is (.var 1) (.cst (.bl true)))) .nil))))
def s__law_same_1 : CS := .ife (.or (.cons false (.cmp .Is (.var 1) (.cst .non)) (.cons false (.isi (.var 1) ["bool"]) .nil))) (.cons s__law_same_1_1 .nil) .nil
def s__law_same_2_1 : CS := .ret (.and (.cons false (.isi (.var 0) ["int"]) (.cons false (.not (.isi (.var 0) ["bool"])) (.cons false (.cmp .Eq (.bin .Sub (.bi "int" (.cons false (.var 0) .nil)) (.var 1)) (.cst (.int (0)))) .nil))))
def s__law_same_2 : CS := .ife (.isi (.var 1) ["int"]) (.cons s__law_same_2_1 .nil) .nil
def s__law_same_3_1 : CS := .ret (.and (.cons false (.isi (.var 0) ["str"]) (.cons false (.cmp .Eq (.bi "len" (.cons false (.var 0) .nil)) (.bi "len" (.cons false (.var 1) .nil))) (.cons false (.cmp .Eq (.lc (.nm 2) (.rng1 (.bi "len" (.cons false (.var 1) .nil))) (.cons false (.cmp .NotEq (.sl (.var 0) (.some (.var 2)) (.some (.bin .Add (.var 2) (.cst (.int (1)))))) (.ix (.var 1) (.var 2))) .nil) [2] (.var 2)) (.lst .nil)) .nil))))
def s__law_same_3 : CS := .ife (.isi (.var 1) ["str"]) (.cons s__law_same_3_1 .nil) .nil
def s__law_same_4_1 : CS := .ret (.cst (.bl false))
def s__law_same_4 : CS := .ife (.or (.cons false (.cmp .NotEq (.isi (.var 0) ["list"]) (.isi (.var 1) ["list"])) (.cons false (.cmp .NotEq (.isi (.var 0) ["tuple"]) (.isi (.var 1) ["tuple"])) .nil))) (.cons s__law_same_4_1 .nil) .nil
def s__law_same_5 : CS := .ret (.and (.cons false (.cmp .Eq (.bi "len" (.cons false (.var 0) .nil)) (.bi "len" (.cons false (.var 1) .nil))) (.cons false (.cmp .Eq (.lc (.nm 2) (.rng1 (.bi "len" (.cons false (.var 1) .nil))) (.cons false (.not (.call "_law_same" (.cons false (.ix (.var 0) (.var 2)) (.cons false (.ix (.var 1) (.var 2)) .nil)))) .nil) [2] (.var 2)) (.lst .nil)) .nil)))
def c__law_same : CDef := ⟨["told", "due"], 3, (.cons s__law_same_1 (.cons s__law_same_2 (.cons s__law_same_3 (.cons s__law_same_4 (.cons s__law_same_5 .nil)))))⟩
def s__law_mixed_1 : CS := .asg (.tup [(.nm 2), (.nm 3)]) (.tup (.cons false (.bi "list" (.cons false (.var 1) .nil)) (.cons false (.lst .nil) .nil)))
def s__law_mixed_2_1 : CS := .expr (.mt "append" (.var 3) (.cons false (.mt "pop" (.var 2) (.cons false (.call "_law_take" (.cons false (.var 0) (.cons false (.bi "len" (.cons false (.var 2) .nil)) .nil))) .nil)) .nil))
def s__law_mixed_2 : CS := .for (.nm 4) (.rng1 (.bi "len" (.cons false (.var 1) .nil))) (.cons s__law_mixed_2_1 .nil)
def s__law_mixed_3 : CS := .ret (.var 3)
def c__law_mixed : CDef := ⟨["box", "items"], 5, (.cons s__law_mixed_1 (.cons s__law_mixed_2 (.cons s__law_mixed_3 .nil)))⟩
def s__law_kept_1_1 : CS := .expr (.mt "append" (.var 1) (.cons false (.cst (.str "more")) .nil))
def s__law_kept_1 : CS := .ife (.isi (.var 1) ["list"]) (.cons s__law_kept_1_1 .nil) .nil
def s__law_kept_2_1 : CS := .ret (.and (.cons false (.isi (.var 0) ["dict"]) (.cons false (.cmp .Eq (.bi "sorted" (.cons false (.var 0) .nil)) (.bi "sorted" (.cons false (.var 1) .nil))) .nil)))
def s__law_kept_2 : CS := .ife (.isi (.var 1) ["dict"]) (.cons s__law_kept_2_1 .nil) .nil
def s__law_kept_3 : CS := .ret (.call "_law_same" (.cons false (.var 0) (.cons false (.var 1) .nil)))
def c__law_kept : CDef := ⟨["found", "given"], 2, (.cons s__law_kept_1 (.cons s__law_kept_2 (.cons s__law_kept_3 .nil)))⟩
def s__law_copy_1_1 : CS := .ret (.lc (.nm 1) (.seq (.var 0)) .nil [1] (.call "_law_copy" (.cons false (.var 1) .nil)))
def s__law_copy_1 : CS := .ife (.isi (.var 0) ["list"]) (.cons s__law_copy_1_1 .nil) .nil
def s__law_copy_2_1 : CS := .ret (.bi "tuple" (.cons false (.lc (.nm 1) (.seq (.var 0)) .nil [1] (.call "_law_copy" (.cons false (.var 1) .nil))) .nil))
def s__law_copy_2 : CS := .ife (.isi (.var 0) ["tuple"]) (.cons s__law_copy_2_1 .nil) .nil
def s__law_copy_3 : CS := .ret (.ite (.isi (.var 0) ["dict"]) (.bi "dict" (.cons false (.lc (.nm 2) (.seq (.var 0)) .nil [2] (.tup (.cons false (.var 2) (.cons false (.ix (.var 0) (.var 2)) .nil)))) .nil)) (.var 0))
def c__law_copy : CDef := ⟨["value"], 3, (.cons s__law_copy_1 (.cons s__law_copy_2 (.cons s__law_copy_3 .nil)))⟩
def c__law_part : CDef := ⟨["one", "other"], 2, (.cons (.asg (.tup [(.nm 0), (.nm 1)]) (.tup (.cons false (.bi "abs" (.cons false (.var 0) .nil)) (.cons false (.bi "abs" (.cons false (.var 1) .nil)) .nil))))
    (.cons (.whl (.cmp .Gt (.var 1) (.cst (.int (0)))) (.cons (.asg (.tup [(.nm 0), (.nm 1)]) (.tup (.cons false (.var 1) (.cons false (.bin .Mod (.var 0) (.var 1)) .nil))))
    .nil))
    (.cons (.ret (.var 0))
    .nil)))⟩
def c__law_fraction : CDef := ⟨["top", "base"], 3, (.cons (.asg (.nm 2) (.call "_law_part" (.cons false (.var 0) (.cons false (.var 1) .nil))))
    (.cons (.ret (.tup (.cons false (.bin .FloorDiv (.var 0) (.var 2)) (.cons false (.bin .FloorDiv (.var 1) (.var 2)) .nil))))
    .nil))⟩
def c__law_add : CDef := ⟨["one", "other"], 2, (.cons (.ret (.call "_law_fraction" (.cons false (.bin .Add (.bin .Mult (.ix (.var 0) (.cst (.int (0)))) (.ix (.var 1) (.cst (.int (1))))) (.bin .Mult (.ix (.var 1) (.cst (.int (0)))) (.ix (.var 0) (.cst (.int (1)))))) (.cons false (.bin .Mult (.ix (.var 0) (.cst (.int (1)))) (.ix (.var 1) (.cst (.int (1))))) .nil))))
    .nil)⟩
def c__law_times : CDef := ⟨["one", "other"], 2, (.cons (.ret (.call "_law_fraction" (.cons false (.bin .Mult (.ix (.var 0) (.cst (.int (0)))) (.ix (.var 1) (.cst (.int (0))))) (.cons false (.bin .Mult (.ix (.var 0) (.cst (.int (1)))) (.ix (.var 1) (.cst (.int (1))))) .nil))))
    .nil)⟩
def c__law_minus : CDef := ⟨["one", "other"], 2, (.cons (.ret (.call "_law_fraction" (.cons false (.bin .Sub (.bin .Mult (.ix (.var 0) (.cst (.int (0)))) (.ix (.var 1) (.cst (.int (1))))) (.bin .Mult (.ix (.var 1) (.cst (.int (0)))) (.ix (.var 0) (.cst (.int (1)))))) (.cons false (.bin .Mult (.ix (.var 0) (.cst (.int (1)))) (.ix (.var 1) (.cst (.int (1))))) .nil))))
    .nil)⟩
def c__law_over : CDef := ⟨["one", "other"], 2, (.cons (.ret (.call "_law_fraction" (.cons false (.bin .Mult (.ix (.var 0) (.cst (.int (0)))) (.ix (.var 1) (.cst (.int (1))))) (.cons false (.bin .Mult (.ix (.var 0) (.cst (.int (1)))) (.ix (.var 1) (.cst (.int (0))))) .nil))))
    .nil)⟩
def c__law_less : CDef := ⟨["one", "other"], 2, (.cons (.ret (.cmp .Lt (.bin .Mult (.ix (.var 0) (.cst (.int (0)))) (.ix (.var 1) (.cst (.int (1))))) (.bin .Mult (.ix (.var 1) (.cst (.int (0)))) (.ix (.var 0) (.cst (.int (1)))))))
    .nil)⟩
def s__law_sum_1 : CS := .asg (.nm 1) (.tup (.cons false (.cst (.int (0))) (.cons false (.cst (.int (1))) .nil)))
def s__law_sum_2_1 : CS := .asg (.nm 1) (.call "_law_add" (.cons false (.var 1) (.cons false (.var 2) .nil)))
def s__law_sum_2 : CS := .for (.nm 2) (.seq (.var 0)) (.cons s__law_sum_2_1 .nil)
def s__law_sum_3 : CS := .ret (.var 1)
def c__law_sum : CDef := ⟨["rows"], 3, (.cons s__law_sum_1 (.cons s__law_sum_2 (.cons s__law_sum_3 .nil)))⟩
def c__law_lesser : CDef := ⟨["one", "other"], 2, (.cons (.ret (.ite (.call "_law_less" (.cons false (.var 1) (.cons false (.var 0) .nil))) (.var 1) (.var 0)))
    .nil)⟩
def c__law_amount : CDef := ⟨["box"], 2, (.cons (.asg (.nm 1) (.call "_law_take" (.cons false (.var 0) (.cons false (.cst (.int (8))) .nil))))
    (.cons (.ife (.cmp .Eq (.var 1) (.cst (.int (0)))) (.cons (.ret (.tup (.cons false (.cst (.int (0))) (.cons false (.cst (.int (1))) .nil))))
    .nil) .nil)
    (.cons (.ife (.cmp .Lt (.var 1) (.cst (.int (5)))) (.cons (.ret (.tup (.cons false (.bin .Add (.cst (.int (1))) (.call "_law_take" (.cons false (.var 0) (.cons false (.cst (.int (5))) .nil)))) (.cons false (.cst (.int (1))) .nil))))
    .nil) .nil)
    (.cons (.ret (.call "_law_fraction" (.cons false (.bin .Add (.cst (.int (1))) (.call "_law_take" (.cons false (.var 0) (.cons false (.cst (.int (9))) .nil)))) (.cons false (.bin .Add (.cst (.int (1))) (.call "_law_take" (.cons false (.var 0) (.cons false (.cst (.int (4))) .nil)))) .nil))))
    .nil))))⟩
def c__law_job : CDef := ⟨["box"], 3, (.cons (.asg (.tup [(.nm 1), (.nm 2)]) (.tup (.cons false (.call "_law_amount" (.cons false (.var 0) .nil)) (.cons false (.call "_law_amount" (.cons false (.var 0) .nil)) .nil))))
    (.cons (.ret (.ite (.cmp .Gt (.bin .Add (.ix (.var 1) (.cst (.int (0)))) (.ix (.var 2) (.cst (.int (0))))) (.cst (.int (0)))) (.tup (.cons false (.var 1) (.cons false (.var 2) .nil))) (.ix (.lst (.cons false (.tup (.cons false (.tup (.cons false (.cst (.int (1))) (.cons false (.cst (.int (1))) .nil))) (.cons false (.tup (.cons false (.cst (.int (0))) (.cons false (.cst (.int (1))) .nil))) .nil))) (.cons false (.tup (.cons false (.tup (.cons false (.cst (.int (0))) (.cons false (.cst (.int (1))) .nil))) (.cons false (.tup (.cons false (.cst (.int (1))) (.cons false (.cst (.int (1))) .nil))) .nil))) (.cons false (.tup (.cons false (.tup (.cons false (.cst (.int (1))) (.cons false (.cst (.int (1))) .nil))) (.cons false (.tup (.cons false (.cst (.int (1))) (.cons false (.cst (.int (1))) .nil))) .nil))) .nil)))) (.call "_law_take" (.cons false (.var 0) (.cons false (.cst (.int (3))) .nil))))))
    .nil))⟩
def s__law_whole_jobs_1 : CS := .asg (.nm 1) (.cst (.int (1)))
def s__law_whole_jobs_2_1_1 : CS := .asg (.nm 1) (.bin .FloorDiv (.bin .Mult (.var 1) (.var 4)) (.call "_law_part" (.cons false (.var 1) (.cons false (.var 4) .nil))))
def s__law_whole_jobs_2_1 : CS := .for (.nm 4) (.seq (.tup (.cons false (.ix (.var 2) (.cst (.int (1)))) (.cons false (.ix (.var 3) (.cst (.int (1)))) .nil)))) (.cons s__law_whole_jobs_2_1_1 .nil)
def s__law_whole_jobs_2 : CS := .for (.tup [(.nm 2), (.nm 3)]) (.seq (.var 0)) (.cons s__law_whole_jobs_2_1 .nil)
def s__law_whole_jobs_3 : CS := .ret (.lst (.cons false (.lc (.tup [(.nm 2), (.nm 3)]) (.seq (.var 0)) .nil [2, 3] (.tup (.cons false (.bin .FloorDiv (.bin .Mult (.ix (.var 2) (.cst (.int (0)))) (.var 1)) (.ix (.var 2) (.cst (.int (1))))) (.cons false (.bin .FloorDiv (.bin .Mult (.ix (.var 3) (.cst (.int (0)))) (.var 1)) (.ix (.var 3) (.cst (.int (1))))) .nil)))) (.cons false (.var 1) .nil)))
def c__law_whole_jobs : CDef := ⟨["jobs"], 5, (.cons s__law_whole_jobs_1 (.cons s__law_whole_jobs_2 (.cons s__law_whole_jobs_3 .nil)))⟩
def s__law_least_1 : CS := .asg (.tup [(.nm 2), (.nm 3)]) (.call "_law_whole_jobs" (.cons false (.var 0) .nil))
def s__law_least_2 : CS := .asg (.tup [(.nm 4), (.nm 5)]) (.tup (.cons false (.bi "len" (.cons false (.var 2) .nil)) (.cons false (.bin .Mult (.lst (.cons false (.cst (.int (0))) .nil)) (.bi "len" (.cons false (.var 2) .nil))) .nil)))
def s__law_least_3_1 : CS := .asg (.ix (.var 5) (.var 7)) (.bin .BitOr (.ix (.var 5) (.var 7)) (.bin .LShift (.cst (.int (1))) (.var 6)))
def s__law_least_3 : CS := .for (.tup [(.nm 6), (.nm 7)]) (.seq (.var 1)) (.cons s__law_least_3_1 .nil)
def s__law_least_4 : CS := .asg (.tup [(.nm 8), (.nm 9)]) (.tup (.cons false (.dct (.cons false (.cst (.int (0))) (.cons false (.cst (.int (0))) .nil))) (.cons false (.dct (.cons false (.cst (.int (0))) (.cons false (.cst (.int (0))) .nil))) .nil)))
def s__law_least_5_1_1_1_1 : CS := .asg (.tup [(.nm 12), (.nm 13)]) (.tup (.cons false (.bin .BitOr (.var 10) (.bin .LShift (.cst (.int (1))) (.var 11))) (.cons false (.bin .Add (.ix (.var 9) (.var 10)) (.ix (.ix (.var 2) (.var 11)) (.cst (.int (0))))) .nil)))
def s__law_least_5_1_1_1_2 : CS := .asg (.nm 14) (.bin .Add (.ix (.var 8) (.var 10)) (.bin .Mult (.ix (.ix (.var 2) (.var 11)) (.cst (.int (1)))) (.var 13)))
def s__law_least_5_1_1_1_3_1 : CS := .asg (.tup [(.ix (.var 8) (.var 12)), (.ix (.var 9) (.var 12))]) (.tup (.cons false (.var 14) (.cons false (.var 13) .nil)))
def s__law_least_5_1_1_1_3 : CS := .ife (.or (.cons false (.cmp .NotIn (.var 12) (.var 8)) (.cons false (.cmp .Lt (.var 14) (.ix (.var 8) (.var 12))) .nil))) (.cons s__law_least_5_1_1_1_3_1 .nil) .nil
def s__law_least_5_1_1_1 : CS := .ife (.and (.cons false (.cmp .Eq (.bin .BitAnd (.bin .RShift (.var 10) (.var 11)) (.cst (.int (1)))) (.cst (.int (0)))) (.cons false (.cmp .Eq (.bin .BitAnd (.ix (.var 5) (.var 11)) (.var 10)) (.ix (.var 5) (.var 11))) .nil))) (.cons s__law_least_5_1_1_1_1 (.cons s__law_least_5_1_1_1_2 (.cons s__law_least_5_1_1_1_3 .nil))) .nil
def s__law_least_5_1_1 : CS := .for (.nm 11) (.rng1 (.var 4)) (.cons s__law_least_5_1_1_1 .nil)
def s__law_least_5_1 : CS := .ife (.cmp .In (.var 10) (.var 8)) (.cons s__law_least_5_1_1 .nil) .nil
def s__law_least_5 : CS := .for (.nm 10) (.rng1 (.bin .LShift (.cst (.int (1))) (.var 4))) (.cons s__law_least_5_1 .nil)
def s__law_least_6 : CS := .ret (.call "_law_fraction" (.cons false (.ix (.var 8) (.bin .Sub (.bin .LShift (.cst (.int (1))) (.var 4)) (.cst (.int (1))))) (.cons false (.bin .Mult (.var 3) (.var 3)) .nil)))
def c__law_least : CDef := ⟨["jobs", "pairs"], 15, (.cons s__law_least_1 (.cons s__law_least_2 (.cons s__law_least_3 (.cons s__law_least_4 (.cons s__law_least_5 (.cons s__law_least_6 .nil))))))⟩
def s__law_by_quotients_1 : CS := .asg (.nm 1) (.lst .nil)
def s__law_by_quotients_2_1 : CS := .asg (.nm 4) (.cst (.int (0)))
def s__law_by_quotients_2_2_1 : CS := .asg (.nm 4) (.bin .Add (.var 4) (.cst (.int (1))))
def s__law_by_quotients_2_2 : CS := .whl (.and (.cons false (.cmp .Lt (.var 4) (.bi "len" (.cons false (.var 1) .nil))) (.cons false (.not (.call "_law_less" (.cons false (.call "_law_times" (.cons false (.ix (.ix (.var 1) (.var 4)) (.cst (.int (1)))) (.cons false (.var 2) .nil))) (.cons false (.call "_law_times" (.cons false (.var 3) (.cons false (.ix (.ix (.var 1) (.var 4)) (.cst (.int (0)))) .nil))) .nil)))) .nil))) (.cons s__law_by_quotients_2_2_1 .nil)
def s__law_by_quotients_2_3 : CS := .asg (.nm 1) (.bin .Add (.bin .Add (.sl (.var 1) .none (.some (.var 4))) (.lst (.cons false (.tup (.cons false (.var 2) (.cons false (.var 3) .nil))) .nil))) (.sl (.var 1) (.some (.var 4)) .none))
def s__law_by_quotients_2 : CS := .for (.tup [(.nm 2), (.nm 3)]) (.seq (.var 0)) (.cons s__law_by_quotients_2_1 (.cons s__law_by_quotients_2_2 (.cons s__law_by_quotients_2_3 .nil)))
def s__law_by_quotients_3 : CS := .asg (.tup [(.nm 5), (.nm 6)]) (.tup (.cons false (.tup (.cons false (.cst (.int (0))) (.cons false (.cst (.int (1))) .nil))) (.cons false (.tup (.cons false (.cst (.int (0))) (.cons false (.cst (.int (1))) .nil))) .nil)))
def s__law_by_quotients_4_1 : CS := .asg (.nm 5) (.call "_law_add" (.cons false (.var 5) (.cons false (.var 2) .nil)))
def s__law_by_quotients_4_2 : CS := .asg (.nm 6) (.call "_law_add" (.cons false (.var 6) (.cons false (.call "_law_times" (.cons false (.var 5) (.cons false (.var 3) .nil))) .nil)))
def s__law_by_quotients_4 : CS := .for (.tup [(.nm 2), (.nm 3)]) (.seq (.var 1)) (.cons s__law_by_quotients_4_1 (.cons s__law_by_quotients_4_2 .nil))
def s__law_by_quotients_5 : CS := .ret (.var 6)
def c__law_by_quotients : CDef := ⟨["jobs"], 7, (.cons s__law_by_quotients_1 (.cons s__law_by_quotients_2 (.cons s__law_by_quotients_3 (.cons s__law_by_quotients_4 (.cons s__law_by_quotients_5 .nil)))))⟩
def s__law_jobs_1 : CS := .asg (.nm 2) (.lc (.nm 5) (.rng1 (.var 1)) .nil [5] (.call "_law_job" (.cons false (.var 0) .nil)))
def s__law_jobs_2_1 : CS := .asg (.tup [(.nm 3), (.nm 4)]) (.ix (.var 2) (.cst (.int (0))))
def s__law_jobs_2_2 : CS := .asg (.ix (.var 2) (.neg (.cst (.int (1))))) (.tup (.cons false (.call "_law_times" (.cons false (.var 3) (.cons false (.tup (.cons false (.cst (.int (3))) (.cons false (.cst (.int (2))) .nil))) .nil))) (.cons false (.call "_law_times" (.cons false (.var 4) (.cons false (.tup (.cons false (.cst (.int (3))) (.cons false (.cst (.int (2))) .nil))) .nil))) .nil)))
def s__law_jobs_2_3 : CS := .asg (.ix (.var 2) (.call "_law_take" (.cons false (.var 0) (.cons false (.var 1) .nil)))) (.ix (.var 2) (.cst (.int (0))))
def s__law_jobs_2 : CS := .ife (.and (.cons false (.cmp .Gt (.var 1) (.cst (.int (1)))) (.cons false (.cmp .Eq (.call "_law_take" (.cons false (.var 0) (.cons false (.cst (.int (2))) .nil))) (.cst (.int (0)))) .nil))) (.cons s__law_jobs_2_1 (.cons s__law_jobs_2_2 (.cons s__law_jobs_2_3 .nil))) .nil
def s__law_jobs_3_1 : CS := .asg (.ix (.var 2) (.cst (.int (0)))) (.tup (.cons false (.call "_law_fraction" (.cons false (.bin .Sub (.bin .Pow (.cst (.int (10))) (.cst (.int (39)))) (.call "_law_take" (.cons false (.var 0) (.cons false (.cst (.int (9))) .nil)))) (.cons false (.bin .Add (.bin .Pow (.cst (.int (10))) (.cst (.int (38)))) (.cst (.int (7)))) .nil))) (.cons false (.call "_law_fraction" (.cons false (.bin .Add (.cst (.int (1))) (.call "_law_take" (.cons false (.var 0) (.cons false (.cst (.int (9))) .nil)))) (.cons false (.bin .Add (.bin .Pow (.cst (.int (10))) (.cst (.int (39)))) (.cst (.int (3)))) .nil))) .nil)))
def s__law_jobs_3 : CS := .ife (.and (.cons false (.cmp .Gt (.var 1) (.cst (.int (0)))) (.cons false (.cmp .Eq (.call "_law_take" (.cons false (.var 0) (.cons false (.cst (.int (6))) .nil))) (.cst (.int (0)))) .nil))) (.cons s__law_jobs_3_1 .nil) .nil
def s__law_jobs_4 : CS := .ret (.var 2)
def c__law_jobs : CDef := ⟨["box", "many"], 6, (.cons s__law_jobs_1 (.cons s__law_jobs_2 (.cons s__law_jobs_3 (.cons s__law_jobs_4 .nil))))⟩
def s__law_list_right_1 : CS := .asg (.nm 3) (.call "_law_by_quotients" (.cons false (.var 1) .nil))
def s__law_list_right_2_1 : CS := .ret (.cst (.bl false))
def s__law_list_right_2 : CS := .ife (.and (.cons false (.cmp .Lt (.bi "len" (.cons false (.var 1) .nil)) (.cst (.int (7)))) (.cons false (.cmp .NotEq (.call "_law_least" (.cons false (.var 1) (.cons false (.lst .nil) .nil))) (.var 3)) .nil))) (.cons s__law_list_right_2_1 .nil) .nil
def s__law_list_right_3 : CS := .asg (.nm 4) (.ite (.var 2) (.callk "free_wait" ["jobs"] (.cons false (.bi "list" (.cons false (.var 1) .nil)) .nil)) (.call "free_wait" (.cons false (.bi "tuple" (.cons false (.var 1) .nil)) .nil)))
def s__law_list_right_4_1 : CS := .ret (.cst (.bl false))
def s__law_list_right_4 : CS := .ife (.or (.cons false (.not (.call "_law_same" (.cons false (.var 4) (.cons false (.var 3) .nil)))) (.cons false (.not (.call "_law_same" (.cons false (.call "free_wait" (.cons false (.call "_law_mixed" (.cons false (.var 0) (.cons false (.var 1) .nil))) .nil)) (.cons false (.var 3) .nil)))) .nil))) (.cons s__law_list_right_4_1 .nil) .nil
def s__law_list_right_5_1 : CS := .asg (.tup [(.nm 6), (.nm 7)]) (.tup (.cons false (.ix (.var 1) (.call "_law_take" (.cons false (.var 0) (.cons false (.bi "len" (.cons false (.var 1) .nil)) .nil)))) (.cons false (.ix (.var 1) (.call "_law_take" (.cons false (.var 0) (.cons false (.bi "len" (.cons false (.var 1) .nil)) .nil)))) .nil)))
def s__law_list_right_5_2 : CS := .asg (.nm 8) (.call "_law_lesser" (.cons false (.call "_law_times" (.cons false (.ix (.var 6) (.cst (.int (0)))) (.cons false (.ix (.var 7) (.cst (.int (1)))) .nil))) (.cons false (.call "_law_times" (.cons false (.ix (.var 7) (.cst (.int (0)))) (.cons false (.ix (.var 6) (.cst (.int (1)))) .nil))) .nil)))
def s__law_list_right_5_3 : CS := .asg (.nm 4) (.ite (.var 2) (.callk "pair_wait" ["other", "one"] (.cons false (.var 7) (.cons false (.var 6) .nil))) (.call "pair_wait" (.cons false (.var 6) (.cons false (.var 7) .nil))))
def s__law_list_right_5_4_1 : CS := .ret (.cst (.bl false))
def s__law_list_right_5_4 : CS := .ife (.not (.call "_law_same" (.cons false (.lst (.cons false (.var 4) (.cons false (.call "pair_wait" (.cons false (.var 7) (.cons false (.var 6) .nil))) .nil))) (.cons false (.lst (.cons false (.var 8) (.cons false (.var 8) .nil))) .nil)))) (.cons s__law_list_right_5_4_1 .nil) .nil
def s__law_list_right_5_5_1 : CS := .ret (.cst (.bl false))
def s__law_list_right_5_5 : CS := .ife (.not (.call "_law_same" (.cons false (.call "free_wait" (.cons false (.lst (.cons false (.var 6) (.cons false (.var 7) .nil))) .nil)) (.cons false (.call "_law_sum" (.cons false (.lst (.cons false (.var 8) (.cons false (.call "_law_times" (.cons false (.ix (.var 6) (.cst (.int (0)))) (.cons false (.ix (.var 6) (.cst (.int (1)))) .nil))) (.cons false (.call "_law_times" (.cons false (.ix (.var 7) (.cst (.int (0)))) (.cons false (.ix (.var 7) (.cst (.int (1)))) .nil))) .nil)))) .nil)) .nil)))) (.cons s__law_list_right_5_5_1 .nil) .nil
def s__law_list_right_5 : CS := .for (.nm 5) (.rng1 (.ite (.cmp .NotEq (.var 1) (.lst .nil)) (.cst (.int (3))) (.cst (.int (0))))) (.cons s__law_list_right_5_1 (.cons s__law_list_right_5_2 (.cons s__law_list_right_5_3 (.cons s__law_list_right_5_4 (.cons s__law_list_right_5_5 .nil)))))
def s__law_list_right_6 : CS := .ret (.cst (.bl true))
def c__law_list_right : CDef := ⟨["box", "jobs", "by_name"], 9, (.cons s__law_list_right_1 (.cons s__law_list_right_2 (.cons s__law_list_right_3 (.cons s__law_list_right_4 (.cons s__law_list_right_5 (.cons s__law_list_right_6 .nil))))))⟩
def s__law_asked_1_1_1 : CS := .expr (.ite (.cmp .Eq (.var 0) (.cst (.int (0)))) (.call "pair_wait" (.cons false (.var 1) (.cons false (.var 2) .nil))) (.callk "pair_wait" ["other", "one"] (.cons false (.var 2) (.cons false (.var 1) .nil))))
def s__law_asked_1_1e_1 : CS := .expr (.call "free_wait" (.cons false (.var 1) .nil))
def s__law_asked_1_1 : CS := .ife (.cmp .Lt (.var 0) (.cst (.int (2)))) (.cons s__law_asked_1_1_1 .nil) (.cons s__law_asked_1_1e_1 .nil)
def s__law_asked_1 : CS := .tryc (.cons s__law_asked_1_1 .nil) [("InvalidJob", 3, [.cst (.str "job"), .fld "given", .isi ["WaitError", "ValueError"]]), ("InvalidJobs", 3, [.cst (.str "jobs"), .fld "given", .isi ["WaitError"]])]
def s__law_asked_2 : CS := .ret (.lst (.cons false (.cst (.str "told")) (.cons false (.cst .non) (.cons false (.cst (.bl true)) .nil))))
def c__law_asked : CDef := ⟨["kind", "first", "second"], 4, (.cons s__law_asked_1 (.cons s__law_asked_2 .nil))⟩
def s__law_refusals_right_1 : CS := .asg (.nm 1) (.call "_law_job" (.cons false (.var 0) .nil))
def s__law_refusals_right_2 : CS := .asg (.nm 2) (.lst (.cons false (.cst .non) (.cons false (.cst (.int (0))) (.cons false (.cst (.str "job")) (.cons false (.dct .nil) (.cons false (.lst .nil) (.cons false (.tup .nil) (.cons false (.bin .Add (.var 1) (.tup (.cons false (.ix (.var 1) (.cst (.int (0)))) .nil))) (.cons false (.bi "list" (.cons false (.var 1) .nil)) (.cons false (.tup (.cons false (.ix (.var 1) (.cst (.int (0)))) .nil)) (.cons false (.tup (.cons false (.ix (.var 1) (.cst (.int (0)))) (.cons false (.cst (.int (1))) .nil))) (.cons false (.tup (.cons false (.tup (.cons false (.cst (.int (0))) (.cons false (.cst (.int (1))) .nil))) (.cons false (.tup (.cons false (.cst (.int (0))) (.cons false (.cst (.int (1))) .nil))) .nil))) (.cons false (.tup (.cons false (.tup (.cons false (.neg (.cst (.int (1)))) (.cons false (.cst (.int (1))) .nil))) (.cons false (.tup (.cons false (.cst (.int (1))) (.cons false (.cst (.int (1))) .nil))) .nil))) (.cons false (.tup (.cons false (.tup (.cons false (.cst (.int (1))) (.cons false (.cst (.int (1))) .nil))) (.cons false (.tup (.cons false (.neg (.cst (.int (1)))) (.cons false (.cst (.int (2))) .nil))) .nil))) .nil))))))))))))))
def s__law_refusals_right_3 : CS := .asg (.nm 2) (.bin .Add (.var 2) (.lst (.cons false (.tup (.cons false (.tup (.cons false (.cst (.int (2))) (.cons false (.cst (.int (4))) .nil))) (.cons false (.tup (.cons false (.cst (.int (1))) (.cons false (.cst (.int (1))) .nil))) .nil))) (.cons false (.tup (.cons false (.tup (.cons false (.cst (.int (1))) (.cons false (.cst (.int (0))) .nil))) (.cons false (.tup (.cons false (.cst (.int (1))) (.cons false (.cst (.int (1))) .nil))) .nil))) (.cons false (.tup (.cons false (.lst (.cons false (.cst (.int (1))) (.cons false (.cst (.int (1))) .nil))) (.cons false (.tup (.cons false (.cst (.int (1))) (.cons false (.cst (.int (1))) .nil))) .nil))) (.cons false (.tup (.cons false (.tup (.cons false (.cst (.int (1))) (.cons false (.cst (.bl true)) .nil))) (.cons false (.tup (.cons false (.cst (.int (1))) (.cons false (.cst (.int (1))) .nil))) .nil))) (.cons false (.tup (.cons false (.tup (.cons false (.cst (.bl true)) (.cons false (.cst (.int (1))) .nil))) (.cons false (.tup (.cons false (.cst (.int (1))) (.cons false (.cst (.int (1))) .nil))) .nil))) (.cons false (.tup (.cons false (.tup (.cons false (.cst (.int (1))) (.cons false (.cst (.int (1))) (.cons false (.cst (.int (1))) .nil)))) (.cons false (.tup (.cons false (.cst (.int (1))) (.cons false (.cst (.int (1))) .nil))) .nil))) (.cons false (.tup (.cons false (.tup (.cons false (.cst (.int (1))) (.cons false (.neg (.cst (.int (1)))) .nil))) (.cons false (.tup (.cons false (.cst (.int (1))) (.cons false (.cst (.int (1))) .nil))) .nil))) .nil)))))))))
def s__law_refusals_right_4 : CS := .asg (.nm 3) (.lst .nil)
def s__law_refusals_right_5_1 : CS := .asg (.nm 3) (.bin .Add (.var 3) (.lst (.cons false (.lst (.cons false (.cst (.int (0))) (.cons false (.var 4) (.cons false (.cst .non) (.cons false (.cst (.str "job")) (.cons false (.var 4) (.cons false (.cst (.int (0))) .nil))))))) (.cons false (.lst (.cons false (.cst (.int (1))) (.cons false (.var 1) (.cons false (.var 4) (.cons false (.cst (.str "job")) (.cons false (.var 4) (.cons false (.cst (.int (1))) .nil))))))) (.cons false (.lst (.cons false (.cst (.int (2))) (.cons false (.lst (.cons false (.var 1) (.cons false (.var 4) .nil))) (.cons false (.cst .non) (.cons false (.cst (.str "jobs")) (.cons false (.lst (.cons false (.var 1) (.cons false (.var 4) .nil))) (.cons false (.cst (.int (0))) .nil))))))) .nil)))))
def s__law_refusals_right_5 : CS := .for (.nm 4) (.seq (.var 2)) (.cons s__law_refusals_right_5_1 .nil)
def s__law_refusals_right_6 : CS := .asg (.nm 3) (.bin .Add (.var 3) (.lc (.nm 4) (.seq (.lst (.cons false (.cst .non) (.cons false (.cst (.int (0))) (.cons false (.cst (.str "jobs")) (.cons false (.dct .nil) (.cons false (.var 1) (.cons false (.bin .Mult (.lst (.cons false (.var 1) .nil)) (.cst (.int (31)))) .nil)))))))) .nil [4] (.lst (.cons false (.cst (.int (2))) (.cons false (.var 4) (.cons false (.cst .non) (.cons false (.cst (.str "jobs")) (.cons false (.var 4) (.cons false (.cst (.int (0))) .nil)))))))))
def s__law_refusals_right_7_1 : CS := .asg (.nm 10) (.lst (.cons false (.call "_law_copy" (.cons false (.var 6) .nil)) (.cons false (.call "_law_copy" (.cons false (.var 7) .nil)) .nil)))
def s__law_refusals_right_7_2 : CS := .asg (.nm 11) (.call "_law_asked" (.cons false (.var 5) (.cons false (.ix (.var 10) (.cst (.int (0)))) (.cons false (.ix (.var 10) (.cst (.int (1)))) .nil))))
def s__law_refusals_right_7_3_1 : CS := .ret (.cst (.bl false))
def s__law_refusals_right_7_3 : CS := .ife (.or (.cons false (.cmp .NotEq (.ix (.var 11) (.cst (.int (0)))) (.var 8)) (.cons false (.cmp .IsNot (.ix (.var 11) (.cst (.int (2)))) (.cst (.bl true))) (.cons false (.not (.call "_law_kept" (.cons false (.ix (.var 11) (.cst (.int (1)))) (.cons false (.ix (.var 10) (.var 9)) .nil)))) .nil)))) (.cons s__law_refusals_right_7_3_1 .nil) .nil
def s__law_refusals_right_7 : CS := .for (.tup [(.nm 5), (.nm 6), (.nm 7), (.nm 8), (.nm 4), (.nm 9)]) (.seq (.var 3)) (.cons s__law_refusals_right_7_1 (.cons s__law_refusals_right_7_2 (.cons s__law_refusals_right_7_3 .nil)))
def s__law_refusals_right_8 : CS := .ret (.cst (.bl true))
def c__law_refusals_right : CDef := ⟨["box"], 12, (.cons s__law_refusals_right_1 (.cons s__law_refusals_right_2 (.cons s__law_refusals_right_3 (.cons s__law_refusals_right_4 (.cons s__law_refusals_right_5 (.cons s__law_refusals_right_6 (.cons s__law_refusals_right_7 (.cons s__law_refusals_right_8 .nil))))))))⟩
def s_law_1_1 : CS := .asg (.nm 2) (.call "_law_box" (.cons false (.call "_law_cell" (.cons false (.var 0) (.cons false (.var 1) .nil))) .nil))
def s_law_1_2 : CS := .asg (.nm 3) (.cmp .Eq (.call "_law_take" (.cons false (.var 2) (.cons false (.cst (.int (2))) .nil))) (.cst (.int (1))))
def s_law_1_3 : CS := .asg (.nm 4) (.call "_law_jobs" (.cons false (.var 2) (.cons false (.ite (.cmp .Eq (.call "_law_take" (.cons false (.var 2) (.cons false (.cst (.int (6))) .nil))) (.cst (.int (0)))) (.bin .Sub (.cst (.int (30))) (.call "_law_take" (.cons false (.var 2) (.cons false (.cst (.int (4))) .nil)))) (.call "_law_take" (.cons false (.var 2) (.cons false (.cst (.int (7))) .nil)))) .nil)))
def s_law_1_4_1 : CS := .ret (.cst (.bl false))
def s_law_1_4 : CS := .ife (.or (.cons false (.not (.call "_law_list_right" (.cons false (.var 2) (.cons false (.var 4) (.cons false (.var 3) .nil))))) (.cons false (.not (.call "_law_refusals_right" (.cons false (.var 2) .nil))) .nil))) (.cons s_law_1_4_1 .nil) .nil
def s_law_1 : CS := .for (.nm 1) (.rng1 (.bi "max" (.cons false (.cst (.int (3))) (.cons false (.bi "min" (.cons false (.cst (.int (6))) (.cons false (.bi "len" (.cons false (.var 0) .nil)) .nil))) .nil)))) (.cons s_law_1_1 (.cons s_law_1_2 (.cons s_law_1_3 (.cons s_law_1_4 .nil))))
def s_law_2 : CS := .ret (.call "_law_same" (.cons false (.call "free_wait" (.cons false (.lst .nil) .nil)) (.cons false (.tup (.cons false (.cst (.int (0))) (.cons false (.cst (.int (1))) .nil))) .nil)))
def c_law : CDef := ⟨["script"], 5, (.cons s_law_1 (.cons s_law_2 .nil))⟩
end G

end

section
set_option Elab.async false
set_option linter.all false
set_option maxRecDepth 100000
/-! K1: fractions. -/
namespace G
open PySem
abbrev PA (T : Tbl) (w k : Nat) : Par2 := ⟨⟨call T w k, byK T (call T w k), T.gl, w⟩, T.cls, T.sub⟩
theorem call_eq {T : Tbl} {w k : Nat} {f : Str} {d : CDef} {vs : List D} {S : Sto} (hd : T.defs f = some d) (hl : vs.length = d.ps.length) : call T w (k + 1) f vs S = runD (PA T w k) d vs S := by
  show (match T.defs f with
    | some d => if vs.length = d.ps.length then runD (PA T w k) d vs S else .fail
    | none => .fail) = _
  rw [hd]
  simp only [hl, if_true]
variable {T : Tbl} {w k : Nat} {S : Sto}
theorem is_integer_int (h : T.defs "is_integer" = some c_is_integer) (i : Int) : call T w (k + 1) "is_integer" [.int i] S = .ok (.bl true) S := by
  rw [call_eq h rfl]
  rfl
theorem is_below_eq (h : T.defs "is_below" = some c_is_below) {a b c d : Int} (m1 : mulOk a d = true) (m2 : mulOk c b = true) : call T w (k + 1) "is_below" [.tup [.int a, .int b], .tup [.int c, .int d]] S = .ok (.bl (decide (a * d < c * b))) S := by
  rw [call_eq h rfl]
  simp [runD, exB, exS, c_is_below, evE, evB, Ev.of, Res.bind, Res.rs, RS.seq, startR, Res.of, ixD, ixL, atD, ixN', binD, m1, m2, cmpD, cmpO]
/-- the fraction n / d, in its least form -/
def fr (n d : Int) : D := .tup [.int (n / (Int.gcd n d : Int)), .int (d / (Int.gcd n d : Int))]
theorem gcd_pos {n d : Int} (h : 0 < d) : 0 < (Int.gcd n d : Int) := by
  have : Int.gcd n d ≠ 0 := fun e => by
    have := (Int.gcd_eq_zero_iff.mp e).2
    omega
  omega
theorem log_le {n p : Nat} (h : n < 2 ^ p) : n.log2 ≤ p := by
  by_cases h0 : n = 0
  · subst h0; simp
  · exact Nat.le_of_lt ((Nat.log2_lt h0).mpr h)
theorem mulOk_of {a b : Int} {p q : Nat} (ha : a.natAbs < 2 ^ p) (hb : b.natAbs < 2 ^ q) (h : p + q < 1000000) : mulOk a b = true := by
  unfold mulOk
  have h1 := log_le ha
  have h2 := log_le hb
  simp only [decide_eq_true_eq]
  omega
theorem divOk_of {a : Int} {p : Nat} (h0 : a ≠ 0) (ha : a.natAbs < 2 ^ p) (h : p < 9000) : divOk a = true := by
  unfold divOk
  have h1 := log_le ha
  simp only [Bool.and_eq_true, bne_iff_ne, ne_eq, decide_eq_true_eq]
  exact ⟨h0, by omega⟩
theorem reduced_eq (h : T.defs "reduced" = some c_reduced) {n d : Int} {p : Nat} (hd : 0 < d) (hs : d.natAbs < 2 ^ p) (hp : p < 9000) : call T w (k + 1) "reduced" [.int n, .int d] S = .ok (fr n d) S := by
  have g0 := gcd_pos (n := n) hd
  have gle : (Int.gcd n d : Int).natAbs ≤ d.natAbs := by
    have : Int.gcd n d ∣ d.natAbs := by
      rw [Int.gcd]; exact Nat.gcd_dvd_right _ _
    have := Nat.le_of_dvd (by omega) this
    omega
  have dv : divOk (Int.gcd n d : Int) = true := divOk_of (by omega) (Nat.lt_of_le_of_lt gle hs) hp
  have nb : ¬ d < 0 := by omega
  have e1 : Int.fdiv n (Int.gcd n d : Int) = n / (Int.gcd n d : Int) := Int.fdiv_eq_ediv_of_nonneg _ (by omega)
  have e2 : Int.fdiv d (Int.gcd n d : Int) = d / (Int.gcd n d : Int) := Int.fdiv_eq_ediv_of_nonneg _ (by omega)
  have eg : ((Nat.gcd n.natAbs d.natAbs : Nat) : Int) = (Int.gcd n d : Int) := rfl
  rw [call_eq h rfl]
  simp [runD, exB, exS, c_reduced, evE, evT, evB, evEs, Ev.of, Res.bind, Res.rs, RS.seq, startR, Res.of, asgT, Res.nox, biD, bi2, eg, truR, truD, cmpD, cmpO, nb, binD, dv, e1, e2, newT, fr]
theorem fr_get (n : Int) {d : Int} (hd : 0 < d) : ∃ n' d' : Int, fr n d = .tup [.int n', .int d'] ∧ 0 < d' ∧ n' * d = n * d' ∧ n'.natAbs ≤ n.natAbs ∧ d'.natAbs ≤ d.natAbs ∧ Int.gcd n' d' = 1 := by
  have g0 := gcd_pos (n := n) hd
  have h1 : n / (Int.gcd n d : Int) * (Int.gcd n d : Int) = n := Int.ediv_mul_cancel (Int.gcd_dvd_left ..)
  have h2 : d / (Int.gcd n d : Int) * (Int.gcd n d : Int) = d := Int.ediv_mul_cancel (Int.gcd_dvd_right ..)
  have hpos : 0 < d / (Int.gcd n d : Int) := by
    by_cases h : 0 < d / (Int.gcd n d : Int)
    · exact h
    · exfalso
      have : d / (Int.gcd n d : Int) * (Int.gcd n d : Int) ≤ 0 := Int.mul_nonpos_of_nonpos_of_nonneg (by omega) (by omega)
      omega
  refine ⟨_, _, rfl, hpos, ?_, ?_, ?_, ?_⟩
  · generalize n / (Int.gcd n d : Int) = a at *
    generalize d / (Int.gcd n d : Int) = b at *
    generalize (Int.gcd n d : Int) = g at *
    rw [← h2, ← h1]; ac_rfl
  · exact Int.natAbs_ediv_le_natAbs ..
  · exact Int.natAbs_ediv_le_natAbs ..
  · have : (0 : Nat) < Int.gcd n d := by omega
    exact Int.gcd_ediv_gcd_ediv_gcd this
theorem dvd_cop {a b c : Int} (h : a ∣ b * c) (g : Int.gcd a b = 1) : a ∣ c := by
  have h1 : a.natAbs ∣ b.natAbs * c.natAbs := by
    rw [← Int.natAbs_mul]
    exact Int.natAbs_dvd_natAbs.mpr h
  have h2 : Nat.Coprime a.natAbs b.natAbs := g
  exact Int.natAbs_dvd_natAbs.mp (h2.dvd_of_dvd_mul_left h1)
theorem fr_eq {n d m e : Int} (hd : 0 < d) (he : 0 < e) (h : n * e = m * d) : fr n d = fr m e := by
  obtain ⟨n1, d1, e1, p1, c1, _, _, g1⟩ := fr_get n hd
  obtain ⟨m1, f1, e2, p2, c2, _, _, g2⟩ := fr_get m he
  rw [e1, e2]
  -- n1 / d1 = m1 / f1 with both in least form
  have cross : n1 * f1 = m1 * d1 := by
    have : (n1 * f1) * (d * e) = (m1 * d1) * (d * e) := by
      have a1 : (n1 * f1) * (d * e) = (n1 * d) * (f1 * e) := by ac_rfl
      have a2 : (m1 * d1) * (d * e) = (m1 * e) * (d1 * d) := by ac_rfl
      rw [a1, a2, c1, c2]
      have a3 : n * d1 * (f1 * e) = (n * e) * (d1 * f1) := by ac_rfl
      have a4 : m * f1 * (d1 * d) = (m * d) * (d1 * f1) := by ac_rfl
      rw [a3, a4, h]
    exact Int.eq_of_mul_eq_mul_right (Int.ne_of_gt (Int.mul_pos hd he)) this
  have k1 : d1 ∣ f1 := by
    have : d1 ∣ n1 * f1 := ⟨m1, by rw [cross]; ac_rfl⟩
    exact dvd_cop this (by rw [Int.gcd_comm]; exact g1)
  have k2 : f1 ∣ d1 := by
    have : f1 ∣ m1 * d1 := ⟨n1, by rw [← cross]; ac_rfl⟩
    exact dvd_cop this (by rw [Int.gcd_comm]; exact g2)
  have ed : d1 = f1 := Int.dvd_antisymm (by omega) (by omega) k1 k2
  subst ed
  have en : n1 = m1 := Int.eq_of_mul_eq_mul_right (by omega) cross
  rw [en]
/-- small enough -/
abbrev Sm (i : Int) : Prop := i.natAbs < 2 ^ 4000
theorem sm_le {a b : Int} (h : Sm b) (l : a.natAbs ≤ b.natAbs) : Sm a := Nat.lt_of_le_of_lt l h
theorem sm_mul {a b : Int} (ha : Sm a) (hb : Sm b) : mulOk a b = true := mulOk_of ha hb (by decide)
theorem mul_lt {a b : Int} {p q : Nat} (ha : a.natAbs < 2 ^ p) (hb : b.natAbs < 2 ^ q) : (a * b).natAbs < 2 ^ (p + q) := by
  rw [Int.natAbs_mul, Nat.pow_add]
  exact Nat.mul_lt_mul'' ha hb
theorem add_eq (h : T.defs "add" = some c_add) (hr : T.defs "reduced" = some c_reduced) {a b d e : Int} (hd : 0 < d) (he : 0 < e) (sa : Sm a) (sb : Sm b) (sd : Sm d) (se : Sm e) : call T w (k + 2) "add" [fr a d, fr b e] S = .ok (fr (a * e + b * d) (d * e)) S := by
  obtain ⟨a1, d1, e1, p1, c1, l1, m1, g1⟩ := fr_get a hd
  obtain ⟨b1, f1, e2, p2, c2, l2, m2, g2⟩ := fr_get b he
  have k1 := sm_mul (sm_le sa l1) (sm_le se m2)
  have k2 := sm_mul (sm_le sb l2) (sm_le sd m1)
  have k3 := sm_mul (sm_le sd m1) (sm_le se m2)
  have hp : 0 < d1 * f1 := Int.mul_pos p1 p2
  have hs : (d1 * f1).natAbs < 2 ^ (4000 + 4000) := mul_lt (sm_le sd m1) (sm_le se m2)
  rw [e1, e2, call_eq h rfl]
  have hc := reduced_eq (T := T) (w := w) (k := k) (S := S) hr (n := a1 * f1 + b1 * d1) hp hs (by decide)
  simp [runD, exB, exS, c_add, evE, evB, evEs, Ev.of, Res.bind, Res.rs, RS.seq, startR, Res.of, ixD, ixL, atD, ixN', binD, k1, k2, k3, hc]
  refine fr_eq hp (Int.mul_pos hd he) ?_
  have x1 : (a1 * f1 + b1 * d1) * (d * e) = (a1 * d) * (f1 * e) + (b1 * e) * (d1 * d) := by rw [Int.add_mul]; congr 1 <;> ac_rfl
  have x2 : (a * e + b * d) * (d1 * f1) = (a * d1) * (f1 * e) + (b * f1) * (d1 * d) := by rw [Int.add_mul]; congr 1 <;> ac_rfl
  rw [x1, x2, c1, c2]
theorem multiply_eq (h : T.defs "multiply" = some c_multiply) (hr : T.defs "reduced" = some c_reduced) {a b d e : Int} (hd : 0 < d) (he : 0 < e) (sa : Sm a) (sb : Sm b) (sd : Sm d) (se : Sm e) : call T w (k + 2) "multiply" [fr a d, fr b e] S = .ok (fr (a * b) (d * e)) S := by
  obtain ⟨a1, d1, e1, p1, c1, l1, m1, g1⟩ := fr_get a hd
  obtain ⟨b1, f1, e2, p2, c2, l2, m2, g2⟩ := fr_get b he
  have k1 := sm_mul (sm_le sa l1) (sm_le sb l2)
  have k3 := sm_mul (sm_le sd m1) (sm_le se m2)
  have hp : 0 < d1 * f1 := Int.mul_pos p1 p2
  have hs : (d1 * f1).natAbs < 2 ^ (4000 + 4000) := mul_lt (sm_le sd m1) (sm_le se m2)
  rw [e1, e2, call_eq h rfl]
  have hc := reduced_eq (T := T) (w := w) (k := k) (S := S) hr (n := a1 * b1) hp hs (by decide)
  simp [runD, exB, exS, c_multiply, evE, evB, evEs, Ev.of, Res.bind, Res.rs, RS.seq, startR, Res.of, ixD, ixL, atD, ixN', binD, k1, k3, hc]
  refine fr_eq hp (Int.mul_pos hd he) ?_
  have x1 : a1 * b1 * (d * e) = (a1 * d) * (b1 * e) := by ac_rfl
  have x2 : a * b * (d1 * f1) = (a * d1) * (b * f1) := by ac_rfl
  rw [x1, x2, c1, c2]
/-- below, by the numerators over one base -/
theorem below_fr {a b d a1 d1 b1 f1 : Int} (hd : 0 < d) (p1 : 0 < d1) (p2 : 0 < f1) (c1 : a1 * d = a * d1) (c2 : b1 * d = b * f1) : a1 * f1 < b1 * d1 ↔ a < b := by
  have x1 : (a1 * f1) * d = a * (d1 * f1) := by
    have : (a1 * f1) * d = (a1 * d) * f1 := by ac_rfl
    rw [this, c1]; ac_rfl
  have x2 : (b1 * d1) * d = b * (d1 * f1) := by
    have : (b1 * d1) * d = (b1 * d) * d1 := by ac_rfl
    rw [this, c2]; ac_rfl
  have q := Int.mul_pos p1 p2
  constructor
  · intro h
    have := Int.mul_lt_mul_of_pos_right h hd
    rw [x1, x2] at this
    exact Int.lt_of_mul_lt_mul_right this (Int.le_of_lt q)
  · intro h
    have := Int.mul_lt_mul_of_pos_right h q
    rw [← x1, ← x2] at this
    exact Int.lt_of_mul_lt_mul_right this (Int.le_of_lt hd)
theorem is_below_fr (h : T.defs "is_below" = some c_is_below) {a b d : Int} (hd : 0 < d) (sa : Sm a) (sb : Sm b) (sd : Sm d) : call T w (k + 1) "is_below" [fr a d, fr b d] S = .ok (.bl (decide (a < b))) S := by
  obtain ⟨a1, d1, e1, p1, c1, l1, m1, g1⟩ := fr_get a hd
  obtain ⟨b1, f1, e2, p2, c2, l2, m2, g2⟩ := fr_get b hd
  rw [e1, e2, is_below_eq h (sm_mul (sm_le sa l1) (sm_le sd m2)) (sm_mul (sm_le sb l2) (sm_le sd m1))]
  congr 2
  exact decide_eq_decide.mpr (below_fr hd p1 p2 c1 c2)
theorem least_of_fr (h : T.defs "least_of" = some c_least_of) (hb : T.defs "is_below" = some c_is_below) {a b d : Int} (hd : 0 < d) (sa : Sm a) (sb : Sm b) (sd : Sm d) : call T w (k + 2) "least_of" [fr a d, fr b d] S = .ok (fr (min a b) d) S := by
  rw [call_eq h rfl]
  have hc := is_below_fr (T := T) (w := w) (k := k) (S := S) hb hd sb sa sd
  simp [runD, exB, exS, c_least_of, evE, evT, evB, evEs, Ev.of, Res.bind, Res.rs, RS.seq, startR, Res.of, hc, truR, truD]
  by_cases hlt : b < a
  · simp [hlt, Int.min_eq_right (Int.le_of_lt hlt)]
  · simp [hlt, Int.min_eq_left (Int.not_lt.mp hlt)]
end G

end

section
set_option Elab.async false
set_option linter.all false
set_option maxRecDepth 100000
set_option exponentiation.threshold 10000
/-! K2: jobs. -/
namespace G
open PySem
variable {T : Tbl} {w k : Nat} {S : Sto}
/-- a number of a job, over the base M -/
abbrev S1 (i : Int) : Prop := i.natAbs < 2 ^ 1000
theorem S1.sm {i : Int} (h : S1 i) : Sm i := Nat.lt_of_lt_of_le h (Nat.pow_le_pow_right (by decide) (by decide))
theorem S1.mul {a b : Int} (ha : S1 a) (hb : S1 b) : Sm (a * b) := Nat.lt_of_lt_of_le (mul_lt ha hb) (Nat.pow_le_pow_right (by decide) (by decide))
/-- a job: length a / M, weight b / M -/
def jb (M a b : Int) : D := .tup [fr a M, fr b M]
structure TP (T : Tbl) : Prop where
  reduced : T.defs "reduced" = some c_reduced
  add : T.defs "add" = some c_add
  multiply : T.defs "multiply" = some c_multiply
  is_below : T.defs "is_below" = some c_is_below
  least_of : T.defs "least_of" = some c_least_of
  pair_of : T.defs "pair_of" = some c_pair_of
theorem pair_of_fr (h : TP T) {M a b c d : Int} (hM : 0 < M) (sM : S1 M) (sa : S1 a) (sb : S1 b) (sc : S1 c) (sd : S1 d) : call T w (k + 3) "pair_of" [jb M a b, jb M c d] S = .ok (fr (min (a * d) (c * b)) (M * M)) S := by
  rw [call_eq h.pair_of rfl]
  have h1 := multiply_eq (T := T) (w := w) (k := k) (S := S) h.multiply h.reduced hM hM sa.sm sd.sm sM.sm sM.sm
  have h2 := multiply_eq (T := T) (w := w) (k := k) (S := S) h.multiply h.reduced hM hM sc.sm sb.sm sM.sm sM.sm
  have h3 := least_of_fr (T := T) (w := w) (k := k) (S := S) h.least_of h.is_below (Int.mul_pos hM hM) (sa.mul sd) (sc.mul sb) (sM.mul sM)
  simp [runD, exB, exS, c_pair_of, evE, evB, evEs, Ev.of, Res.bind, Res.rs, RS.seq, startR, Res.of, ixD, ixL, atD, ixN', jb, h1, h2, h3]
structure TJ (T : Tbl) : Prop extends TP T where
  is_integer : T.defs "is_integer" = some c_is_integer
  is_list : T.defs "is_list" = some c_is_list
  is_tuple : T.defs "is_tuple" = some c_is_tuple
  is_fraction : T.defs "is_fraction" = some c_is_fraction
  is_amount : T.defs "is_amount" = some c_is_amount
  is_job : T.defs "is_job" = some c_is_job
  zero : T.gl "ZERO" = some (.tup [.int 0, .int 1])
theorem eqD_int {S : Sto} {a b : Int} : eqD S (.int a) (.int b) = some (decide (a = b)) := by
  show (if SeqAt.shaped (PyData.int a) && SeqAt.shaped (PyData.int b) then some (PyData.eqv (.int a) (.int b)) else none) = _
  have h : ∀ i, SeqAt.shaped (PyData.int i) = true := fun _ => rfl
  rw [h, h]
  rfl
theorem is_tuple_tup (h : TJ T) {xs : List D} {n : Int} : call T w (k + 1) "is_tuple" [.tup xs, .int n] S = .ok (.bl (decide ((xs.length : Int) = n))) S := by
  rw [call_eq h.is_tuple rfl]
  simp [runD, exB, exS, c_is_tuple, evE, evB, evEs, evAnd, Ev.of, Res.bind, Res.rs, RS.seq, startR, Res.of, tyD, isTy, truD, biD, bi1, lenD, cmpD, cmpO, eqD_int]
theorem is_fraction_fr (h : TJ T) {n d : Int} (hd : 0 < d) : ∃ G, call T w (k + 2) "is_fraction" [fr n d] S = .ok (.bl true) (S ++ G) := by
  obtain ⟨n', d', e, p, _, _, _, g⟩ := fr_get n hd
  rw [e, call_eq h.is_fraction rfl]
  have h1 := is_tuple_tup (T := T) (w := w) (k := k) (S := S) h (xs := [.int n', .int d']) (n := 2)
  have h2 : ∀ S i, call T w (k + 1) "is_integer" [.int i] S = .ok (.bl true) S := fun S i => is_integer_int h.is_integer i
  have g' : Nat.gcd n'.natAbs d'.natAbs = 1 := g
  refine ⟨[.lst [.bl true, .bl true]], ?_⟩
  simp [runD, exB, exS, c_is_fraction, evE, evT, evB, evEs, evAnd, evAny, Ev.of, Res.bind, Res.rs, RS.seq, startR, Res.of, h1, h2, truR, truD, lcD, dictAt, lcA, evI, seqIt, lcL, It.ok, asgP, wipeR, evIfs, Res.nox, newR, biD, bi1, lstAt, mapO, blD, ixD, ixL, atD, ixN', cmpD, cmpO, p, bi2, g', eqD_int]
theorem is_amount_fr (h : TJ T) {n d : Int} (hn : 0 ≤ n) (hd : 0 < d) : ∃ G, call T w (k + 3) "is_amount" [fr n d] S = .ok (.bl true) (S ++ G) := by
  obtain ⟨n', d', e, p, c, _, _, g⟩ := fr_get n hd
  obtain ⟨G, h1⟩ := is_fraction_fr (T := T) (w := w) (k := k) (S := S) h (n := n) hd
  have hn' : 0 ≤ n' := by
    by_cases hh : 0 ≤ n'
    · exact hh
    · exfalso
      have h2 : n' * d < 0 := Int.mul_neg_of_neg_of_pos (by omega) hd
      have h3 : 0 ≤ n * d' := Int.mul_nonneg hn (by omega)
      omega
  rw [e] at h1 ⊢
  refine ⟨G, ?_⟩
  rw [call_eq h.is_amount rfl]
  simp [runD, exB, exS, c_is_amount, evE, evT, evB, evEs, evAnd, Ev.of, Res.bind, Res.rs, RS.seq, startR, Res.of, h1, truD, ixD, ixL, atD, ixN', cmpD, cmpO, hn']
theorem eqD_22 {S : Sto} {a b c d e f g i : Int} : eqD S (.tup [.tup [.int a, .int b], .tup [.int c, .int d]]) (.tup [.tup [.int e, .int f], .tup [.int g, .int i]]) = some (decide (a = e) && (decide (b = f) && true) && (decide (c = g) && (decide (d = i) && true) && true)) := by
  rfl
theorem is_job_jb (h : TJ T) {M a b : Int} (hM : 0 < M) (ha : 0 ≤ a) (hb : 0 ≤ b) (hab : 0 < a + b) : ∃ G, call T w (k + 4) "is_job" [jb M a b] S = .ok (.bl true) (S ++ G) := by
  obtain ⟨a', d', e, p, c, _, _, g⟩ := fr_get a hM
  obtain ⟨b', f', e2, p2, c2, _, _, g2⟩ := fr_get b hM
  obtain ⟨G1, h1⟩ := is_amount_fr (T := T) (w := w) (k := k) (S := S) h ha hM
  obtain ⟨G2, h2⟩ := is_amount_fr (T := T) (w := w) (k := k) (S := S ++ G1) h hb hM
  have h3 := is_tuple_tup (T := T) (w := w) (k := k + 2) (S := S) h (xs := [fr a M, fr b M]) (n := 2)
  have ne : ¬ (a' = 0 ∧ b' = 0) := by
    rintro ⟨rfl, rfl⟩
    have x1 : a * d' = 0 := by rw [← c]; simp
    have x2 : b * f' = 0 := by rw [← c2]; simp
    have y1 : a = 0 := by
      rcases Int.mul_eq_zero.mp x1 with z | z
      · exact z
      · omega
    have y2 : b = 0 := by
      rcases Int.mul_eq_zero.mp x2 with z | z
      · exact z
      · omega
    omega
  refine ⟨G1 ++ G2, ?_⟩
  unfold jb
  rw [e, e2] at h3 ⊢
  rw [e] at h1
  rw [e2] at h2
  have hq : (decide (a' = 0) && (decide (d' = 1) && true) && (decide (b' = 0) && (decide (f' = 1) && true) && true)) = false := by
    by_cases z1 : a' = 0
    · have z2 : ¬ b' = 0 := fun z => ne ⟨z1, z⟩
      simp [z2]
    · simp [z1]
  rw [call_eq h.is_job rfl]
  simp [runD, exB, exS, c_is_job, evE, evT, evB, evEs, evAnd, Ev.of, Res.bind, Res.rs, RS.seq, startR, Res.of, h1, h2, h3, truD, ixD, ixL, atD, ixN', cmpD, cmpO, h.zero, newT, eqD_22]
  by_cases z1 : a' = 0 <;> by_cases z2 : b' = 0 <;> simp_all
end G

end

section
set_option Elab.async false
set_option linter.all false
set_option maxRecDepth 100000
/-! K3: what holds behind a piece of code; loops; stores that grow; the box. -/
namespace G
open PySem
def Res.post' {α : Type} (r : Res α) (Q : α → Sto → Prop) : Prop := match r with
  | .ok a S => Q a S
  | _ => False
def RS.post' (r : RS) (Q : Fl → Rho → Sto → Prop) : Prop := match r with
  | .fl f ρ S => Q f ρ S
  | _ => False
/-- closed, so that no look at a goal's type runs the code -/
structure Res.post {α : Type} (r : Res α) (Q : α → Sto → Prop) : Prop where
  out : r.post' Q
structure RS.post (r : RS) (Q : Fl → Rho → Sto → Prop) : Prop where
  out : r.post' Q
section
variable {α β : Type} {Q : α → Sto → Prop}
theorem Res.post_ok {a : α} {S : Sto} : (Res.ok a S).post Q = Q a S := propext ⟨fun h => h.out, fun h => ⟨h⟩⟩
theorem Res.post_exc {c : Str} {x : Option (Str × D)} {S : Sto} : (Res.exc c x S : Res α).post Q = False := propext ⟨fun h => h.out, fun h => h.elim⟩
theorem Res.post_fail : (Res.fail : Res α).post Q = False := propext ⟨fun h => h.out, fun h => h.elim⟩
theorem Res.of_some {a : α} {S : Sto} : Res.of (some (a, S)) = .ok a S := rfl
theorem Res.post_bind {r : Res β} {f : β → Sto → Res α} : (r.bind f).post Q = r.post fun a S => (f a S).post Q := by
  cases r <;> simp only [Res.bind, Res.post_ok, Res.post_exc, Res.post_fail]
theorem Res.post_nox {r : Res α} : r.nox.post Q = r.post Q := by cases r <;> simp only [Res.nox, Res.post_ok, Res.post_exc, Res.post_fail]
theorem RS.post_fl {f : Fl} {ρ : Rho} {S : Sto} {Q : Fl → Rho → Sto → Prop} : (RS.fl f ρ S).post Q = Q f ρ S := propext ⟨fun h => h.out, fun h => ⟨h⟩⟩
theorem RS.post_exc {c : Str} {x : Option (Str × D)} {ρ : Rho} {S : Sto} {Q : Fl → Rho → Sto → Prop} : (RS.exc c x ρ S).post Q = False := propext ⟨fun h => h.out, fun h => h.elim⟩
theorem RS.post_fail {Q : Fl → Rho → Sto → Prop} : (RS.fail).post Q = False := propext ⟨fun h => h.out, fun h => h.elim⟩
theorem Res.post_rs {r : Res α} {ρ : Rho} {k : α → Sto → RS} {Q : Fl → Rho → Sto → Prop} : (r.rs ρ k).post Q = r.post fun a S => (k a S).post Q := by cases r <;> simp only [Res.rs, Res.post_ok, Res.post_exc, Res.post_fail, RS.post_exc, RS.post_fail]
/-- behind a statement -/
def nxt (k : Rho → Sto → RS) (Q : Fl → Rho → Sto → Prop) (f : Fl) (ρ : Rho) (S : Sto) : Prop := match f with
  | .next => (k ρ S).post Q
  | f => Q f ρ S
theorem RS.post_seq {r : RS} {k : Rho → Sto → RS} {Q : Fl → Rho → Sto → Prop} : (r.seq k).post Q = r.post (nxt k Q) := by
  cases r with
  | fl f ρ S => cases f <;> simp only [RS.seq, nxt, RS.post_fl]
  | exc => simp only [RS.seq, RS.post_exc]
  | fail => simp only [RS.seq, RS.post_fail]
theorem Res.post.imp {r : Res α} {P : α → Sto → Prop} (h : r.post P) (hi : ∀ a S, P a S → Q a S) : r.post Q := by
  cases r with
  | ok a S => exact ⟨hi a S h.out⟩
  | exc => exact ⟨h.out⟩
  | fail => exact ⟨h.out⟩
theorem RS.post.imp {r : RS} {P Q : Fl → Rho → Sto → Prop} (h : r.post P) (hi : ∀ f ρ S, P f ρ S → Q f ρ S) : r.post Q := by
  cases r with
  | fl f ρ S => exact ⟨hi f ρ S h.out⟩
  | exc => exact ⟨h.out⟩
  | fail => exact ⟨h.out⟩
theorem Res.post.get {r : Res α} (h : r.post Q) : ∃ a S, r = .ok a S ∧ Q a S := by
  cases r with
  | ok a S => exact ⟨a, S, rfl, h.out⟩
  | exc => exact h.out.elim
  | fail => exact h.out.elim
theorem Res.post.of {r : Res α} {a : α} {S : Sto} (e : r = .ok a S) (h : Q a S) : r.post Q := by rw [e]; exact ⟨h⟩
end
/-- a suite's end as a def's answer -/
def back (Q : D → Sto → Prop) (f : Fl) (_ : Rho) (S : Sto) : Prop := match f with
  | .ret v => Q v S
  | .next => Q .non S
  | _ => False
theorem call_post {T : Tbl} {w k : Nat} {f : Str} {d : CDef} {vs : List D} {S : Sto} {Q : D → Sto → Prop} (hd : T.defs f = some d) (hl : vs.length = d.ps.length) (h : (exB (PA T w k) d.body (startR d.n vs) S).post (back Q)) : (call T w (k + 1) f vs S).post Q := by
  rw [call_eq hd hl]
  unfold runD
  revert h
  cases exB (PA T w k) d.body (startR d.n vs) S with
  | fl f ρ S => cases f <;> simp [RS.post_fl, back, Res.post_ok, Res.post_fail]
  | exc => simp [RS.post_exc]
  | fail => simp [RS.post_fail]
theorem call_post' {T : Tbl} {w k : Nat} {f : Str} {d : CDef} {vs : List D} {S : Sto} {Q : D → Sto → Prop} (hd : T.defs f = some d) (ρ : Rho) (hl : vs.length = d.ps.length) (hr : startR d.n vs = ρ) (h : (exB (PA T w k) d.body ρ S).post (back Q)) : (call T w (k + 1) f vs S).post Q := call_post hd hl (by rw [hr]; exact h)
/-- behind a statement: the rest of the suite -/
def thn (P : Par2) (r : CB) (Q : Fl → Rho → Sto → Prop) (f : Fl) (ρ : Rho) (S : Sto) : Prop := match f with
  | .next => (exB P r ρ S).post Q
  | f => Q f ρ S
section
variable {P : Par2} {r : CB} {Q : Fl → Rho → Sto → Prop} {ρ : Rho} {S : Sto}
theorem cons_post {s : CS} (h : (exS P s ρ S).post (thn P r Q)) : (exB P (.cons s r) ρ S).post Q := by
  unfold exB
  rw [RS.post_seq]
  refine h.imp ?_
  intro f ρ S h
  cases f <;> exact h
theorem nil_post (h : Q .next ρ S) : (exB P .nil ρ S).post Q := by
  unfold exB; exact ⟨h⟩
theorem thn_next (h : (exB P r ρ S).post Q) : thn P r Q .next ρ S := h
theorem thn_ret {v : D} : thn P r Q (.ret v) ρ S = Q (.ret v) ρ S := rfl
theorem thn_cont : thn P r Q .cont ρ S = Q .cont ρ S := rfl
theorem thn_nil : thn P .nil Q = Q := by
  funext f ρ S
  cases f <;> simp [thn, exB, RS.post_fl]
theorem back_ret {R : D → Sto → Prop} {v : D} : back R (.ret v) ρ S = R v S := rfl
theorem exS_asg {t : CT} {e : CE} : exS P (.asg t e) ρ S = (evE P.toPar e ρ S).rs ρ fun d S => (asgT P.toPar t d ρ S).nox.rs ρ fun ρ S => .fl .next ρ S := by simp only [exS]
theorem exS_expr {e : CE} : exS P (.expr e) ρ S = (evE P.toPar e ρ S).rs ρ fun _ S => .fl .next ρ S := by simp only [exS]
theorem exS_ret {e : CE} : exS P (.ret e) ρ S = (evE P.toPar e ρ S).rs ρ fun d S => .fl (.ret d) ρ S := by simp only [exS]
theorem exS_ife {c : CE} {a b : CB} : exS P (.ife c a b) ρ S = (evT P.toPar c ρ S).rs ρ fun k S => if k then exB P a ρ S else exB P b ρ S := by simp only [exS]
end
/-! loops -/
theorem forL_inv {J : It} {turn : D → Rho → Sto → RS} (I : List D → Rho → Sto → Prop) (hJ : ∀ xs ρ S, I xs ρ S → J.ok S = true)
    (hs : ∀ x xs ρ S, I (x :: xs) ρ S → (turn x ρ S).post fun f ρ' S' => (f = .next ∨ f = .cont) ∧ I xs ρ' S') : ∀ (xs : List D) (ρ : Rho) (S : Sto), I xs ρ S → (forL J turn xs ρ S).post fun f ρ' S' => f = .next ∧ I [] ρ' S'
  | [], ρ, S, h => by
    unfold forL
    rw [hJ _ _ _ h]
    exact ⟨rfl, h⟩
  | x :: xs, ρ, S, h => by
    unfold forL
    rw [hJ _ _ _ h]
    have h1 := hs x xs ρ S h
    revert h1
    cases turn x ρ S with
    | fl f ρ' S' =>
      rintro ⟨h1 | h1, h2⟩ <;> subst h1 <;> exact forL_inv I hJ hs xs ρ' S' h2
    | exc => exact fun h => h.out.elim
    | fail => exact fun h => h.out.elim
theorem for_post {P : Par2} {g : CP} {it : CI} {b : CB} {ρ : Rho} {S : Sto} {Q : Fl → Rho → Sto → Prop} (I : List D → Rho → Sto → Prop) (J : It) (S1 : Sto) (hi : evI P.toPar it ρ S = .ok J S1)
    (h0 : I J.items ρ S1) (hJ : ∀ xs ρ S, I xs ρ S → J.ok S = true)
    (hs : ∀ x xs ρ S, I (x :: xs) ρ S → ∃ ρ1, asgP S g x ρ = some ρ1 ∧ (exB P b ρ1 S).post fun f ρ' S' => (f = .next ∨ f = .cont) ∧ I xs ρ' S')
    (hq : ∀ ρ' S', I [] ρ' S' → Q .next ρ' S') : (exS P (.for g it b) ρ S).post Q := by
  simp only [exS, hi, Res.rs]
  refine (forL_inv I hJ ?_ J.items ρ S1 h0).imp ?_
  · intro x xs ρ S h
    obtain ⟨ρ1, e, h1⟩ := hs x xs ρ S h
    simp only [e]
    exact h1
  · rintro f ρ' S' ⟨rfl, h⟩
    exact hq ρ' S' h
theorem lcL_inv {J : It} {turn : D → Sto → Res (Option D)} (I : List D → List D → Sto → Prop) (hJ : ∀ xs acc S, I xs acc S → J.ok S = true)
    (hs : ∀ x xs acc S, I (x :: xs) acc S → (turn x S).post fun o S' => I xs (acc ++ o.toList) S') : ∀ (xs acc : List D) (S : Sto), acc.length + xs.length < 16000000 → I xs acc S → (lcL J turn xs acc S).post fun ys S' => I [] ys S'
  | [], acc, S, _, h => by
    unfold lcL
    rw [hJ _ _ _ h]
    exact ⟨h⟩
  | x :: xs, acc, S, hl, h => by
    unfold lcL
    rw [hJ _ _ _ h]
    simp only [if_true]
    rw [Res.post_bind]
    refine (hs x xs acc S h).imp ?_
    intro o S' h'
    simp at hl
    cases o with
    | none => exact lcL_inv I hJ hs xs acc S' (by omega) (by simpa using h')
    | some y =>
      simp only
      rw [if_pos (by omega)]
      exact lcL_inv I hJ hs xs (acc ++ [y]) S' (by simp; omega) h'
/-- a comprehension that is not over a name's dict -/
theorem lc_post {P : Par} {g : CP} {it : CI} {ifs : CEs} {vs : List Nat} {elt : CE} {ρ : Rho} {S : Sto} {Q : D → Sto → Prop} (I : List D → List D → Sto → Prop) (J : It) (S1 : Sto) (hd : dictAt it ρ S = none) (hi : evI P it ρ S = .ok J S1)
    (h0 : I J.items [] S1) (hl : J.items.length < 16000000) (hJ : ∀ xs acc S, I xs acc S → J.ok S = true)
    (hs : ∀ x xs acc S, I (x :: xs) acc S → ∃ ρ1, asgP S g x (wipeR ρ vs) = some ρ1 ∧ (evIfs P ifs ρ1 S).post fun b S => if b then ((evB P elt).v ρ1 S).post fun y S' => I xs (acc ++ [y]) S' else I xs acc S)
    (hq : ∀ ys S', I [] ys S' → Q (.ref S'.length) (S' ++ [.lst ys])) : ((evB P (.lc g it ifs vs elt)).v ρ S).post Q := by
  simp only [evB, Ev.of, hd, lcD, lcA, hi]
  have e1 : ∀ f : It → Sto → Res D, (Res.ok J S1).bind f = f J S1 := fun _ => rfl
  rw [e1]
  rw [Res.post_bind]
  refine Res.post.imp (lcL_inv I hJ ?_ J.items [] S1 (by simpa using hl) h0) fun ys S' h => ⟨hq ys S' h⟩
  · intro x xs acc S h
    obtain ⟨ρ1, e, h1⟩ := hs x xs acc S h
    rw [Res.post_nox, e]
    simp only
    rw [Res.post_bind]
    refine h1.imp ?_
    intro b S' hb
    cases b with
    | false => simpa [Res.post_ok] using hb
    | true =>
      simp only [if_true] at hb ⊢
      rw [Res.post_bind]
      exact hb.imp fun y S' h => ⟨h⟩
theorem whlL_post {test : Rho → Sto → Res Bool} {turn : Rho → Sto → RS} (I : Nat → Rho → Sto → Prop) (E : Rho → Sto → Prop)
    (hs : ∀ n ρ S, I n ρ S → (test ρ S).post fun b S => if b then ∃ m, n = m + 1 ∧ (turn ρ S).post fun f ρ' S' => (f = .next ∨ f = .cont) ∧ ∃ m', m' ≤ m ∧ I m' ρ' S' else E ρ S) : ∀ (w n : Nat) (ρ : Rho) (S : Sto), n < w → I n ρ S → (whlL test turn w ρ S).post fun f ρ' S' => f = .next ∧ E ρ' S'
  | 0, n, ρ, S, hn, h => by omega
  | w + 1, n, ρ, S, hn, h => by
    unfold whlL
    rw [Res.post_rs]
    refine (hs n ρ S h).imp ?_
    intro b S1 hb
    cases b with
    | false =>
      simp at hb
      exact ⟨rfl, hb⟩
    | true =>
      simp only [if_true] at hb ⊢
      obtain ⟨m, e, h1⟩ := hb
      revert h1
      cases turn ρ S1 with
      | fl f ρ' S' =>
        rintro ⟨h1 | h1, m', l, h2⟩ <;> subst h1 <;> exact whlL_post I E hs w m' ρ' S' (by omega) h2
      | exc => exact fun h => h.out.elim
      | fail => exact fun h => h.out.elim
theorem whl_post {P : Par2} {c : CE} {b : CB} {ρ : Rho} {S : Sto} {Q : Fl → Rho → Sto → Prop} (I : Nat → Rho → Sto → Prop) (n : Nat) (hn : n < P.w) (h0 : I n ρ S)
    (hs : ∀ n ρ S, I n ρ S → (evT P.toPar c ρ S).post fun b' S => if b' then ∃ m, n = m + 1 ∧ (exB P b ρ S).post fun f ρ' S' => (f = .next ∨ f = .cont) ∧ ∃ m', m' ≤ m ∧ I m' ρ' S' else Q .next ρ S) : (exS P (.whl c b) ρ S).post Q := by
  simp only [exS]
  refine (whlL_post I (Q .next) hs P.w n ρ S hn h0).imp ?_
  rintro f ρ' S' ⟨rfl, h⟩
  exact h
theorem evI_rng1 {P : Par} {a : CE} {ρ : Rho} {S S1 : Sto} {j : Int} (h : evE P a ρ S = .ok (.int j) S1) (hr : rngOk j = true) : evI P (.rng1 a) ρ S = .ok ⟨[], rngD 0 j⟩ S1 := by
  unfold evI
  unfold evE at h
  rw [h]
  show Res.of (if rngOk j = true then some ((⟨[], rngD 0 j⟩ : It), S1) else none) = _
  rw [if_pos hr]
  rfl
theorem evI_seq {P : Par} {a : CE} {ρ : Rho} {S S1 : Sto} {x : D} {J : It} (h : evE P a ρ S = .ok x S1) (hr : seqIt S1 x = some J) : evI P (.seq a) ρ S = .ok J S1 := by
  unfold evI
  unfold evE at h
  rw [h]
  show Res.of ((seqIt S1 x).map fun J => (J, S1)) = _
  rw [hr]
  rfl
theorem evI_enum {P : Par} {a : CE} {ρ : Rho} {S S1 : Sto} {x : D} {J : It} (h : evE P a ρ S = .ok x S1) (hr : seqIt' S1 x = some J) : evI P (.enum a) ρ S = .ok ⟨J.chk, enumFrom 0 J.items⟩ S1 := by
  unfold evI
  unfold evE at h
  rw [h]
  show Res.of ((seqIt' S1 x).map fun J => ((⟨J.chk, enumFrom 0 J.items⟩ : It), S1)) = _
  rw [hr]
  rfl
/-! ### stores -/
/-- older objects stand -/
def Ext (S S' : Sto) : Prop := ∀ (i : Nat) (x : MO), S[i]? = some x → S'[i]? = some x
theorem Ext.refl (S : Sto) : Ext S S := fun _ _ h => h
theorem Ext.trans {S S' S2 : Sto} (h : Ext S S') (h2 : Ext S' S2) : Ext S S2 := fun i x e => h2 i x (h i x e)
theorem Ext.app (S G : Sto) : Ext S (S ++ G) := fun i x e => by
  have := (List.getElem?_eq_some_iff.mp e).1
  rw [List.getElem?_append_left this]; exact e
theorem Ext.len {S S' : Sto} (h : Ext S S') : S.length ≤ S'.length := by
  by_cases h0 : S.length = 0
  · omega
  · have e : S[S.length - 1]? = some (S[S.length - 1]'(by omega)) := List.getElem?_eq_getElem (by omega)
    have := (List.getElem?_eq_some_iff.mp (h _ _ e)).1
    omega
/-- older objects stand, but the one at b -/
def Up (b : Nat) (S S' : Sto) : Prop := ∀ (i : Nat) (x : MO), i ≠ b → S[i]? = some x → S'[i]? = some x
theorem Ext.up {S S' : Sto} (b : Nat) (h : Ext S S') : Up b S S' := fun i x _ e => h i x e
theorem Up.refl (b : Nat) (S : Sto) : Up b S S := fun _ _ _ h => h
theorem Up.trans {b : Nat} {S S' S2 : Sto} (h : Up b S S') (h2 : Up b S' S2) : Up b S S2 := fun i x n e => h2 i x n (h i x n e)
theorem Up.set (b : Nat) (S : Sto) (o : MO) : Up b S (S.set b o) := fun i x n e => by
  rw [List.getElem?_set_ne (fun h => n h.symm)]; exact e
theorem Up.of_ext {b : Nat} {S S' S2 : Sto} (h : Up b S S') (h2 : Ext S' S2) : Up b S S2 := h.trans (h2.up b)
/-- a change at a place that is new -/
theorem Up.new {b : Nat} {S S' S2 : Sto} (h : Ext S S') (h2 : Up b S' S2) (hb : S.length ≤ b) : Ext S S2 := fun i x e => by
  have := (List.getElem?_eq_some_iff.mp e).1
  exact h2 i x (by omega) (h i x e)
theorem getE {S : Sto} {x : MO} {G : Sto} : (S ++ x :: G)[S.length]? = some x := by simp
/-- a box of drawn numbers -/
def BoxOk (S : Sto) (b c : Nat) : Prop := ∃ (a : Int) (f : Bool) (m n : Nat), S[b]? = some (.lst [.int a, .bl f, .int m, .int n]) ∧ m < 2147483629 ∧ n ≤ c
theorem BoxOk.ext {S S' : Sto} {b c : Nat} (h : BoxOk S b c) (e : Ext S S') : BoxOk S' b c := by
  obtain ⟨a, f, m, n, h1, h2, h3⟩ := h
  exact ⟨a, f, m, n, e _ _ h1, h2, h3⟩
theorem BoxOk.mono {S : Sto} {b c d : Nat} (h : BoxOk S b c) (l : c ≤ d) : BoxOk S b d := by
  obtain ⟨a, f, m, n, h1, h2, h3⟩ := h
  exact ⟨a, f, m, n, h1, h2, by omega⟩
/-- the box stands, and so do all others -/
structure BU (b c : Nat) (S S' : Sto) : Prop where
  up : Up b S S'
  box : BoxOk S' b c
theorem BU.trans {b c d : Nat} {S S' S2 : Sto} (h : BU b c S S') (h2 : BU b d S' S2) : BU b d S S2 := ⟨h.up.trans h2.up, h2.box⟩
theorem BU.ext {b c : Nat} {S S' S2 : Sto} (h : BU b c S S') (h2 : Ext S' S2) : BU b c S S2 := ⟨h.up.of_ext h2, h.box.ext h2⟩
theorem BU.mono {b c d : Nat} {S S' : Sto} (h : BU b c S S') (l : c ≤ d) : BU b d S S' := ⟨h.up, h.box.mono l⟩
theorem BU.ofext {b c : Nat} {S S' : Sto} (h : Ext S S') (hb : BoxOk S b c) : BU b c S S' := ⟨h.up b, hb.ext h⟩
variable {T : Tbl} {w k : Nat} {S : Sto}
theorem take_eq (h : T.defs "_law_take" = some c__law_take) {b c : Nat} {m : Int} (hb : BoxOk S b c) (hc : c < 1000000000) (hm : 0 < m) (hm2 : m < 1000) : (call T w (k + 1) "_law_take" [.ref b, .int m] S).post fun v S' => (∃ d : Int, v = .int d ∧ 0 ≤ d ∧ d < m) ∧ BU b (c + 1) S S' := by
  obtain ⟨a, f, m0, n, h1, h2, h3⟩ := hb
  have hb := (List.getElem?_eq_some_iff.mp h1).1
  have dm : divOk m = true := divOk_of (p := 10) (by omega) (by omega) (by decide)
  have m1 : mulOk m0 69621 = true := mulOk_of (p := 31) (q := 17) (by omega) (by decide) (by decide)
  have m2 : mulOk 1667 ((n : Int) + 1) = true := mulOk_of (p := 11) (q := 31) (by decide) (by omega) (by decide)
  have d64 : divOk 64 = true := by decide
  have mne : m ≠ 0 := by omega
  have fm : ∀ x : Int, 0 ≤ x.fmod m ∧ x.fmod m < m := fun x => by
    rw [Int.fmod_eq_emod_of_nonneg _ (by omega)]
    exact ⟨Int.emod_nonneg _ mne, Int.emod_lt_of_pos _ hm⟩
  refine call_post h rfl ?_
  have hset : ∀ o : MO, (S.set b o)[b]? = some o := fun o => by rw [List.getElem?_set_self hb]
  by_cases hg : f = true ∧ 0 < a
  · obtain ⟨rfl, ha⟩ := hg
    simp [runD, exB, exS, evE, evT, evB, evEs, evAnd, evOr, evAny, evAll, evIfs, evO, Ev.of, startR, Res.of, truR, truD, asgT, asgTs, newT, newL, newR, ixD, ixL, atD, ixN', binD, cmpD, cmpO, biD, bi1, bi2, seqD, intD, Res.bind, Res.rs, RS.seq, Res.nox, c__law_take, h1, ha, dm, mne, setD, RS.post_fl, back]
    refine ⟨fm a, Up.set b S _, ⟨_, true, m0, n, hset _, h2, by omega⟩⟩
  · have hg2 : (f = true ∧ 0 < a) = False := eq_false hg
    have e2 : ∀ o : MO, ((S.set b o))[b]? = some o := hset
    have nn : ∃ q : Nat, ((m0 : Int) * 69621 + 1667 * ((n : Int) + 1) + 7).fmod 2147483629 = q ∧ q < 2147483629 := by
      refine ⟨(((m0 : Int) * 69621 + 1667 * ((n : Int) + 1) + 7).fmod 2147483629).toNat, ?_, ?_⟩ <;> rw [Int.fmod_eq_emod_of_nonneg _ (by decide)] <;> omega
    obtain ⟨q, eq, hq⟩ := nn
    have key : (S.set b (.lst [.int a, .bl f, .int m0, .int ((n : Int) + 1)])).set b (.lst [.int a, .bl f, .int q, .int ((n : Int) + 1)]) = S.set b (.lst [.int a, .bl f, .int q, .int ((n : Int) + 1)]) := List.set_set ..
    cases f with
    | false =>
      simp [runD, exB, exS, evE, evT, evB, evEs, evAnd, evOr, evAny, evAll, evIfs, evO, Ev.of, startR, Res.of, truR, truD, asgT, asgTs, newT, newL, newR, ixD, ixL, atD, ixN', binD, cmpD, cmpO, biD, bi1, bi2, seqD, intD, Res.bind, Res.rs, RS.seq, Res.nox, c__law_take, h1, setD, hset, m1, m2, d64, eq, mne, RS.post_fl, back, key]
      refine ⟨fm _, Up.set b S _, ⟨a, false, q, n + 1, by rw [hset]; rfl, hq, by omega⟩⟩
    | true =>
      have ha : ¬ 0 < a := fun h => hg ⟨rfl, h⟩
      simp [runD, exB, exS, evE, evT, evB, evEs, evAnd, evOr, evAny, evAll, evIfs, evO, Ev.of, startR, Res.of, truR, truD, asgT, asgTs, newT, newL, newR, ixD, ixL, atD, ixN', binD, cmpD, cmpO, biD, bi1, bi2, seqD, intD, Res.bind, Res.rs, RS.seq, Res.nox, c__law_take, h1, ha, setD, hset, m1, m2, d64, eq, mne, RS.post_fl, back, key]
      refine ⟨fm _, Up.set b S _, ⟨a, true, q, n + 1, by rw [hset]; rfl, hq, by omega⟩⟩
end G

end

section
set_option Elab.async false
set_option linter.all false
set_option maxRecDepth 100000
/-! K3b: loops, with what is wanted behind kept closed. -/
namespace G
open PySem
theorem for_cps {P : Par2} {g : CP} {it : CI} {b : CB} {ρ : Rho} {S : Sto} {Q : Fl → Rho → Sto → Prop} (I : List D → Rho → Sto → Prop) (J : It) (S1 : Sto) (hi : evI P.toPar it ρ S = .ok J S1)
    (h0 : I J.items ρ S1) (hJ : ∀ xs ρ S, I xs ρ S → J.ok S = true)
    (hs : ∀ x xs ρ S, I (x :: xs) ρ S → ∃ ρ1, asgP S g x ρ = some ρ1 ∧ ∀ Q' : Fl → Rho → Sto → Prop, (∀ ρ' S', I xs ρ' S' → Q' .next ρ' S') → (exB P b ρ1 S).post Q')
    (hq : ∀ ρ' S', I [] ρ' S' → Q .next ρ' S') : (exS P (.for g it b) ρ S).post Q :=
  for_post I J S1 hi h0 hJ (fun x xs ρ S h => by
    obtain ⟨ρ1, e, h1⟩ := hs x xs ρ S h
    exact ⟨ρ1, e, h1 _ fun ρ' S' h2 => ⟨.inl rfl, h2⟩⟩) hq
theorem whl_cps {P : Par2} {c : CE} {b : CB} {ρ : Rho} {S : Sto} {Q : Fl → Rho → Sto → Prop} (I : Nat → Rho → Sto → Prop) (n : Nat) (hn : n < P.w) (h0 : I n ρ S)
    (hs : ∀ n ρ S, I n ρ S → ∃ b' S1, evT P.toPar c ρ S = .ok b' S1 ∧ (b' = true → ∀ Q' : Fl → Rho → Sto → Prop, (∀ m ρ' S', m < n → I m ρ' S' → Q' .next ρ' S') → (exB P b ρ S1).post Q') ∧ (b' = false → Q .next ρ S1)) : (exS P (.whl c b) ρ S).post Q :=
  whl_post I n hn h0 fun n ρ S h => by
    obtain ⟨b', S1, e, h1, h2⟩ := hs n ρ S h
    rw [e, Res.post_ok]
    cases b' with
    | false => simpa using h2 rfl
    | true =>
      simp only [if_true]
      have q : 0 < n ∨ n = 0 := by omega
      rcases q with q | q
      · refine ⟨n - 1, by omega, h1 rfl _ fun m ρ' S' hm h3 => ⟨.inl rfl, m, by omega, h3⟩⟩
      · exfalso
        have := h1 rfl (fun _ _ _ => False) fun m ρ' S' hm h3 => by omega
        revert this
        cases exB P b ρ S1 <;> exact fun h => h.out
theorem lc_cps {P : Par} {g : CP} {it : CI} {vs : List Nat} {elt : CE} {ρ : Rho} {S : Sto} {Q : D → Sto → Prop} (I : List D → List D → Sto → Prop) (J : It) (S1 : Sto) (hd : dictAt it ρ S = none) (hi : evI P it ρ S = .ok J S1)
    (h0 : I J.items [] S1) (hl : J.items.length < 16000000) (hJ : ∀ xs acc S, I xs acc S → J.ok S = true)
    (hs : ∀ x xs acc S, I (x :: xs) acc S → ∃ ρ1, asgP S g x (wipeR ρ vs) = some ρ1 ∧ ∀ Q' : D → Sto → Prop, (∀ y S', I xs (acc ++ [y]) S' → Q' y S') → ((evB P elt).v ρ1 S).post Q')
    (hq : ∀ ys S' S2 n, I [] ys S' → Ext S' S2 → S2[n]? = some (.lst ys) → S'.length ≤ n → Q (.ref n) S2) : ((evB P (.lc g it .nil vs elt)).v ρ S).post Q :=
  lc_post I J S1 hd hi h0 hl hJ (fun x xs acc S h => by
    obtain ⟨ρ1, e, h1⟩ := hs x xs acc S h
    refine ⟨ρ1, e, ?_⟩
    have e2 : evIfs P .nil ρ1 S = .ok true S := rfl
    rw [e2, Res.post_ok, if_pos rfl]
    exact h1 _ fun y S' h2 => h2) fun ys S' h => hq ys S' _ _ h (Ext.app _ _) getE (Nat.le_refl _)
/-- an assignment of a comprehension to a name -/
theorem asg_lc {P : Par2} {i : Nat} {e : CE} {ρ : Rho} {S : Sto} {Q : Fl → Rho → Sto → Prop} (h : ((evB P.toPar e).v ρ S).post fun d S' => Q .next (ρ.set i (some d)) S') : (exS P (.asg (.nm i) e) ρ S).post Q := by
  rw [exS_asg, Res.post_rs]
  exact Res.post.imp h fun d S' h => ⟨h⟩
end G

end

section
set_option Elab.async false
set_option linter.all false
set_option maxRecDepth 100000
set_option exponentiation.threshold 10000
/-! K4: the law's fractions and drawn jobs. -/
namespace G
open PySem
variable {T : Tbl} {w k : Nat} {S : Sto}
/-- enough turns for a while -/
abbrev Big (w : Nat) : Prop := ∀ n : Nat, n < 2 ^ 9000 → n < w
theorem part_eq (h : T.defs "_law_part" = some c__law_part) {a b : Int} (hw : b.natAbs < w) : call T w (k + 1) "_law_part" [.int a, .int b] S = .ok (.int (Int.gcd a b : Int)) S := by
  have habs : ∀ i : Int, (if i < 0 then -i else i) = (i.natAbs : Int) := fun i => by split <;> omega
  have := call_post (w := w) (k := k) (S := S) (vs := [.int a, .int b]) (Q := fun v S' => v = .int (Int.gcd a b : Int) ∧ S' = S) h rfl ?_
  · obtain ⟨v, S', e, rfl, rfl⟩ := this.get
    exact e
  · unfold c__law_part
    refine cons_post ?_
    simp [exS_asg, exS_expr, exS_ret, exS_ife, evE, evT, evB, evEs, evAnd, evOr, evAny, evAll, evIfs, evO, Ev.of, startR, Res.of, truR, truD, asgT, asgTs, newT, newL, newR, ixD, ixL, atD, ixN', binD, cmpD, cmpO, biD, bi1, bi2, seqD, intD, negD, Res.post_ok, Res.post_bind, Res.post_rs, Res.post_nox, RS.post_fl, habs]
    refine thn_next (cons_post (whl_post (P := PA T w k) (fun n ρ S' => ∃ x y : Nat, ρ = [some (.int x), some (.int y)] ∧ S' = S ∧ Nat.gcd x y = Int.gcd a b ∧ n = y) b.natAbs hw ⟨a.natAbs, b.natAbs, rfl, rfl, rfl, rfl⟩ ?_))
    rintro n ρ S' ⟨x, y, rfl, rfl, hg, rfl⟩
    simp [exS_asg, exS_expr, exS_ret, exS_ife, evE, evT, evB, evEs, evAnd, evOr, evAny, evAll, evIfs, evO, Ev.of, startR, Res.of, truR, truD, asgT, asgTs, newT, newL, newR, ixD, ixL, atD, ixN', binD, cmpD, cmpO, biD, bi1, bi2, seqD, intD, negD, Res.post_ok, Res.post_bind, Res.post_rs, Res.post_nox, RS.post_fl]
    by_cases hy : 0 < n
    · obtain ⟨m, rfl⟩ : ∃ m, n = m + 1 := ⟨n - 1, by omega⟩
      have hne : ((m : Int) + 1) ≠ 0 := by omega
      have hp : (0 : Int) < (m : Int) + 1 := by omega
      have hf : (x : Int).fmod ((m : Int) + 1) = ((x % (m + 1) : Nat) : Int) := by
        rw [Int.fmod_eq_emod_of_nonneg _ (by omega)]; simp
      simp [hp]
      refine cons_post ?_
      simp [exS_asg, exS_expr, exS_ret, exS_ife, evE, evT, evB, evEs, evAnd, evOr, evAny, evAll, evIfs, evO, Ev.of, startR, Res.of, truR, truD, asgT, asgTs, newT, newL, newR, ixD, ixL, atD, ixN', binD, cmpD, cmpO, biD, bi1, bi2, seqD, intD, negD, Res.post_ok, Res.post_bind, Res.post_rs, Res.post_nox, RS.post_fl, hne, hf]
      refine thn_next (nil_post ?_)
      refine ⟨.inl rfl, x % (m + 1), by have := Nat.mod_lt x (y := m + 1) (by omega); omega, m + 1, x % (m + 1), by simp, rfl, ?_, rfl⟩
      · rw [← hg, Nat.gcd_comm x, Nat.gcd_rec (m + 1) x, Nat.gcd_comm]
    · have h0 : n = 0 := by omega
      subst h0
      simp
      refine thn_next (cons_post ?_)
      simp [exS_asg, exS_expr, exS_ret, exS_ife, evE, evT, evB, evEs, evAnd, evOr, evAny, evAll, evIfs, evO, Ev.of, startR, Res.of, truR, truD, asgT, asgTs, newT, newL, newR, ixD, ixL, atD, ixN', binD, cmpD, cmpO, biD, bi1, bi2, seqD, intD, negD, Res.post_ok, Res.post_bind, Res.post_rs, Res.post_nox, RS.post_fl, thn_ret, back_ret]
      rw [← hg]; simp
theorem lfraction_eq (h : T.defs "_law_fraction" = some c__law_fraction) (hp : T.defs "_law_part" = some c__law_part) (hw : Big w) {n d : Int} {p : Nat} (hd : 0 < d) (hs : d.natAbs < 2 ^ p) (hp9 : p < 9000) : call T w (k + 2) "_law_fraction" [.int n, .int d] S = .ok (fr n d) S := by
  have g0 := gcd_pos (n := n) hd
  have gle : (Int.gcd n d : Int).natAbs ≤ d.natAbs := by
    have : Int.gcd n d ∣ d.natAbs := by
      rw [Int.gcd]; exact Nat.gcd_dvd_right _ _
    have := Nat.le_of_dvd (by omega) this
    omega
  have dv : divOk (Int.gcd n d : Int) = true := divOk_of (by omega) (Nat.lt_of_le_of_lt gle hs) hp9
  have h1 := part_eq (w := w) (k := k) (S := S) hp (a := n) (b := d) (hw _ (Nat.lt_of_lt_of_le hs (Nat.pow_le_pow_right (by decide) (by omega))))
  have e1 : Int.fdiv n (Int.gcd n d : Int) = n / (Int.gcd n d : Int) := Int.fdiv_eq_ediv_of_nonneg _ (by omega)
  have e2 : Int.fdiv d (Int.gcd n d : Int) = d / (Int.gcd n d : Int) := Int.fdiv_eq_ediv_of_nonneg _ (by omega)
  rw [call_eq h rfl]
  simp [runD, exB, exS, evE, evT, evB, evEs, evAnd, evOr, evAny, evAll, evIfs, evO, Ev.of, startR, Res.of, truR, truD, asgT, asgTs, newT, newL, newR, ixD, ixL, atD, ixN', binD, cmpD, cmpO, biD, bi1, bi2, seqD, intD, Res.bind, Res.rs, RS.seq, Res.nox, c__law_fraction, h1, dv, e1, e2, fr]
structure TL (T : Tbl) : Prop where
  part : T.defs "_law_part" = some c__law_part
  fraction : T.defs "_law_fraction" = some c__law_fraction
  add : T.defs "_law_add" = some c__law_add
  times : T.defs "_law_times" = some c__law_times
  less : T.defs "_law_less" = some c__law_less
  lesser : T.defs "_law_lesser" = some c__law_lesser
  sum : T.defs "_law_sum" = some c__law_sum
theorem ladd_eq (h : TL T) (hw : Big w) {a b d e : Int} (hd : 0 < d) (he : 0 < e) (sa : Sm a) (sb : Sm b) (sd : Sm d) (se : Sm e) : call T w (k + 3) "_law_add" [fr a d, fr b e] S = .ok (fr (a * e + b * d) (d * e)) S := by
  obtain ⟨a1, d1, e1, p1, c1, l1, m1, g1⟩ := fr_get a hd
  obtain ⟨b1, f1, e2, p2, c2, l2, m2, g2⟩ := fr_get b he
  have k1 := sm_mul (sm_le sa l1) (sm_le se m2)
  have k2 := sm_mul (sm_le sb l2) (sm_le sd m1)
  have k3 := sm_mul (sm_le sd m1) (sm_le se m2)
  have hp : 0 < d1 * f1 := Int.mul_pos p1 p2
  have hs : (d1 * f1).natAbs < 2 ^ (4000 + 4000) := mul_lt (sm_le sd m1) (sm_le se m2)
  rw [e1, e2, call_eq h.add rfl]
  have hc := lfraction_eq (T := T) (w := w) (k := k) (S := S) h.fraction h.part hw (n := a1 * f1 + b1 * d1) hp hs (by decide)
  simp [runD, exB, exS, evE, evT, evB, evEs, evAnd, evOr, evAny, evAll, evIfs, evO, Ev.of, startR, Res.of, truR, truD, asgT, asgTs, newT, newL, newR, ixD, ixL, atD, ixN', binD, cmpD, cmpO, biD, bi1, bi2, seqD, intD, Res.bind, Res.rs, RS.seq, Res.nox, c__law_add, k1, k2, k3, hc]
  refine fr_eq hp (Int.mul_pos hd he) ?_
  have x1 : (a1 * f1 + b1 * d1) * (d * e) = (a1 * d) * (f1 * e) + (b1 * e) * (d1 * d) := by rw [Int.add_mul]; congr 1 <;> ac_rfl
  have x2 : (a * e + b * d) * (d1 * f1) = (a * d1) * (f1 * e) + (b * f1) * (d1 * d) := by rw [Int.add_mul]; congr 1 <;> ac_rfl
  rw [x1, x2, c1, c2]
theorem ltimes_eq (h : TL T) (hw : Big w) {a b d e : Int} (hd : 0 < d) (he : 0 < e) (sa : Sm a) (sb : Sm b) (sd : Sm d) (se : Sm e) : call T w (k + 3) "_law_times" [fr a d, fr b e] S = .ok (fr (a * b) (d * e)) S := by
  obtain ⟨a1, d1, e1, p1, c1, l1, m1, g1⟩ := fr_get a hd
  obtain ⟨b1, f1, e2, p2, c2, l2, m2, g2⟩ := fr_get b he
  have k1 := sm_mul (sm_le sa l1) (sm_le sb l2)
  have k3 := sm_mul (sm_le sd m1) (sm_le se m2)
  have hp : 0 < d1 * f1 := Int.mul_pos p1 p2
  have hs : (d1 * f1).natAbs < 2 ^ (4000 + 4000) := mul_lt (sm_le sd m1) (sm_le se m2)
  rw [e1, e2, call_eq h.times rfl]
  have hc := lfraction_eq (T := T) (w := w) (k := k) (S := S) h.fraction h.part hw (n := a1 * b1) hp hs (by decide)
  simp [runD, exB, exS, evE, evT, evB, evEs, evAnd, evOr, evAny, evAll, evIfs, evO, Ev.of, startR, Res.of, truR, truD, asgT, asgTs, newT, newL, newR, ixD, ixL, atD, ixN', binD, cmpD, cmpO, biD, bi1, bi2, seqD, intD, Res.bind, Res.rs, RS.seq, Res.nox, c__law_times, k1, k3, hc]
  refine fr_eq hp (Int.mul_pos hd he) ?_
  have x1 : a1 * b1 * (d * e) = (a1 * d) * (b1 * e) := by ac_rfl
  have x2 : a * b * (d1 * f1) = (a * d1) * (b * f1) := by ac_rfl
  rw [x1, x2, c1, c2]
theorem lless_fr (h : TL T) {a b d : Int} (hd : 0 < d) (sa : Sm a) (sb : Sm b) (sd : Sm d) : call T w (k + 1) "_law_less" [fr a d, fr b d] S = .ok (.bl (decide (a < b))) S := by
  obtain ⟨a1, d1, e1, p1, c1, l1, m1, g1⟩ := fr_get a hd
  obtain ⟨b1, f1, e2, p2, c2, l2, m2, g2⟩ := fr_get b hd
  have k1 := sm_mul (sm_le sa l1) (sm_le sd m2)
  have k2 := sm_mul (sm_le sb l2) (sm_le sd m1)
  rw [e1, e2, call_eq h.less rfl]
  simp [runD, exB, exS, evE, evT, evB, evEs, evAnd, evOr, evAny, evAll, evIfs, evO, Ev.of, startR, Res.of, truR, truD, asgT, asgTs, newT, newL, newR, ixD, ixL, atD, ixN', binD, cmpD, cmpO, biD, bi1, bi2, seqD, intD, Res.bind, Res.rs, RS.seq, Res.nox, c__law_less, k1, k2]
  exact below_fr hd p1 p2 c1 c2
theorem llesser_fr (h : TL T) {a b d : Int} (hd : 0 < d) (sa : Sm a) (sb : Sm b) (sd : Sm d) : call T w (k + 2) "_law_lesser" [fr a d, fr b d] S = .ok (fr (min a b) d) S := by
  rw [call_eq h.lesser rfl]
  have hc := lless_fr (T := T) (w := w) (k := k) (S := S) h hd sb sa sd
  simp [runD, exB, exS, evE, evT, evB, evEs, evAnd, evOr, evAny, evAll, evIfs, evO, Ev.of, startR, Res.of, truR, truD, asgT, asgTs, newT, newL, newR, ixD, ixL, atD, ixN', binD, cmpD, cmpO, biD, bi1, bi2, seqD, intD, Res.bind, Res.rs, RS.seq, Res.nox, c__law_lesser, hc]
  by_cases hlt : b < a
  · simp [hlt, Int.min_eq_right (Int.le_of_lt hlt)]
  · simp [hlt, Int.min_eq_left (Int.not_lt.mp hlt)]
/-- the sum over one base -/
theorem fr_sum {a b d : Int} (hd : 0 < d) : fr (a * d + b * d) (d * d) = fr (a + b) d := by
  refine fr_eq (Int.mul_pos hd hd) hd ?_
  rw [Int.add_mul, Int.add_mul]
  congr 1 <;> ac_rfl
theorem fr_zero {d : Int} (hd : 0 < d) : D.tup [.int 0, .int 1] = fr 0 d := by
  have : fr 0 d = fr 0 1 := fr_eq hd (by decide) (by simp)
  rw [this]; simp [fr]
theorem fr_one (n : Int) : D.tup [.int n, .int 1] = fr n 1 := by
  simp [fr]
end G

end

section
set_option Elab.async false
set_option linter.all false
set_option maxRecDepth 100000
set_option exponentiation.threshold 10000
/-! K5: drawn jobs. -/
namespace G
open PySem
variable {T : Tbl} {w k : Nat} {S : Sto}
structure TB (T : Tbl) : Prop extends TL T where
  take : T.defs "_law_take" = some c__law_take
  amount : T.defs "_law_amount" = some c__law_amount
  job : T.defs "_law_job" = some c__law_job
  jobs : T.defs "_law_jobs" = some c__law_jobs
/-- an amount over the base M, at most m -/
def AmM (M m : Int) (v : D) : Prop := ∃ a : Int, v = fr a M ∧ 0 ≤ a ∧ a ≤ m * M
theorem am_int {M : Int} (hM : 0 < M) {n m : Int} (h0 : 0 ≤ n) (h1 : n ≤ m) : AmM M m (.tup [.int n, .int 1]) :=
  ⟨n * M, by rw [fr_one]; exact fr_eq (by decide) hM (by simp), Int.mul_nonneg h0 (Int.le_of_lt hM), Int.mul_le_mul_of_nonneg_right h1 (Int.le_of_lt hM)⟩
theorem am_fr {M : Int} (hM : 0 < M) {n d m q : Int} (hq : M = d * q) (h0 : 0 ≤ n) (h1 : n ≤ m) (hd : 0 < d) : AmM M m (fr n d) := by
  have q0 : 0 < q := by
    by_cases h : 0 < q
    · exact h
    · have : d * q ≤ 0 := Int.mul_nonpos_of_nonneg_of_nonpos (by omega) (by omega)
      omega
  refine ⟨n * q, fr_eq hd hM (by rw [hq]; ac_rfl), Int.mul_nonneg h0 (by omega), ?_⟩
  have h2 : n * q ≤ m * q := Int.mul_le_mul_of_nonneg_right h1 (by omega)
  have h3 : m * q * 1 ≤ m * q * d := Int.mul_le_mul_of_nonneg_left (by omega) (Int.mul_nonneg (by omega) (by omega))
  have e : m * M = m * q * d := by rw [hq]; ac_rfl
  omega
theorem amount_post (h : TB T) (hw : Big w) {M q : Int} (hM : 0 < M) (hq : M = 12 * q) {b c : Nat} (hb : BoxOk S b c) (hc : c + 10 < 1000000000) : (call T w (k + 3) "_law_amount" [.ref b] S).post fun v S' => AmM M 9 v ∧ BU b (c + 3) S S' := by
  refine call_post h.amount rfl ?_
  unfold c__law_amount
  refine cons_post ?_
  simp [exS_asg, exS_expr, exS_ret, exS_ife, evE, evT, evB, evEs, evAnd, evOr, evAny, evAll, evIfs, evO, Ev.of, startR, Res.of, truR, truD, asgT, asgTs, newT, newL, newR, ixD, ixL, atD, ixN', binD, cmpD, cmpO, biD, bi1, bi2, seqD, intD, negD, Res.post_ok, Res.post_bind, Res.post_rs, Res.post_nox, RS.post_fl]
  refine (take_eq h.take hb (by omega) (by decide) (by decide)).imp ?_
  rintro v S1 ⟨⟨d, rfl, d0, d8⟩, hb1⟩
  refine thn_next (cons_post ?_)
  simp [exS_asg, exS_expr, exS_ret, exS_ife, evE, evT, evB, evEs, evAnd, evOr, evAny, evAll, evIfs, evO, Ev.of, startR, Res.of, truR, truD, asgT, asgTs, newT, newL, newR, ixD, ixL, atD, ixN', binD, cmpD, cmpO, biD, bi1, bi2, seqD, intD, negD, Res.post_ok, Res.post_bind, Res.post_rs, Res.post_nox, RS.post_fl, eqD_int]
  by_cases e0 : d = 0
  · subst e0
    simp
    refine cons_post ?_
    simp [exS_asg, exS_expr, exS_ret, exS_ife, evE, evT, evB, evEs, evAnd, evOr, evAny, evAll, evIfs, evO, Ev.of, startR, Res.of, truR, truD, asgT, asgTs, newT, newL, newR, ixD, ixL, atD, ixN', binD, cmpD, cmpO, biD, bi1, bi2, seqD, intD, negD, Res.post_ok, Res.post_bind, Res.post_rs, Res.post_nox, RS.post_fl, thn_ret, back_ret]
    exact ⟨am_int hM (by decide) (by decide), hb1.mono (by omega)⟩
  · simp [e0]
    refine nil_post (thn_next (cons_post ?_))
    simp [exS_asg, exS_expr, exS_ret, exS_ife, evE, evT, evB, evEs, evAnd, evOr, evAny, evAll, evIfs, evO, Ev.of, startR, Res.of, truR, truD, asgT, asgTs, newT, newL, newR, ixD, ixL, atD, ixN', binD, cmpD, cmpO, biD, bi1, bi2, seqD, intD, negD, Res.post_ok, Res.post_bind, Res.post_rs, Res.post_nox, RS.post_fl]
    by_cases e5 : d < 5
    · simp [e5]
      refine cons_post ?_
      simp [exS_asg, exS_expr, exS_ret, exS_ife, evE, evT, evB, evEs, evAnd, evOr, evAny, evAll, evIfs, evO, Ev.of, startR, Res.of, truR, truD, asgT, asgTs, newT, newL, newR, ixD, ixL, atD, ixN', binD, cmpD, cmpO, biD, bi1, bi2, seqD, intD, negD, Res.post_ok, Res.post_bind, Res.post_rs, Res.post_nox, RS.post_fl]
      refine (take_eq h.take hb1.box (by omega) (by decide) (by decide)).imp ?_
      rintro v S2 ⟨⟨x, rfl, x0, x8⟩, hb2⟩
      simp [thn_ret, back_ret]
      exact ⟨am_int hM (by omega) (by omega), (hb1.trans hb2).mono (by omega)⟩
    · simp [e5]
      refine nil_post (thn_next (cons_post ?_))
      simp [exS_asg, exS_expr, exS_ret, exS_ife, evE, evT, evB, evEs, evAnd, evOr, evAny, evAll, evIfs, evO, Ev.of, startR, Res.of, truR, truD, asgT, asgTs, newT, newL, newR, ixD, ixL, atD, ixN', binD, cmpD, cmpO, biD, bi1, bi2, seqD, intD, negD, Res.post_ok, Res.post_bind, Res.post_rs, Res.post_nox, RS.post_fl]
      refine (take_eq h.take hb1.box (by omega) (by decide) (by decide)).imp ?_
      rintro v S2 ⟨⟨x, rfl, x0, x8⟩, hb2⟩
      simp [exS_asg, exS_expr, exS_ret, exS_ife, evE, evT, evB, evEs, evAnd, evOr, evAny, evAll, evIfs, evO, Ev.of, startR, Res.of, truR, truD, asgT, asgTs, newT, newL, newR, ixD, ixL, atD, ixN', binD, cmpD, cmpO, biD, bi1, bi2, seqD, intD, negD, Res.post_ok, Res.post_bind, Res.post_rs, Res.post_nox, RS.post_fl]
      refine (take_eq h.take hb2.box (by omega) (by decide) (by decide)).imp ?_
      rintro v S3 ⟨⟨y, rfl, y0, y8⟩, hb3⟩
      simp [exS_asg, exS_expr, exS_ret, exS_ife, evE, evT, evB, evEs, evAnd, evOr, evAny, evAll, evIfs, evO, Ev.of, startR, Res.of, truR, truD, asgT, asgTs, newT, newL, newR, ixD, ixL, atD, ixN', binD, cmpD, cmpO, biD, bi1, bi2, seqD, intD, negD, Res.post_ok, Res.post_bind, Res.post_rs, Res.post_nox, RS.post_fl]
      have hf := lfraction_eq (T := T) (w := w) (k := k) (S := S3) h.fraction h.part hw (n := 1 + x) (d := 1 + y) (p := 5) (by omega) (by omega) (by decide)
      refine Res.post.of hf ?_
      refine ⟨?_, ((hb1.trans hb2).trans hb3).mono (by omega)⟩
      have hy : y = 0 ∨ y = 1 ∨ y = 2 ∨ y = 3 := by omega
      rcases hy with rfl | rfl | rfl | rfl
      · exact am_fr hM (q := 12 * q) (by omega) (by omega) (by omega) (by omega)
      · exact am_fr hM (q := 6 * q) (by omega) (by omega) (by omega) (by omega)
      · exact am_fr hM (q := 4 * q) (by omega) (by omega) (by omega) (by omega)
      · exact am_fr hM (q := 3 * q) (by omega) (by omega) (by omega) (by omega)
def jv (M : Int) (x : IJ) : D := jb M x.1 x.2
def JobM (M m : Int) (v : D) : Prop := ∃ x : IJ, v = jv M x ∧ pos x ∧ x.1 ≤ m * M ∧ x.2 ≤ m * M
theorem job_post (h : TB T) (hw : Big w) {M q : Int} (hM : 0 < M) (hq : M = 12 * q) {b c : Nat} (hb : BoxOk S b c) (hc : c + 20 < 1000000000) : (call T w (k + 4) "_law_job" [.ref b] S).post fun v S' => JobM M 9 v ∧ BU b (c + 7) S S' := by
  refine call_post h.job rfl ?_
  unfold c__law_job
  refine cons_post ?_
  simp [exS_asg, exS_expr, exS_ret, exS_ife, evE, evT, evB, evEs, evAnd, evOr, evAny, evAll, evIfs, evO, Ev.of, startR, Res.of, truR, truD, asgT, asgTs, newT, newL, newR, ixD, ixL, atD, ixN', binD, cmpD, cmpO, biD, bi1, bi2, seqD, intD, negD, Res.post_ok, Res.post_bind, Res.post_rs, Res.post_nox, RS.post_fl]
  refine (amount_post h hw hM hq hb (by omega)).imp ?_
  rintro v S1 ⟨⟨a, rfl, a0, a9⟩, hb1⟩
  refine (amount_post h hw hM hq hb1.box (by omega)).imp ?_
  rintro v S2 ⟨⟨a2, rfl, a20, a29⟩, hb2⟩
  refine thn_next (cons_post ?_)
  obtain ⟨n1, d1, e1, p1, c1, _, _, _⟩ := fr_get a hM
  obtain ⟨n2, d2, e2, p2, c2, _, _, _⟩ := fr_get a2 hM
  have key : 0 < n1 + n2 ↔ 0 < a + a2 := by
    have f1 : 0 ≤ n1 := by
      by_cases hh : 0 ≤ n1
      · exact hh
      · have h2 : n1 * M < 0 := Int.mul_neg_of_neg_of_pos (by omega) hM
        have h3 : 0 ≤ a * d1 := Int.mul_nonneg a0 (by omega)
        omega
    have f2 : 0 ≤ n2 := by
      by_cases hh : 0 ≤ n2
      · exact hh
      · have h2 : n2 * M < 0 := Int.mul_neg_of_neg_of_pos (by omega) hM
        have h3 : 0 ≤ a2 * d2 := Int.mul_nonneg a20 (by omega)
        omega
    have z : ∀ {n d x : Int}, n * M = x * d → 0 < d → (n = 0 ↔ x = 0) := by
      intro n d x e hd
      constructor
      · rintro rfl
        have : x * d = 0 := by rw [← e]; simp
        rcases Int.mul_eq_zero.mp this with q | q
        · exact q
        · omega
      · rintro rfl
        have : n * M = 0 := by rw [e]; simp
        rcases Int.mul_eq_zero.mp this with q | q
        · exact q
        · omega
    have z1 := z c1 p1
    have z2 := z c2 p2
    by_cases y1 : n1 = 0 <;> by_cases y2 : n2 = 0 <;> simp [y1, y2] at z1 z2 <;> omega
  have hbb := hb1.trans hb2
  by_cases hpos : 0 < a + a2
  · rw [e1, e2]
    simp [exS_asg, exS_expr, exS_ret, exS_ife, evE, evT, evB, evEs, evAnd, evOr, evAny, evAll, evIfs, evO, Ev.of, startR, Res.of, truR, truD, asgT, asgTs, newT, newL, newR, ixD, ixL, atD, ixN', binD, cmpD, cmpO, biD, bi1, bi2, seqD, intD, negD, Res.post_ok, Res.post_bind, Res.post_rs, Res.post_nox, RS.post_fl, key, hpos, thn_ret, back_ret]
    refine ⟨⟨(a, a2), ?_, ⟨a0, a20, hpos⟩, a9, a29⟩, hbb.mono (by omega)⟩
    simp [jv, jb, e1, e2]
  · rw [e1, e2]
    simp [exS_asg, exS_expr, exS_ret, exS_ife, evE, evT, evB, evEs, evAnd, evOr, evAny, evAll, evIfs, evO, Ev.of, startR, Res.of, truR, truD, asgT, asgTs, newT, newL, newR, ixD, ixL, atD, ixN', binD, cmpD, cmpO, biD, bi1, bi2, seqD, intD, negD, Res.post_ok, Res.post_bind, Res.post_rs, Res.post_nox, RS.post_fl, key, hpos]
    have eS := Ext.app S2 [.lst [.tup [.tup [.int 1, .int 1], .tup [.int 0, .int 1]], .tup [.tup [.int 0, .int 1], .tup [.int 1, .int 1]], .tup [.tup [.int 1, .int 1], .tup [.int 1, .int 1]]]]
    refine (take_eq h.take (hbb.box.ext eS) (by omega) (by decide) (by decide)).imp ?_
    rintro v S3 ⟨⟨x, rfl, x0, x8⟩, hb3⟩
    have hne : S2.length ≠ b := by
      obtain ⟨_, _, _, _, g, _⟩ := hbb.box
      have := (List.getElem?_eq_some_iff.mp g).1
      omega
    have hl := hb3.up S2.length _ hne getE
    have hfin := ((hbb.ext eS).trans hb3).mono (d := c + 7) (by omega)
    have one : D.tup [.int 1, .int 1] = fr M M := by rw [fr_one]; exact fr_eq (by decide) hM (by simp)
    have zro : D.tup [.int 0, .int 1] = fr 0 M := fr_zero hM
    simp [exS_asg, exS_expr, exS_ret, exS_ife, evE, evT, evB, evEs, evAnd, evOr, evAny, evAll, evIfs, evO, Ev.of, startR, Res.of, truR, truD, asgT, asgTs, newT, newL, newR, ixD, ixL, atD, ixN', binD, cmpD, cmpO, biD, bi1, bi2, seqD, intD, negD, Res.post_ok, Res.post_bind, Res.post_rs, Res.post_nox, RS.post_fl, hl, thn_ret, back_ret]
    have hx : x = 0 ∨ x = 1 ∨ x = 2 := by omega
    rcases hx with rfl | rfl | rfl
    · simp [exS_asg, exS_expr, exS_ret, exS_ife, evE, evT, evB, evEs, evAnd, evOr, evAny, evAll, evIfs, evO, Ev.of, startR, Res.of, truR, truD, asgT, asgTs, newT, newL, newR, ixD, ixL, atD, ixN', binD, cmpD, cmpO, biD, bi1, bi2, seqD, intD, negD, Res.post_ok, Res.post_bind, Res.post_rs, Res.post_nox, RS.post_fl, thn_ret, back_ret]
      exact ⟨⟨(M, 0), by simp [jv, jb, one, zro], ⟨by simp; omega, by simp, by simp; omega⟩, by simp; omega, by simp; omega⟩, hfin⟩
    · simp [exS_asg, exS_expr, exS_ret, exS_ife, evE, evT, evB, evEs, evAnd, evOr, evAny, evAll, evIfs, evO, Ev.of, startR, Res.of, truR, truD, asgT, asgTs, newT, newL, newR, ixD, ixL, atD, ixN', binD, cmpD, cmpO, biD, bi1, bi2, seqD, intD, negD, Res.post_ok, Res.post_bind, Res.post_rs, Res.post_nox, RS.post_fl, thn_ret, back_ret]
      exact ⟨⟨(0, M), by simp [jv, jb, one, zro], ⟨by simp, by simp; omega, by simp; omega⟩, by simp; omega, by simp; omega⟩, hfin⟩
    · simp [exS_asg, exS_expr, exS_ret, exS_ife, evE, evT, evB, evEs, evAnd, evOr, evAny, evAll, evIfs, evO, Ev.of, startR, Res.of, truR, truD, asgT, asgTs, newT, newL, newR, ixD, ixL, atD, ixN', binD, cmpD, cmpO, biD, bi1, bi2, seqD, intD, negD, Res.post_ok, Res.post_bind, Res.post_rs, Res.post_nox, RS.post_fl, thn_ret, back_ret]
      exact ⟨⟨(M, M), by simp [jv, jb, one, zro], ⟨by simp; omega, by simp; omega, by simp; omega⟩, by simp; omega, by simp; omega⟩, hfin⟩
end G

end

section
set_option Elab.async false
set_option linter.all false
set_option maxRecDepth 100000
set_option exponentiation.threshold 10000
/-! K5b: drawn lists of jobs. -/
namespace G
open PySem
variable {T : Tbl} {w k : Nat} {S : Sto}
theorem rngOk_of {n : Nat} (h : n < 1000000) : rngOk (n : Int) = true := by
  unfold rngOk
  rw [Bool.and_eq_true, decide_eq_true_eq, decide_eq_true_eq]
  constructor <;> omega
theorem JobM.mono {M m m' : Int} {v : D} (hM : 0 < M) (h : JobM M m v) (l : m ≤ m') : JobM M m' v := by
  obtain ⟨x, e, p, l1, l2⟩ := h
  have := Int.mul_le_mul_of_nonneg_right l (Int.le_of_lt hM)
  exact ⟨x, e, p, by omega, by omega⟩
theorem jv_two {M0 : Int} (hM : 0 < M0) (x : IJ) : jv M0 x = jv (2 * M0) (2 * x.1, 2 * x.2) := by
  have e : ∀ a : Int, fr a M0 = fr (2 * a) (2 * M0) := fun a => fr_eq hM (by omega) (by ac_rfl)
  simp only [jv, jb]; rw [e, e x.2]
theorem JobM.two {M0 : Int} {v : D} (hM : 0 < M0) (h : JobM M0 9 v) : JobM (2 * M0) 14 v := by
  obtain ⟨x, e, p, l1, l2⟩ := h
  refine ⟨(2 * x.1, 2 * x.2), by rw [e, jv_two hM], ⟨?_, ?_, ?_⟩, ?_, ?_⟩
  · have := p.1; simp; omega
  · have := p.2.1; simp; omega
  · have := p.2.2; simp; omega
  · simp; omega
  · simp; omega
theorem Up.setnew {b n : Nat} {S S' : Sto} {o : MO} (h : Up b S S') (hn : S.length ≤ n) : Up b S (S'.set n o) := fun i x ne e => by
  have := (List.getElem?_eq_some_iff.mp e).1
  rw [List.getElem?_set_ne (by omega)]
  exact h i x ne e
theorem BoxOk.setne {S : Sto} {b c n : Nat} {o : MO} (h : BoxOk S b c) (ne : n ≠ b) : BoxOk (S.set n o) b c := by
  obtain ⟨a, f, m, n', h1, h2, h3⟩ := h
  exact ⟨a, f, m, n', by rw [List.getElem?_set_ne ne]; exact h1, h2, h3⟩
theorem BoxOk.lt {S : Sto} {b c : Nat} (h : BoxOk S b c) : b < S.length := by
  obtain ⟨_, _, _, _, g, _⟩ := h
  exact (List.getElem?_eq_some_iff.mp g).1
/-- numbers over M stay small -/
structure SmM (M : Int) : Prop where
  pos : 0 < M
  sm : S1 (14 * M)
theorem SmM.s1 {M : Int} (h : SmM M) : S1 M := Nat.lt_of_le_of_lt (by have := h.pos; omega) h.sm
theorem SmM.le {M a : Int} (h : SmM M) (a0 : 0 ≤ a) (l : a ≤ 14 * M) : S1 a := Nat.lt_of_le_of_lt (by omega) h.sm
/-- the base of all drawn amounts -/
structure MB (M0 : Int) : Prop where
  sm : SmM (2 * M0)
  q : ∃ q, M0 = 12 * q
  q1 : ∃ q, 2 * M0 = (10 ^ 38 + 7) * q
  q2 : ∃ q, 2 * M0 = (10 ^ 39 + 3) * q
theorem am_fr' {M : Int} (hM : 0 < M) {n d m : Int} (hq : ∃ q, M = d * q) (h0 : 0 ≤ n) (h1 : n ≤ m * d) (hd : 0 < d) : ∃ a, fr n d = fr a M ∧ 0 ≤ a ∧ a ≤ m * M ∧ (0 < n → 0 < a) := by
  obtain ⟨q, hq⟩ := hq
  have q0 : 0 < q := by
    by_cases h : 0 < q
    · exact h
    · have : d * q ≤ 0 := Int.mul_nonpos_of_nonneg_of_nonpos (Int.le_of_lt hd) (Int.not_lt.mp h)
      exfalso
      rw [← hq] at this
      exact absurd hM (Int.not_lt.mpr this)
  refine ⟨n * q, fr_eq hd hM (by rw [hq]; ac_rfl), Int.mul_nonneg h0 (Int.le_of_lt q0), ?_, fun hn => Int.mul_pos hn q0⟩
  have h2 : n * q ≤ m * d * q := Int.mul_le_mul_of_nonneg_right h1 (Int.le_of_lt q0)
  rw [hq, ← Int.mul_assoc]; exact h2
theorem jobs_post (h : TB T) (hw : Big w) {M0 : Int} (hB : MB M0) {b c many : Nat} (hb : BoxOk S b c) (hc : c + 1000 < 1000000000) (hm : many ≤ 30) {z : Int} (hz : z = many) {Q : D → Sto → Prop} (hQ : ∀ n l S', S.length ≤ n → S'[n]? = some (.lst l) → l.length = many → (∀ v ∈ l, JobM (2 * M0) 14 v) → BU b (c + 300) S S' → Q (.ref n) S') : (call T w (k + 5) "_law_jobs" [.ref b, .int z] S).post Q := by
  have hM0 : 0 < M0 := by have := hB.sm.pos; omega
  refine call_post' h.jobs [some (.ref b), some (.int z), none, none, none, none] rfl rfl ?_
  unfold c__law_jobs
  refine cons_post ?_
  unfold s__law_jobs_1
  rw [exS_asg, Res.post_rs]
  have rng : rngOk z = true := by rw [hz]; exact rngOk_of (by omega)
  refine lc_post (fun xs acc S' => xs.length + acc.length = many ∧ (∀ v ∈ acc, JobM M0 9 v) ∧ BU b (c + 7 * acc.length) S S') ⟨[], rngD 0 z⟩ S rfl ?_ ?_ ?_ ?_ ?_ ?_
  · exact evI_rng1 (by rfl) rng
  · refine ⟨by simp [rngD, hz], by simp, ⟨Up.refl b S, by simpa using hb⟩⟩
  · simp [rngD, hz]; omega
  · intro _ _ _ _; rfl
  · rintro x xs acc S' ⟨h1, h2, h3⟩
    refine ⟨_, rfl, ?_⟩
    simp at h1
    simp [exS_asg, exS_expr, exS_ret, exS_ife, evE, evT, evB, evEs, evAnd, evOr, evAny, evAll, evIfs, evO, Ev.of, startR, Res.of, truR, truD, asgT, asgTs, newT, newL, newR, ixD, ixL, atD, ixN', binD, cmpD, cmpO, biD, bi1, bi2, seqD, intD, negD, Res.post_ok, Res.post_bind, Res.post_rs, Res.post_nox, RS.post_fl, wipeR]
    refine (job_post h hw hM0 hB.q.choose_spec h3.box (by omega)).imp ?_
    rintro v S2 ⟨hj, hb2⟩
    refine ⟨by omega, ?_, ?_⟩
    · intro y hy
      rcases hy with hy | rfl
      · exact h2 y hy
      · exact hj
    · exact (h3.trans hb2).mono (by omega)
  rintro l S1 ⟨hl, hj, hb1⟩
  simp at hl
  generalize hn : List.length S1 = n
  have nb : n ≠ b := by have := hb1.box.lt; omega
  have nS : S.length ≤ n := by
    subst hn
    by_cases h0 : S.length = 0
    · omega
    · by_cases hbl : b = S.length - 1
      · have := hb1.box.lt; omega
      · have e : S[S.length - 1]? = some (S[S.length - 1]'(by omega)) := List.getElem?_eq_getElem (by omega)
        have := (List.getElem?_eq_some_iff.mp (hb1.up _ _ (fun h => hbl h.symm) e)).1
        omega
  have hb2 := (hb1.ext (Ext.app S1 [.lst l])).mono (d := c + 210) (by omega)
  have hg : (S1 ++ [MO.lst l])[n]? = some (.lst l) := by subst hn; exact getE
  clear hb1
  generalize S1 ++ [MO.lst l] = S2 at *
  clear hn
  simp [exS_asg, exS_expr, exS_ret, exS_ife, evE, evT, evB, evEs, evAnd, evOr, evAny, evAll, evIfs, evO, Ev.of, startR, Res.of, truR, truD, asgT, asgTs, newT, newL, newR, ixD, ixL, atD, ixN', binD, cmpD, cmpO, biD, bi1, bi2, seqD, intD, negD, Res.post_ok, Res.post_bind, Res.post_rs, Res.post_nox, RS.post_fl]
  have hMM := hB.sm
  have hMp := hMM.pos
  have jt : ∀ v, JobM M0 9 v → JobM (2 * M0) 14 v := fun v h => h.two hM0
  -- the last part, from any list
  have part2 : ∀ (l : List D) (S2 : Sto) (x3 x4 : Option D), l.length = many → (∀ v ∈ l, JobM (2 * M0) 14 v) → BU b (c + 220) S S2 → S2[n]? = some (.lst l) → (exB (PA T w (k + 4)) (.cons s__law_jobs_3 (.cons s__law_jobs_4 .nil)) [some (.ref b), some (.int z), some (.ref n), x3, x4, none] S2).post (back Q) := by
    intro l S2 x3 x4 hl hj hb2 hg
    have lt : n < S2.length := (List.getElem?_eq_some_iff.mp hg).1
    refine cons_post ?_
    unfold s__law_jobs_3
    simp [exS_asg, exS_expr, exS_ret, exS_ife, evE, evT, evB, evEs, evAnd, evOr, evAny, evAll, evIfs, evO, Ev.of, startR, Res.of, truR, truD, asgT, asgTs, newT, newL, newR, ixD, ixL, atD, ixN', binD, cmpD, cmpO, biD, bi1, bi2, seqD, intD, negD, Res.post_ok, Res.post_bind, Res.post_rs, Res.post_nox, RS.post_fl, eqD_int]
    by_cases m0 : many = 0
    · subst m0
      simp [exS_asg, exS_expr, exS_ret, exS_ife, evE, evT, evB, evEs, evAnd, evOr, evAny, evAll, evIfs, evO, Ev.of, startR, Res.of, truR, truD, asgT, asgTs, newT, newL, newR, ixD, ixL, atD, ixN', binD, cmpD, cmpO, biD, bi1, bi2, seqD, intD, negD, Res.post_ok, Res.post_bind, Res.post_rs, Res.post_nox, RS.post_fl, hz]
      refine nil_post (thn_next (cons_post ?_))
      unfold s__law_jobs_4
      simp [exS_asg, exS_expr, exS_ret, exS_ife, evE, evT, evB, evEs, evAnd, evOr, evAny, evAll, evIfs, evO, Ev.of, startR, Res.of, truR, truD, asgT, asgTs, newT, newL, newR, ixD, ixL, atD, ixN', binD, cmpD, cmpO, biD, bi1, bi2, seqD, intD, negD, Res.post_ok, Res.post_bind, Res.post_rs, Res.post_nox, RS.post_fl]
      exact hQ n l _ nS hg hl hj (hb2.mono (by omega))
    · have zp : (0 : Int) < z := by omega
      simp [exS_asg, exS_expr, exS_ret, exS_ife, evE, evT, evB, evEs, evAnd, evOr, evAny, evAll, evIfs, evO, Ev.of, startR, Res.of, truR, truD, asgT, asgTs, newT, newL, newR, ixD, ixL, atD, ixN', binD, cmpD, cmpO, biD, bi1, bi2, seqD, intD, negD, Res.post_ok, Res.post_bind, Res.post_rs, Res.post_nox, RS.post_fl, zp]
      refine (take_eq h.take hb2.box (by omega) (by decide) (by decide)).imp ?_
      rintro v S3 ⟨⟨d, rfl, d0, d6⟩, hb3⟩
      have hg3 : S3[n]? = some (.lst l) := hb3.up n _ nb hg
      have hb3 := hb2.trans hb3
      simp [exS_asg, exS_expr, exS_ret, exS_ife, evE, evT, evB, evEs, evAnd, evOr, evAny, evAll, evIfs, evO, Ev.of, startR, Res.of, truR, truD, asgT, asgTs, newT, newL, newR, ixD, ixL, atD, ixN', binD, cmpD, cmpO, biD, bi1, bi2, seqD, intD, negD, Res.post_ok, Res.post_bind, Res.post_rs, Res.post_nox, RS.post_fl, eqD_int]
      by_cases e0 : d = 0
      · subst e0
        simp [exS_asg, exS_expr, exS_ret, exS_ife, evE, evT, evB, evEs, evAnd, evOr, evAny, evAll, evIfs, evO, Ev.of, startR, Res.of, truR, truD, asgT, asgTs, newT, newL, newR, ixD, ixL, atD, ixN', binD, cmpD, cmpO, biD, bi1, bi2, seqD, intD, negD, Res.post_ok, Res.post_bind, Res.post_rs, Res.post_nox, RS.post_fl]
        refine cons_post ?_
        unfold s__law_jobs_3_1
        have pw1 : powOk 10 39 = true := by decide
        have pw2 : powOk 10 38 = true := by decide
        simp [exS_asg, exS_expr, exS_ret, exS_ife, evE, evT, evB, evEs, evAnd, evOr, evAny, evAll, evIfs, evO, Ev.of, startR, Res.of, truR, truD, asgT, asgTs, newT, newL, newR, ixD, ixL, atD, ixN', binD, cmpD, cmpO, biD, bi1, bi2, seqD, intD, negD, Res.post_ok, Res.post_bind, Res.post_rs, Res.post_nox, RS.post_fl, pw1, pw2]
        refine (take_eq h.take hb3.box (by omega) (by decide) (by decide)).imp ?_
        rintro v S4 ⟨⟨x, rfl, x0, x9⟩, hb4⟩
        have hg4 : S4[n]? = some (.lst l) := hb4.up n _ nb hg3
        have hb4 := hb3.trans hb4
        simp [exS_asg, exS_expr, exS_ret, exS_ife, evE, evT, evB, evEs, evAnd, evOr, evAny, evAll, evIfs, evO, Ev.of, startR, Res.of, truR, truD, asgT, asgTs, newT, newL, newR, ixD, ixL, atD, ixN', binD, cmpD, cmpO, biD, bi1, bi2, seqD, intD, negD, Res.post_ok, Res.post_bind, Res.post_rs, Res.post_nox, RS.post_fl, pw1, pw2]
        refine Res.post.of (lfraction_eq (T := T) (w := w) (S := S4) h.fraction h.part hw (p := 200) (by decide) (by decide) (by decide)) ?_
        (try simp [exS_asg, exS_expr, exS_ret, exS_ife, evE, evT, evB, evEs, evAnd, evOr, evAny, evAll, evIfs, evO, Ev.of, startR, Res.of, truR, truD, asgT, asgTs, newT, newL, newR, ixD, ixL, atD, ixN', binD, cmpD, cmpO, biD, bi1, bi2, seqD, intD, negD, Res.post_ok, Res.post_bind, Res.post_rs, Res.post_nox, RS.post_fl])
        refine (take_eq h.take hb4.box (by omega) (by decide) (by decide)).imp ?_
        rintro v S5 ⟨⟨y, rfl, y0, y9⟩, hb5⟩
        have hg5 : S5[n]? = some (.lst l) := hb5.up n _ nb hg4
        have hb5 := hb4.trans hb5
        simp [exS_asg, exS_expr, exS_ret, exS_ife, evE, evT, evB, evEs, evAnd, evOr, evAny, evAll, evIfs, evO, Ev.of, startR, Res.of, truR, truD, asgT, asgTs, newT, newL, newR, ixD, ixL, atD, ixN', binD, cmpD, cmpO, biD, bi1, bi2, seqD, intD, negD, Res.post_ok, Res.post_bind, Res.post_rs, Res.post_nox, RS.post_fl, pw1, pw2]
        refine Res.post.of (lfraction_eq (T := T) (w := w) (S := S5) h.fraction h.part hw (p := 200) (by decide) (by decide) (by decide)) ?_
        have lp : 0 < l.length := by omega
        have lt5 : n < S5.length := (List.getElem?_eq_some_iff.mp hg5).1
        obtain ⟨a1, e1, a10, a1m, _⟩ := am_fr' (m := 14) (n := 10 ^ 39 - x) (d := 10 ^ 38 + 7) hMp hB.q1 (by clear hb3 hb4 hb5; omega) (by clear hb3 hb4 hb5; omega) (by decide)
        obtain ⟨a2, e2, a20, a2m, a2p⟩ := am_fr' (m := 14) (n := 1 + y) (d := 10 ^ 39 + 3) hMp hB.q2 (by clear hb3 hb4 hb5; omega) (by clear hb3 hb4 hb5; omega) (by decide)
        simp [exS_asg, exS_expr, exS_ret, exS_ife, evE, evT, evB, evEs, evAnd, evOr, evAny, evAll, evIfs, evO, Ev.of, startR, Res.of, truR, truD, asgT, asgTs, newT, newL, newR, ixD, ixL, atD, ixN', binD, cmpD, cmpO, biD, bi1, bi2, seqD, intD, negD, Res.post_ok, Res.post_bind, Res.post_rs, Res.post_nox, RS.post_fl, setD, hg5, lp]
        refine thn_next (nil_post (thn_next (cons_post ?_)))
        unfold s__law_jobs_4
        simp [exS_asg, exS_expr, exS_ret, exS_ife, evE, evT, evB, evEs, evAnd, evOr, evAny, evAll, evIfs, evO, Ev.of, startR, Res.of, truR, truD, asgT, asgTs, newT, newL, newR, ixD, ixL, atD, ixN', binD, cmpD, cmpO, biD, bi1, bi2, seqD, intD, negD, Res.post_ok, Res.post_bind, Res.post_rs, Res.post_nox, RS.post_fl]
        refine hQ n (l.set 0 (jv (2 * M0) (a1, a2))) _ nS ?_ ?_ ?_ ?_
        · rw [List.getElem?_set_self lt5]
          simp only [jv, jb, ← e1, ← e2]
          rfl
        · simpa using hl
        · intro v hv
          rcases List.mem_or_eq_of_mem_set hv with hv | rfl
          · exact hj v hv
          · exact ⟨(a1, a2), rfl, ⟨a10, a20, by have := a2p (by omega); simp; omega⟩, a1m, a2m⟩
        · exact ⟨hb5.up.setnew nS, (hb5.box.setne nb).mono (by omega)⟩
      · simp [exS_asg, exS_expr, exS_ret, exS_ife, evE, evT, evB, evEs, evAnd, evOr, evAny, evAll, evIfs, evO, Ev.of, startR, Res.of, truR, truD, asgT, asgTs, newT, newL, newR, ixD, ixL, atD, ixN', binD, cmpD, cmpO, biD, bi1, bi2, seqD, intD, negD, Res.post_ok, Res.post_bind, Res.post_rs, Res.post_nox, RS.post_fl, e0]
        refine nil_post (thn_next (cons_post ?_))
        unfold s__law_jobs_4
        simp [exS_asg, exS_expr, exS_ret, exS_ife, evE, evT, evB, evEs, evAnd, evOr, evAny, evAll, evIfs, evO, Ev.of, startR, Res.of, truR, truD, asgT, asgTs, newT, newL, newR, ixD, ixL, atD, ixN', binD, cmpD, cmpO, biD, bi1, bi2, seqD, intD, negD, Res.post_ok, Res.post_bind, Res.post_rs, Res.post_nox, RS.post_fl]
        exact hQ n l _ nS hg3 hl hj (hb3.mono (by omega))
  refine thn_next (cons_post ?_)
  unfold s__law_jobs_2
  simp [exS_asg, exS_expr, exS_ret, exS_ife, evE, evT, evB, evEs, evAnd, evOr, evAny, evAll, evIfs, evO, Ev.of, startR, Res.of, truR, truD, asgT, asgTs, newT, newL, newR, ixD, ixL, atD, ixN', binD, cmpD, cmpO, biD, bi1, bi2, seqD, intD, negD, Res.post_ok, Res.post_bind, Res.post_rs, Res.post_nox, RS.post_fl, eqD_int]
  by_cases m1 : 1 < z
  · simp [exS_asg, exS_expr, exS_ret, exS_ife, evE, evT, evB, evEs, evAnd, evOr, evAny, evAll, evIfs, evO, Ev.of, startR, Res.of, truR, truD, asgT, asgTs, newT, newL, newR, ixD, ixL, atD, ixN', binD, cmpD, cmpO, biD, bi1, bi2, seqD, intD, negD, Res.post_ok, Res.post_bind, Res.post_rs, Res.post_nox, RS.post_fl, m1]
    refine (take_eq h.take hb2.box (by omega) (by decide) (by decide)).imp ?_
    rintro v S3 ⟨⟨d, rfl, d0, d6⟩, hb3⟩
    have hg3 : S3[n]? = some (.lst l) := hb3.up n _ nb hg
    have hb3 := hb2.trans hb3
    simp [exS_asg, exS_expr, exS_ret, exS_ife, evE, evT, evB, evEs, evAnd, evOr, evAny, evAll, evIfs, evO, Ev.of, startR, Res.of, truR, truD, asgT, asgTs, newT, newL, newR, ixD, ixL, atD, ixN', binD, cmpD, cmpO, biD, bi1, bi2, seqD, intD, negD, Res.post_ok, Res.post_bind, Res.post_rs, Res.post_nox, RS.post_fl, eqD_int]
    by_cases e0 : d = 0
    · subst e0
      simp [exS_asg, exS_expr, exS_ret, exS_ife, evE, evT, evB, evEs, evAnd, evOr, evAny, evAll, evIfs, evO, Ev.of, startR, Res.of, truR, truD, asgT, asgTs, newT, newL, newR, ixD, ixL, atD, ixN', binD, cmpD, cmpO, biD, bi1, bi2, seqD, intD, negD, Res.post_ok, Res.post_bind, Res.post_rs, Res.post_nox, RS.post_fl]
      refine cons_post ?_
      unfold s__law_jobs_2_1
      obtain ⟨v0, r0, rfl⟩ : ∃ v0 r0, l = v0 :: r0 := by
        cases l with
        | nil => simp at hl; omega
        | cons v0 r0 => exact ⟨v0, r0, rfl⟩
      obtain ⟨x, rfl, px, x1, x2⟩ := hj v0 (by simp)
      simp [exS_asg, exS_expr, exS_ret, exS_ife, evE, evT, evB, evEs, evAnd, evOr, evAny, evAll, evIfs, evO, Ev.of, startR, Res.of, truR, truD, asgT, asgTs, newT, newL, newR, ixD, ixL, atD, ixN', binD, cmpD, cmpO, biD, bi1, bi2, seqD, intD, negD, Res.post_ok, Res.post_bind, Res.post_rs, Res.post_nox, RS.post_fl, hg3, jv, jb]
      refine thn_next (cons_post ?_)
      unfold s__law_jobs_2_2
      have t32 : D.tup [.int 3, .int 2] = fr 3 2 := by simp [fr]; decide
      have sM0 : G.S1 M0 := Nat.lt_of_le_of_lt (by omega) hMM.s1
      have l14 : ∀ a : Int, 0 ≤ a → a ≤ 9 * M0 → G.S1 a := fun a a0 a9 => hMM.le a0 (by omega)
      have lt : ∀ a : Int, 0 ≤ a → a ≤ 9 * M0 → ∀ S, call T w (k + 4) "_law_times" [fr a M0, .tup [.int 3, .int 2]] S = .ok (fr (3 * a) (2 * M0)) S := by
        intro a a0 a9 S
        rw [t32, ltimes_eq h.toTL hw hM0 (by decide) (l14 a a0 a9).sm (by decide) sM0.sm (by decide), Int.mul_comm a 3, Int.mul_comm M0 2]
      have neg1 : ¬ (r0.length : Int) + 1 < 1 := by omega
      simp [exS_asg, exS_expr, exS_ret, exS_ife, evE, evT, evB, evEs, evAnd, evOr, evAny, evAll, evIfs, evO, Ev.of, startR, Res.of, truR, truD, asgT, asgTs, newT, newL, newR, ixD, ixL, atD, ixN', binD, cmpD, cmpO, biD, bi1, bi2, seqD, intD, negD, Res.post_ok, Res.post_bind, Res.post_rs, Res.post_nox, RS.post_fl, lt x.1 px.1 x1, lt x.2 px.2.1 x2, hg3, setD]
      have lt3 : n < S3.length := (List.getElem?_eq_some_iff.mp hg3).1
      have jX : JobM (2 * M0) 14 (D.tup [fr (3 * x.1) (2 * M0), fr (3 * x.2) (2 * M0)]) := by
        refine ⟨(3 * x.1, 3 * x.2), rfl, ⟨?_, ?_, ?_⟩, ?_, ?_⟩
        · have := px.1; simp; omega
        · have := px.2.1; simp; omega
        · have := px.2.2; simp; omega
        · simp; omega
        · simp; omega
      generalize hX : D.tup [fr (3 * x.1) (2 * M0), fr (3 * x.2) (2 * M0)] = X at *
      have ti : ((-1 : Int) + ((r0.length : Int) + 1)).toNat = r0.length := by omega
      have jall : ∀ v ∈ ((jv M0 x :: r0).set r0.length X), JobM (2 * M0) 14 v := by
        intro v hv
        rcases List.mem_or_eq_of_mem_set hv with hv | rfl
        · exact jt v (hj v hv)
        · exact jX
      have le1 : (1 : Int) ≤ (r0.length : Int) + 1 := by omega
      have llen : ((jv M0 x :: r0).set r0.length X).length = many := by simpa using hl
      rw [if_pos le1, ti]
      generalize (jv M0 x :: r0).set r0.length X = l1 at *
      simp [exS_asg, exS_expr, exS_ret, exS_ife, evE, evT, evB, evEs, evAnd, evOr, evAny, evAll, evIfs, evO, Ev.of, startR, Res.of, truR, truD, asgT, asgTs, newT, newL, newR, ixD, ixL, atD, ixN', binD, cmpD, cmpO, biD, bi1, bi2, seqD, intD, negD, Res.post_ok, Res.post_bind, Res.post_rs, Res.post_nox, RS.post_fl]
      refine thn_next (cons_post ?_)
      unfold s__law_jobs_2_3
      have hg4 : (S3.set n (MO.lst l1))[n]? = some (.lst l1) := by rw [List.getElem?_set_self lt3]
      have hb4 : BU b (c + 211) S (S3.set n (MO.lst l1)) := ⟨hb3.up.setnew nS, (hb3.box.setne nb).mono (by omega)⟩
      generalize S3.set n (MO.lst l1) = S4 at *
      have lp : 0 < l1.length := by omega
      have e0 : l1[0]? = some (l1[0]) := by simp
      generalize hv1 : l1[0] = v1 at e0
      simp [exS_asg, exS_expr, exS_ret, exS_ife, evE, evT, evB, evEs, evAnd, evOr, evAny, evAll, evIfs, evO, Ev.of, startR, Res.of, truR, truD, asgT, asgTs, newT, newL, newR, ixD, ixL, atD, ixN', binD, cmpD, cmpO, biD, bi1, bi2, seqD, intD, negD, Res.post_ok, Res.post_bind, Res.post_rs, Res.post_nox, RS.post_fl, hg4, lp, e0]
      refine (take_eq h.take hb4.box (by omega) (by omega) (by omega)).imp ?_
      rintro v S5 ⟨⟨d, rfl, d0, d6⟩, hb5⟩
      have hg5 : S5[n]? = some (.lst l1) := hb5.up n _ nb hg4
      have lt5 : n < S5.length := (List.getElem?_eq_some_iff.mp hg5).1
      have hb5 := hb4.trans hb5
      have dl : d < l1.length := by omega
      simp [exS_asg, exS_expr, exS_ret, exS_ife, evE, evT, evB, evEs, evAnd, evOr, evAny, evAll, evIfs, evO, Ev.of, startR, Res.of, truR, truD, asgT, asgTs, newT, newL, newR, ixD, ixL, atD, ixN', binD, cmpD, cmpO, biD, bi1, bi2, seqD, intD, negD, Res.post_ok, Res.post_bind, Res.post_rs, Res.post_nox, RS.post_fl, setD, hg5, d0, dl]
      refine thn_next (nil_post (thn_next (part2 (l1.set d.toNat v1) _ _ _ (by simpa using llen) ?_ ⟨hb5.up.setnew nS, (hb5.box.setne nb).mono (by omega)⟩ (by rw [List.getElem?_set_self lt5, hv1]))))
      intro v hv
      rcases List.mem_or_eq_of_mem_set hv with hv | rfl
      · exact jall v hv
      · exact jall _ (List.mem_of_getElem? e0)
    · simp [exS_asg, exS_expr, exS_ret, exS_ife, evE, evT, evB, evEs, evAnd, evOr, evAny, evAll, evIfs, evO, Ev.of, startR, Res.of, truR, truD, asgT, asgTs, newT, newL, newR, ixD, ixL, atD, ixN', binD, cmpD, cmpO, biD, bi1, bi2, seqD, intD, negD, Res.post_ok, Res.post_bind, Res.post_rs, Res.post_nox, RS.post_fl, e0]
      exact nil_post (thn_next (part2 l S3 none none (by omega) (fun v hv => jt v (hj v hv)) (hb3.mono (by omega)) hg3))
  · simp [exS_asg, exS_expr, exS_ret, exS_ife, evE, evT, evB, evEs, evAnd, evOr, evAny, evAll, evIfs, evO, Ev.of, startR, Res.of, truR, truD, asgT, asgTs, newT, newL, newR, ixD, ixL, atD, ixN', binD, cmpD, cmpO, biD, bi1, bi2, seqD, intD, negD, Res.post_ok, Res.post_bind, Res.post_rs, Res.post_nox, RS.post_fl, m1]
    exact nil_post (thn_next (part2 l S2 none none (by omega) (fun v hv => jt v (hj v hv)) (hb2.mono (by omega)) hg))
end G

end

section
set_option Elab.async false
set_option linter.all false
set_option maxRecDepth 100000
set_option exponentiation.threshold 10000
/-! K6: the wait by quotients. -/
namespace G
open PySem
variable {T : Tbl} {w k : Nat} {S : Sto}
theorem newL_post {xs : List D} {Q : D → Sto → Prop} (hl : xs.length ≤ 16000000) (h : ∀ (n : Nat) (S' : Sto), S.length ≤ n → S'[n]? = some (.lst xs) → Ext S S' → Q (.ref n) S') : (Res.of (newL xs S)).post Q := by
  unfold newL
  rw [if_pos hl]
  exact Res.post.of rfl (h S.length (S ++ [.lst xs]) (Nat.le_refl _) getE (Ext.app _ _))
theorem newL_get {xs : List D} (hl : xs.length ≤ 16000000) : ∃ (n : Nat) (S' : Sto), newL xs S = some (.ref n, S') ∧ S.length ≤ n ∧ S'[n]? = some (.lst xs) ∧ Ext S S' := by
  unfold newL
  rw [if_pos hl]
  exact ⟨S.length, S ++ [.lst xs], rfl, Nat.le_refl _, getE, Ext.app _ _⟩
theorem ok_seq {j : Nat} {xs ys : List D} (h : S[j]? = some (.lst xs)) : (It.mk [.seq j xs] ys).ok S = true := by
  simp [It.ok, Chk.ok, lstAt, h, D.beqs_refl]
theorem ok_nil {ys : List D} : (It.mk [] ys).ok S = true := rfl
theorem seqIt_lst {j : Nat} {xs : List D} (h : S[j]? = some (.lst xs)) : seqIt S (.ref j) = some ⟨[.seq j xs], xs⟩ := by
  simp [seqIt, h]
theorem cut_to {α : Type} {xs : List α} {n : Nat} (h : n ≤ xs.length) : cutD xs none (some (n : Int)) = xs.take n := by
  have : ¬ ((n : Int) < 0) := by omega
  simp [cutD, sIx', this, Nat.min_eq_left h]
theorem cut_from {α : Type} {xs : List α} {n : Nat} (h : n ≤ xs.length) : cutD xs (some (n : Int)) none = xs.drop n := by
  have : ¬ ((n : Int) < 0) := by omega
  simp [cutD, sIx', this, Nat.min_eq_left h]
  rw [List.take_of_length_le (by simp)]
theorem natAbs_le {a b : Int} (h0 : 0 ≤ a) (h : a ≤ b) : a.natAbs ≤ b.natAbs := by omega
theorem sm_many {e K : Int} {c : Nat} (h0 : 0 ≤ e) (h : e ≤ c * K) (hc : c < 1000000) (hK : S1 K) : e.natAbs < 2 ^ 1100 := by
  have h1 : ((c : Int) * K).natAbs < 2 ^ (20 + 1000) := mul_lt (p := 20) (by simp; omega) hK
  exact Nat.lt_of_le_of_lt (natAbs_le h0 h) (Nat.lt_of_lt_of_le h1 (Nat.pow_le_pow_right (by decide) (by decide)))
theorem sm_many2 {e K : Int} {c : Nat} (h0 : 0 ≤ e) (h : e ≤ c * (K * K)) (hc : c < 1000000) (hK : S1 K) : e.natAbs < 2 ^ 2100 := by
  have h1 : ((c : Int) * (K * K)).natAbs < 2 ^ (20 + (1000 + 1000)) := mul_lt (p := 20) (by simp; omega) (mul_lt hK hK)
  exact Nat.lt_of_le_of_lt (natAbs_le h0 h) (Nat.lt_of_lt_of_le h1 (Nat.pow_le_pow_right (by decide) (by decide)))
theorem sm_pow {e : Int} {p : Nat} (h : e.natAbs < 2 ^ p) (hp : p ≤ 4000) : Sm e := Nat.lt_of_lt_of_le h (Nat.pow_le_pow_right (by decide) hp)
/-- a job with bounded numbers -/
structure okJob (M : Int) (x : IJ) : Prop where
  p : pos x
  l1 : x.1 ≤ 14 * M
  l2 : x.2 ≤ 14 * M
theorem okJob.s1 {M : Int} {x : IJ} (hM : SmM M) (h : okJob M x) : S1 x.1 := hM.le h.p.1 h.l1
theorem okJob.s2 {M : Int} {x : IJ} (hM : SmM M) (h : okJob M x) : S1 x.2 := hM.le h.p.2.1 h.l2
structure TQ (T : Tbl) : Prop extends TL T where
  by_quotients : T.defs "_law_by_quotients" = some c__law_by_quotients
theorem plc_step {x r : IJ} {row : List IJ} {at' : Nat} (h : row[at']? = some r) (hp : plc x (row.drop at') + at' = plc x row) : if r.2 * x.1 < x.2 * r.1 then at' = plc x row else plc x (row.drop (at' + 1)) + (at' + 1) = plc x row := by
  have e : row.drop at' = r :: row.drop (at' + 1) := by
    obtain ⟨hl, e⟩ := List.getElem?_eq_some_iff.mp h
    rw [List.drop_eq_getElem_cons hl, e]
  rw [e] at hp
  simp only [plc] at hp
  split <;> simp_all <;> omega
theorem by_quotients_post (h : TQ T) (hw : Big w) (hw2 : 1000 < w) {M : Int} (hM : SmM M) {j : Nat} {L : List IJ} (hj : S[j]? = some (.lst (L.map (jv M)))) (hL : ∀ x ∈ L, okJob M x) (hl : L.length ≤ 100) {Q : D → Sto → Prop} (hQ : ∀ S', Ext S S' → Q (fr (PW L) (M * M)) S') : (call T w (k + 4) "_law_by_quotients" [.ref j] S).post Q := by
  have hMp := hM.pos
  refine call_post' h.by_quotients [some (.ref j), none, none, none, none, none, none] rfl rfl ?_
  unfold c__law_by_quotients
  refine cons_post ?_
  unfold s__law_by_quotients_1
  simp [exS_asg, exS_expr, exS_ret, exS_ife, evE, evT, evB, evEs, evAnd, evOr, evAny, evAll, evIfs, evO, Ev.of, startR, Res.of_some, truR, truD, asgT, asgTs, newT, ixD, ixL, atD, ixN', binD, cmpD, cmpO, biD, bi1, bi2, seqD, intD, negD, Res.post_ok, Res.post_bind, Res.post_rs, Res.post_nox, RS.post_fl]
  refine newL_post (by simp) fun n0 S0 l0 g0 e0 => ?_
  refine thn_next (cons_post ?_)
  unfold s__law_by_quotients_2
  refine for_cps (fun xs ρ S' => ∃ rest row n x2 x3 x4, xs = rest.map (jv M) ∧ insAll rest row = insAll L [] ∧ ρ = [some (.ref j), some (.ref n), x2, x3, x4, none, none] ∧ S'[n]? = some (.lst (row.map (jv M))) ∧ Ext S S' ∧ (∀ y ∈ row, okJob M y) ∧ (∀ y ∈ rest, okJob M y) ∧ row.length + rest.length = L.length) ⟨[.seq j (L.map (jv M))], L.map (jv M)⟩ S0 (evI_seq (by rfl) (seqIt_lst (e0 _ _ hj))) ⟨L, [], n0, none, none, none, rfl, rfl, rfl, by simpa using g0, e0, by simp, hL, by simp⟩ ?_ ?_ ?_
  · rintro xs ρ S' ⟨rest, row, n, x2, x3, x4, _, _, _, _, e, _⟩
    exact ok_seq (e _ _ hj)
  · rintro v xs ρ S' ⟨rest, row, n, x2, x3, x4, e1, e2', rfl, g, e, hr, hs, hlen⟩
    obtain ⟨x, rest', rfl, rfl, rfl⟩ : ∃ x rest', rest = x :: rest' ∧ v = jv M x ∧ xs = rest'.map (jv M) := by
      cases rest with
      | nil => simp at e1
      | cons x rest' => simp at e1; exact ⟨x, rest', rfl, e1.1, e1.2⟩
    have ox := hs x (by simp)
    refine ⟨[some (.ref j), some (.ref n), some (fr x.1 M), some (fr x.2 M), x4, none, none], by rfl, fun Q' hQ' => ?_⟩
    refine cons_post ?_
    unfold s__law_by_quotients_2_1
    simp [exS_asg, exS_expr, exS_ret, exS_ife, evE, evT, evB, evEs, evAnd, evOr, evAny, evAll, evIfs, evO, Ev.of, startR, Res.of_some, truR, truD, asgT, asgTs, newT, ixD, ixL, atD, ixN', binD, cmpD, cmpO, biD, bi1, bi2, seqD, intD, negD, Res.post_ok, Res.post_bind, Res.post_rs, Res.post_nox, RS.post_fl]
    refine thn_next (cons_post ?_)
    unfold s__law_by_quotients_2_2
    refine whl_cps (P := PA T w (k + 3)) (fun m ρ S2 => ∃ at' : Nat, ρ = [some (.ref j), some (.ref n), some (fr x.1 M), some (fr x.2 M), some (.int at'), none, none] ∧ S2 = S' ∧ at' ≤ row.length ∧ plc x (row.drop at') + at' = plc x row ∧ m = row.length - at') row.length (by simp at hlen; show row.length < w; omega) ⟨0, rfl, rfl, by omega, by simp, by omega⟩ ?_
    -- behind the while
    have fin : ∀ at' : Nat, at' = plc x row → thn (PA T w (k + 3)) (CB.cons s__law_by_quotients_2_3 CB.nil) Q' Fl.next [some (.ref j), some (.ref n), some (fr x.1 M), some (fr x.2 M), some (.int at'), none, none] S' := by
      rintro _ rfl
      have hle : plc x row ≤ row.length := plc_le x row
      simp only [List.length_cons] at hlen
      refine thn_next (cons_post ?_)
      unfold s__law_by_quotients_2_3
      simp [exS_asg, exS_expr, exS_ret, exS_ife, evE, evT, evB, evEs, evAnd, evOr, evAny, evAll, evIfs, evO, Ev.of, startR, Res.of_some, truR, truD, asgT, asgTs, newT, ixD, ixL, atD, ixN', binD, cmpD, cmpO, biD, bi1, bi2, seqD, intD, negD, Res.post_ok, Res.post_bind, Res.post_rs, Res.post_nox, RS.post_fl, slD, g, lstAt, cut_to, cut_from, hle]
      refine newL_post (by simp; omega) fun n1 S1 l1 g1 e1 => ?_
      (try simp [exS_asg, exS_expr, exS_ret, exS_ife, evE, evT, evB, evEs, evAnd, evOr, evAny, evAll, evIfs, evO, Ev.of, startR, Res.of_some, truR, truD, asgT, asgTs, newT, ixD, ixL, atD, ixN', binD, cmpD, cmpO, biD, bi1, bi2, seqD, intD, negD, Res.post_ok, Res.post_bind, Res.post_rs, Res.post_nox, RS.post_fl])
      refine newL_post (by simp) fun n2 S2 l2 g2 e2 => ?_
      have g1 := e2 _ _ g1
      simp [exS_asg, exS_expr, exS_ret, exS_ife, evE, evT, evB, evEs, evAnd, evOr, evAny, evAll, evIfs, evO, Ev.of, startR, Res.of_some, truR, truD, asgT, asgTs, newT, ixD, ixL, atD, ixN', binD, cmpD, cmpO, biD, bi1, bi2, seqD, intD, negD, Res.post_ok, Res.post_bind, Res.post_rs, Res.post_nox, RS.post_fl, g1, g2, lstAt]
      refine newL_post (by simp; omega) fun n3 S3 l3 g3 e3 => ?_
      have g' := e3 _ _ (e2 _ _ (e1 _ _ g))
      simp [exS_asg, exS_expr, exS_ret, exS_ife, evE, evT, evB, evEs, evAnd, evOr, evAny, evAll, evIfs, evO, Ev.of, startR, Res.of_some, truR, truD, asgT, asgTs, newT, ixD, ixL, atD, ixN', binD, cmpD, cmpO, biD, bi1, bi2, seqD, intD, negD, Res.post_ok, Res.post_bind, Res.post_rs, Res.post_nox, RS.post_fl, slD, g', lstAt, cut_from, hle]
      refine newL_post (by simp; omega) fun n4 S4 l4 g4 e4 => ?_
      have g3 := e4 _ _ g3
      simp [exS_asg, exS_expr, exS_ret, exS_ife, evE, evT, evB, evEs, evAnd, evOr, evAny, evAll, evIfs, evO, Ev.of, startR, Res.of_some, truR, truD, asgT, asgTs, newT, ixD, ixL, atD, ixN', binD, cmpD, cmpO, biD, bi1, bi2, seqD, intD, negD, Res.post_ok, Res.post_bind, Res.post_rs, Res.post_nox, RS.post_fl, g3, g4, lstAt]
      refine newL_post (by simp; omega) fun n5 S5 l5 g5 e5 => ?_
      refine thn_next (nil_post (hQ' _ _ ⟨rest', ins x row, n5, _, _, _, rfl, e2', rfl, ?_, ?_, ?_, fun y hy => hs y (by simp [hy]), ?_⟩))
      · rw [g5]; simp [ins, jv]; rfl
      · exact ((((e.trans e1).trans e2).trans e3).trans e4).trans e5
      · intro y hy
        rcases ins_mem hy with rfl | hy
        · exact ox
        · exact hr y hy
      · have := (ins_perm x row).length_eq
        simp at this
        omega
    rintro m ρ S2 ⟨at', rfl, rfl, hle, hp, rfl⟩
    by_cases hat : at' < row.length
    · obtain ⟨r, er⟩ : ∃ r, row[at']? = some r := ⟨row[at'], by simp [hat]⟩
      have or : okJob M r := hr r (List.mem_of_getElem? er)
      have er2 : row[at'] = r := by simpa [hat] using er
      have st := plc_step er hp
      have c1 := ltimes_eq (T := T) (w := w) (k := k) (S := S2) h.toTL hw hMp hMp (or.s2 hM).sm (ox.s1 hM).sm hM.s1.sm hM.s1.sm
      have c2 := ltimes_eq (T := T) (w := w) (k := k) (S := S2) h.toTL hw hMp hMp (ox.s2 hM).sm (or.s1 hM).sm hM.s1.sm hM.s1.sm
      have c3 := lless_fr (T := T) (w := w) (k := k + 2) (S := S2) h.toTL (Int.mul_pos hMp hMp) ((or.s2 hM).mul (ox.s1 hM)) ((ox.s2 hM).mul (or.s1 hM)) (hM.s1.mul hM.s1)
      refine ⟨decide (x.2 * r.1 ≤ r.2 * x.1), S2, ?_, ?_, ?_⟩
      · simp [runD, exB, exS, evE, evT, evB, evEs, evAnd, evOr, evAny, evAll, evIfs, evO, Ev.of, startR, Res.of, truR, truD, asgT, asgTs, newT, newL, newR, ixD, ixL, atD, ixN', binD, cmpD, cmpO, biD, bi1, bi2, seqD, intD, Res.bind, Res.rs, RS.seq, Res.nox, g, lenD, hat, er2, jv, jb, c1, c2, c3]
        by_cases q : x.2 * r.1 ≤ r.2 * x.1 <;> simp [q]
      · intro hb Q2 hQ2
        have hlt : ¬ (r.2 * x.1 < x.2 * r.1) := by simp at hb; omega
        rw [if_neg hlt] at st
        refine cons_post ?_
        unfold s__law_by_quotients_2_2_1
        simp [exS_asg, exS_expr, exS_ret, exS_ife, evE, evT, evB, evEs, evAnd, evOr, evAny, evAll, evIfs, evO, Ev.of, startR, Res.of_some, truR, truD, asgT, asgTs, newT, ixD, ixL, atD, ixN', binD, cmpD, cmpO, biD, bi1, bi2, seqD, intD, negD, Res.post_ok, Res.post_bind, Res.post_rs, Res.post_nox, RS.post_fl]
        exact thn_next (nil_post (hQ2 (row.length - (at' + 1)) _ _ (by omega) ⟨at' + 1, by simp, rfl, by omega, by omega, rfl⟩))
      · intro hb
        have hlt : r.2 * x.1 < x.2 * r.1 := by simp at hb; omega
        rw [if_pos hlt] at st
        exact fin _ st
    · have : at' = row.length := by omega
      subst this
      refine ⟨false, S2, ?_, fun h => by simp at h, fun _ => fin _ ?_⟩
      · simp [runD, exB, exS, evE, evT, evB, evEs, evAnd, evOr, evAny, evAll, evIfs, evO, Ev.of, startR, Res.of, truR, truD, asgT, asgTs, newT, newL, newR, ixD, ixL, atD, ixN', binD, cmpD, cmpO, biD, bi1, bi2, seqD, intD, Res.bind, Res.rs, RS.seq, Res.nox, g, lenD]
      · simp [plc] at hp; omega
  rintro ρ S1 ⟨rest, row, n, x2, x3, x4, e1, e2, rfl, g, e, hr, hs, hlen⟩
  have : rest = [] := by simpa using e1.symm
  subst this
  simp only [insAll] at e2
  simp at hlen
  refine thn_next (cons_post ?_)
  unfold s__law_by_quotients_3
  simp [exS_asg, exS_expr, exS_ret, exS_ife, evE, evT, evB, evEs, evAnd, evOr, evAny, evAll, evIfs, evO, Ev.of, startR, Res.of_some, truR, truD, asgT, asgTs, newT, ixD, ixL, atD, ixN', binD, cmpD, cmpO, biD, bi1, bi2, seqD, intD, negD, Res.post_ok, Res.post_bind, Res.post_rs, Res.post_nox, RS.post_fl]
  refine thn_next (cons_post ?_)
  unfold s__law_by_quotients_4
  have hK : G.S1 (14 * M) := hM.sm
  have okr : ∀ y ∈ row, okJob M y := hr
  refine for_cps (fun xs ρ S' => ∃ (rest : List IJ) (d : Nat) (en to : Int), xs = rest.map (jv M) ∧ d + rest.length = row.length ∧ (∀ y ∈ rest, okJob M y) ∧ (∃ x2 x3 x4, ρ = [some (.ref j), some (.ref n), x2, x3, x4, some (fr en M), some (fr to (M * M))]) ∧ S' = S1 ∧ to + CW en rest = CW 0 row ∧ 0 ≤ en ∧ en ≤ d * (14 * M) ∧ 0 ≤ to ∧ to ≤ ((d * 100 : Nat) : Int) * ((14 * M) * (14 * M))) ⟨[.seq n (row.map (jv M))], row.map (jv M)⟩ S1 (evI_seq (by rfl) (seqIt_lst g)) ⟨row, 0, 0, 0, rfl, by omega, okr, ⟨_, _, _, by rw [← fr_zero hMp, ← fr_zero (Int.mul_pos hMp hMp)]⟩, rfl, by omega, by omega, by omega, by omega, by simp⟩ ?_ ?_ ?_
  · rintro xs ρ S' ⟨_, _, _, _, _, _, _, _, rfl, _⟩
    exact ok_seq g
  · rintro v xs ρ S' ⟨rest, d, en, to, e1, hd, hk, ⟨x2, x3, x4, rfl⟩, rfl, hc, en0, en1, to0, to1⟩
    obtain ⟨x, rest', rfl, rfl, rfl⟩ : ∃ x rest', rest = x :: rest' ∧ v = jv M x ∧ xs = rest'.map (jv M) := by
      cases rest with
      | nil => simp at e1
      | cons x rest' => simp at e1; exact ⟨x, rest', rfl, e1.1, e1.2⟩
    simp only [List.length_cons] at hd
    have ox := hk x (by simp)
    have hMM := Int.mul_pos hMp hMp
    have sMM : Sm (M * M) := hM.s1.mul hM.s1
    have se : Sm en := sm_pow (sm_many en0 en1 (by omega) hK) (by decide)
    have en1' : en + x.1 ≤ ((d + 1 : Nat) : Int) * (14 * M) := by
      have := ox.l1
      rw [Int.natCast_add, Int.add_mul]; simp; omega
    have en0' : 0 ≤ en + x.1 := by have := ox.p.1; omega
    have se'' := sm_many en0' en1' (by omega) hK
    have se' : Sm (en + x.1) := sm_pow se'' (by decide)
    have st : Sm to := sm_pow (sm_many2 to0 to1 (by omega) hK) (by decide)
    have sp'' : ((en + x.1) * x.2).natAbs < 2 ^ (1100 + 1000) := mul_lt se'' (ox.s2 hM)
    have sp : Sm ((en + x.1) * x.2) := sm_pow sp'' (by decide)
    have c1 := ladd_eq (T := T) (w := w) (k := k) (S := S') h.toTL hw hMp hMp se (ox.s1 hM).sm hM.s1.sm hM.s1.sm
    rw [fr_sum hMp] at c1
    have c2 := ltimes_eq (T := T) (w := w) (k := k) (S := S') h.toTL hw hMp hMp se' (ox.s2 hM).sm hM.s1.sm hM.s1.sm
    have c3 := ladd_eq (T := T) (w := w) (k := k) (S := S') h.toTL hw hMM hMM st sp sMM sMM
    rw [fr_sum hMM] at c3
    refine ⟨[some (.ref j), some (.ref n), some (fr x.1 M), some (fr x.2 M), x4, some (fr en M), some (fr to (M * M))], by rfl, fun Q' hQ' => ?_⟩
    refine cons_post ?_
    unfold s__law_by_quotients_4_1
    simp [exS_asg, exS_expr, exS_ret, exS_ife, evE, evT, evB, evEs, evAnd, evOr, evAny, evAll, evIfs, evO, Ev.of, startR, Res.of_some, truR, truD, asgT, asgTs, newT, ixD, ixL, atD, ixN', binD, cmpD, cmpO, biD, bi1, bi2, seqD, intD, negD, Res.post_ok, Res.post_bind, Res.post_rs, Res.post_nox, RS.post_fl, c1]
    refine thn_next (cons_post ?_)
    unfold s__law_by_quotients_4_2
    simp [exS_asg, exS_expr, exS_ret, exS_ife, evE, evT, evB, evEs, evAnd, evOr, evAny, evAll, evIfs, evO, Ev.of, startR, Res.of_some, truR, truD, asgT, asgTs, newT, ixD, ixL, atD, ixN', binD, cmpD, cmpO, biD, bi1, bi2, seqD, intD, negD, Res.post_ok, Res.post_bind, Res.post_rs, Res.post_nox, RS.post_fl, c2, c3]
    refine thn_next (nil_post (hQ' _ _ ⟨rest', d + 1, en + x.1, to + (en + x.1) * x.2, rfl, by omega, fun y hy => hk y (by simp [hy]), ⟨_, _, _, rfl⟩, rfl, ?_, en0', en1', ?_, ?_⟩))
    · simp only [CW] at hc; omega
    · exact Int.add_nonneg to0 (Int.mul_nonneg en0' ox.p.2.1)
    · have a1 : (en + x.1) * x.2 ≤ (((d + 1 : Nat) : Int) * (14 * M)) * (14 * M) := Int.mul_le_mul en1' ox.l2 ox.p.2.1 (Int.le_trans en0' en1')
      have a2 : (((d + 1 : Nat) : Int) * (14 * M)) * (14 * M) = ((d + 1 : Nat) : Int) * ((14 * M) * (14 * M)) := by rw [Int.mul_assoc]
      have a3 : ((d + 1 : Nat) : Int) * ((14 * M) * (14 * M)) ≤ 100 * ((14 * M) * (14 * M)) := Int.mul_le_mul_of_nonneg_right (by omega) (Int.mul_nonneg (by omega) (by omega))
      generalize (14 * M) * (14 * M) = KK at *
      have a4 : (((d + 1) * 100 : Nat) : Int) * KK = ((d * 100 : Nat) : Int) * KK + 100 * KK := by
        rw [← Int.add_mul]; congr 1; omega
      omega
  rintro ρ S' ⟨rest, d, en, to, e1, hd, hk, ⟨x2, x3, x4, rfl⟩, rfl, hc, en0, en1, to0, to1⟩
  have : rest = [] := by simpa using e1.symm
  subst this
  refine thn_next (cons_post ?_)
  unfold s__law_by_quotients_5
  simp [exS_asg, exS_expr, exS_ret, exS_ife, evE, evT, evB, evEs, evAnd, evOr, evAny, evAll, evIfs, evO, Ev.of, startR, Res.of_some, truR, truD, asgT, asgTs, newT, ixD, ixL, atD, ixN', binD, cmpD, cmpO, biD, bi1, bi2, seqD, intD, negD, Res.post_ok, Res.post_bind, Res.post_rs, Res.post_nox, RS.post_fl]
  have : to = PW L := by
    simp only [CW] at hc
    rw [e2, smith fun y hy => (hL y hy).p] at hc
    omega
  rw [this]
  exact hQ _ e
end G

end

section
set_option Elab.async false
set_option linter.all false
set_option maxRecDepth 100000
set_option exponentiation.threshold 10000
/-! K7: the law's jobs as whole numbers. -/
namespace G
open PySem
variable {T : Tbl} {w k : Nat} {S : Sto}
def num (a M : Int) : Int := a / (Int.gcd a M : Int)
def den (a M : Int) : Int := M / (Int.gcd a M : Int)
theorem fr_nd (a M : Int) : fr a M = .tup [.int (num a M), .int (den a M)] := rfl
theorem den_pos {a M : Int} (h : 0 < M) : 0 < den a M := by
  obtain ⟨n', d', e, p, _⟩ := fr_get a h
  rw [fr_nd] at e
  simp at e
  omega
theorem den_mul (a M : Int) : den a M * (Int.gcd a M : Int) = M := Int.ediv_mul_cancel (Int.gcd_dvd_right ..)
theorem num_mul (a M : Int) : num a M * (Int.gcd a M : Int) = a := Int.ediv_mul_cancel (Int.gcd_dvd_left ..)
theorem den_dvd (a M : Int) : den a M ∣ M := ⟨_, (den_mul a M).symm⟩
/-- base * d // part -/
theorem lcm_step {b d M : Int} (hb : 0 < b) (hd : 0 < d) (bM : b ∣ M) (dM : d ∣ M) : ∃ r : Int, Int.fdiv (b * d) (Int.gcd b d : Int) = r ∧ 0 < r ∧ r ∣ M ∧ b ∣ r ∧ d ∣ r := by
  obtain ⟨m, rfl⟩ : ∃ m : Nat, b = m := ⟨b.toNat, by omega⟩
  obtain ⟨n, rfl⟩ : ∃ n : Nat, d = n := ⟨d.toNat, by omega⟩
  refine ⟨(Nat.lcm m n : Nat), ?_, ?_, ?_, ?_, ?_⟩
  · rw [Int.fdiv_eq_ediv_of_nonneg _ (by omega)]
    show ((m : Int) * n) / ((Nat.gcd m n : Nat) : Int) = _
    rw [← Int.natCast_mul, ← Int.natCast_ediv]; rfl
  · have := Nat.lcm_pos (m := m) (n := n) (by omega) (by omega)
    omega
  · have h1 : m ∣ M.natAbs := Int.ofNat_dvd_left.mp bM
    have h2 : n ∣ M.natAbs := Int.ofNat_dvd_left.mp dM
    exact Int.ofNat_dvd_left.mpr (Nat.lcm_dvd h1 h2)
  · exact Int.natCast_dvd_natCast.mpr (Nat.dvd_lcm_left m n)
  · exact Int.natCast_dvd_natCast.mpr (Nat.dvd_lcm_right m n)
/-- a whole number of the jobs -/
theorem whole_num {a M b : Int} (hM : 0 < M) (hb : den a M ∣ b) : ∃ X : Int, Int.fdiv (num a M * b) (den a M) = X ∧ X * M = a * b := by
  obtain ⟨t, rfl⟩ := hb
  have dp := den_pos (a := a) hM
  refine ⟨num a M * t, ?_, ?_⟩
  · rw [Int.fdiv_eq_ediv_of_nonneg _ (by omega)]
    have : num a M * (den a M * t) = den a M * (num a M * t) := by ac_rfl
    rw [this, Int.mul_ediv_cancel_left _ (by omega)]
  · have h1 := den_mul a M
    have h2 := num_mul a M
    clear dp
    generalize (Int.gcd a M : Int) = g at *
    generalize num a M = n at *
    generalize den a M = d at *
    rw [← h1, ← h2]; ac_rfl
theorem pos_le_dvd {b M : Int} (h : b ∣ M) (hM : 0 < M) : b ≤ M := Int.le_of_dvd hM h
/-- a pair of whole numbers -/
def ij (x : IJ) : D := .tup [.int x.1, .int x.2]
/-- whole numbers x for the job y -/
def wh (b M : Int) (x y : IJ) : Prop := x.1 * M = y.1 * b ∧ x.2 * M = y.2 * b
structure TW (T : Tbl) : Prop extends TQ T where
  whole_jobs : T.defs "_law_whole_jobs" = some c__law_whole_jobs
  least : T.defs "_law_least" = some c__law_least
/-- all denominators divide b -/
def dens (M b : Int) (y : IJ) : Prop := den y.1 M ∣ b ∧ den y.2 M ∣ b
theorem whole_jobs_post (h : TW T) (hw : Big w) {M : Int} (hM : SmM M) {j : Nat} {L : List IJ} (hj : S[j]? = some (.lst (L.map (jv M)))) (hL : ∀ x ∈ L, okJob M x) (hl : L.length ≤ 100) {Q : D → Sto → Prop} (hQ : ∀ (n r : Nat) (b : Int) (R : List IJ) (S' : Sto), S'[n]? = some (.lst [.ref r, .int b]) → S'[r]? = some (.lst (R.map ij)) → 0 < b → b ∣ M → R.length = L.length → (∀ p ∈ R.zip L, wh b M p.1 p.2) → Ext S S' → Q (.ref n) S') : (call T w (k + 2) "_law_whole_jobs" [.ref j] S).post Q := by
  have hMp := hM.pos
  have lt9 : (2 : Nat) ^ 4000 ≤ 2 ^ 9000 := Nat.pow_le_pow_right (by decide) (by decide)
  have sden : ∀ a, Sm (den a M) := fun a => Nat.lt_of_le_of_lt (natAbs_le (Int.le_of_lt (den_pos hMp)) (pos_le_dvd (den_dvd a M) hMp)) hM.s1.sm
  have sb : ∀ b, 0 < b → b ∣ M → Sm b := fun b h0 h1 => Nat.lt_of_le_of_lt (natAbs_le (Int.le_of_lt h0) (pos_le_dvd h1 hMp)) hM.s1.sm
  -- one step of the base
  have step : ∀ (b a : Int) (S : Sto), 0 < b → b ∣ M → ∃ r : Int, call T w (k + 1) "_law_part" [.int b, .int (den a M)] S = .ok (.int (Int.gcd b (den a M) : Int)) S ∧ mulOk b (den a M) = true ∧ divOk (Int.gcd b (den a M) : Int) = true ∧ Int.fdiv (b * den a M) (Int.gcd b (den a M) : Int) = r ∧ 0 < r ∧ r ∣ M ∧ b ∣ r ∧ den a M ∣ r := by
    intro b a S h0 h1
    obtain ⟨r, e1, e2, e3, e4, e5⟩ := lcm_step h0 (den_pos (a := a) hMp) h1 (den_dvd a M)
    have g0 := gcd_pos (n := b) (den_pos (a := a) hMp)
    have gle : (Int.gcd b (den a M) : Int).natAbs ≤ (den a M).natAbs := by
      have : Int.gcd b (den a M) ∣ (den a M).natAbs := by
        rw [Int.gcd]; exact Nat.gcd_dvd_right _ _
      have := Nat.le_of_dvd (by have := den_pos (a := a) hMp; omega) this
      omega
    refine ⟨r, part_eq h.part (hw _ (Nat.lt_of_lt_of_le (sden a) lt9)), sm_mul (sb b h0 h1) (sden a), divOk_of (p := 4000) (by omega) (Nat.lt_of_le_of_lt gle (sden a)) (by decide), e1, e2, e3, e4, e5⟩
  refine call_post' h.whole_jobs [some (.ref j), none, none, none, none] rfl rfl ?_
  unfold c__law_whole_jobs
  refine cons_post ?_
  unfold s__law_whole_jobs_1
  simp [exS_asg, exS_expr, exS_ret, exS_ife, evE, evT, evB, evEs, evAnd, evOr, evAny, evAll, evIfs, evO, Ev.of, startR, Res.of_some, truR, truD, asgT, asgTs, newT, ixD, ixL, atD, ixN', binD, cmpD, cmpO, biD, bi1, bi2, seqD, intD, negD, Res.post_ok, Res.post_bind, Res.post_rs, Res.post_nox, RS.post_fl]
  refine thn_next (cons_post ?_)
  unfold s__law_whole_jobs_2
  refine for_cps (fun xs ρ S' => ∃ (dn rest : List IJ) (b : Int) (x2 x3 x4 : Option D), L = dn ++ rest ∧ xs = rest.map (jv M) ∧ ρ = [some (.ref j), some (.int b), x2, x3, x4] ∧ S' = S ∧ 0 < b ∧ b ∣ M ∧ ∀ y ∈ dn, dens M b y) ⟨[.seq j (L.map (jv M))], L.map (jv M)⟩ S (evI_seq (by rfl) (seqIt_lst hj)) ⟨[], L, 1, none, none, none, rfl, rfl, rfl, rfl, by decide, Int.one_dvd M, by simp⟩ ?_ ?_ ?_
  · rintro xs ρ S' ⟨_, _, _, _, _, _, _, _, _, rfl, _⟩
    exact ok_seq hj
  · rintro v xs ρ S' ⟨dn, rest, b, x2, x3, x4, e0, e1, rfl, rfl, b0, bM, hd⟩
    obtain ⟨x, rest', rfl, rfl, rfl⟩ : ∃ x rest', rest = x :: rest' ∧ v = jv M x ∧ xs = rest'.map (jv M) := by
      cases rest with
      | nil => simp at e1
      | cons x rest' => simp at e1; exact ⟨x, rest', rfl, e1.1, e1.2⟩
    refine ⟨[some (.ref j), some (.int b), some (fr x.1 M), some (fr x.2 M), x4], by rfl, fun Q' hQ' => ?_⟩
    obtain ⟨r1, a1, a2, a3, a4, a5, a6, a7, a8⟩ := step b x.1 S' b0 bM
    obtain ⟨r2, c1, c2, c3, c4, c5, c6, c7, c8⟩ := step r1 x.2 S' a5 a6
    refine cons_post ?_
    unfold s__law_whole_jobs_2_1
    simp only [exS]
    have ei : evI (PA T w (k + 1)).toPar (CI.seq (CE.tup (CEs.cons false ((CE.var 2).ix (CE.cst (D.int 1))) (CEs.cons false ((CE.var 3).ix (CE.cst (D.int 1))) CEs.nil)))) [some (.ref j), some (.int b), some (fr x.1 M), some (fr x.2 M), x4] S' = .ok ⟨[], [.int (den x.1 M), .int (den x.2 M)]⟩ S' := evI_seq (x := .tup [.int (den x.1 M), .int (den x.2 M)]) (by simp [runD, exB, exS, evE, evT, evB, evEs, evAnd, evOr, evAny, evAll, evIfs, evO, Ev.of, startR, Res.of, truR, truD, asgT, asgTs, newT, newL, newR, ixD, ixL, atD, ixN', binD, cmpD, cmpO, biD, bi1, bi2, seqD, intD, Res.bind, Res.rs, RS.seq, Res.nox, fr_nd]) rfl
    rw [ei]
    simp [runD, exB, exS, evE, evT, evB, evEs, evAnd, evOr, evAny, evAll, evIfs, evO, Ev.of, startR, Res.of, truR, truD, asgT, asgTs, newT, newL, newR, ixD, ixL, atD, ixN', binD, cmpD, cmpO, biD, bi1, bi2, seqD, intD, Res.bind, Res.rs, RS.seq, Res.nox, s__law_whole_jobs_2_1_1, forL, ok_nil, asgP, a1, a2, a3, a4, c1, c2, c3, c4, RS.post_fl]
    refine thn_next (nil_post (hQ' _ _ ⟨dn ++ [x], rest', r2, _, _, _, by simp [e0], rfl, rfl, rfl, c5, c6, ?_⟩))
    intro y hy
    rcases List.mem_append.mp hy with hy | hy
    · exact ⟨Int.dvd_trans (hd y hy).1 (Int.dvd_trans a7 c7), Int.dvd_trans (hd y hy).2 (Int.dvd_trans a7 c7)⟩
    · simp at hy; subst hy
      exact ⟨Int.dvd_trans a8 c7, c8⟩
  rintro ρ S' ⟨dn, rest, b, x2, x3, x4, e0, e1, rfl, rfl, b0, bM, hd⟩
  have : rest = [] := by simpa using e1.symm
  subst this
  have : dn = L := by simpa using e0.symm
  subst this
  refine thn_next (cons_post ?_)
  unfold s__law_whole_jobs_3
  rw [exS_ret, Res.post_rs]
  have sL : ∀ a, a.natAbs < 2 ^ 1000 → Sm (num a M) := fun a ha => by
    obtain ⟨n', d', e, _, _, q, _⟩ := fr_get a hMp
    rw [fr_nd] at e
    simp at e
    rw [e.1]
    exact Nat.lt_of_le_of_lt q (Nat.lt_of_lt_of_le ha (Nat.pow_le_pow_right (by decide) (by decide)))
  have key := lc_cps (P := (PA T w (k + 1)).toPar) (g := .tup [(.nm 2), (.nm 3)]) (it := .seq (.var 0)) (vs := [2, 3]) (elt := (.tup (.cons false (.bin .FloorDiv (.bin .Mult (.ix (.var 2) (.cst (.int (0)))) (.var 1)) (.ix (.var 2) (.cst (.int (1))))) (.cons false (.bin .FloorDiv (.bin .Mult (.ix (.var 3) (.cst (.int (0)))) (.var 1)) (.ix (.var 3) (.cst (.int (1))))) .nil)))) (ρ := [some (.ref j), some (.int b), x2, x3, x4]) (S := S') (Q := fun v S2 => ∃ (n : Nat) (R : List IJ), v = .ref n ∧ S2[n]? = some (.lst (R.map ij)) ∧ R.length = dn.length ∧ (∀ p ∈ R.zip dn, wh b M p.1 p.2) ∧ Ext S' S2) (fun xs acc S2 => ∃ rest R dd : List IJ, dn = dd ++ rest ∧ xs = rest.map (jv M) ∧ acc = R.map ij ∧ R.length = dd.length ∧ (∀ p ∈ R.zip dd, wh b M p.1 p.2) ∧ S2 = S') ⟨[.seq j (dn.map (jv M))], dn.map (jv M)⟩ S' (by simp [dictAt, hj]) (evI_seq (by rfl) (seqIt_lst hj)) ⟨dn, [], [], rfl, rfl, rfl, rfl, by simp, rfl⟩ (by simp; omega) (fun _ _ S2 ⟨_, _, _, _, _, _, _, _, e⟩ => by subst e; exact ok_seq hj) ?_ ?_
  · obtain ⟨v, S2, e, n, R, rfl, g, hR, hz, x⟩ := key.get
    generalize CE.lc _ _ _ _ _ = lc at e ⊢
    have e' : ((evB (PA T w (k + 1)).toPar lc).v [some (.ref j), some (.int b), x2, x3, x4] S') = .ok (.ref n) S2 := e
    simp only [evE, evB, evEs, Ev.of, Res.post_bind]
    rw [e']
    simp [Res.post_ok, Res.post_bind]
    refine newL_post (by simp) fun n2 S3 l2 g2 e2 => ?_
    exact ⟨hQ n2 n b R S3 g2 (e2 _ _ g) b0 bM hR hz (x.trans e2)⟩
  · rintro v xs acc S2 ⟨rest, R, dd, e0, e1, rfl, hlen, hz, rfl⟩
    obtain ⟨x, rest', rfl, rfl, rfl⟩ : ∃ x rest', rest = x :: rest' ∧ v = jv M x ∧ xs = rest'.map (jv M) := by
      cases rest with
      | nil => simp at e1
      | cons x rest' => simp at e1; exact ⟨x, rest', rfl, e1.1, e1.2⟩
    have hx : x ∈ dn := by rw [e0]; simp
    obtain ⟨X, f1, f2⟩ := whole_num hMp (hd x hx).1
    obtain ⟨Y, f3, f4⟩ := whole_num hMp (hd x hx).2
    have ox := hL x hx
    have m1 : mulOk (num x.1 M) b = true := sm_mul (sL _ (ox.s1 hM)) (sb b b0 bM)
    have m2 : mulOk (num x.2 M) b = true := sm_mul (sL _ (ox.s2 hM)) (sb b b0 bM)
    have d1 : divOk (den x.1 M) = true := divOk_of (p := 4000) (by have := den_pos (a := x.1) hMp; omega) (sden _) (by decide)
    have d2 : divOk (den x.2 M) = true := divOk_of (p := 4000) (by have := den_pos (a := x.2) hMp; omega) (sden _) (by decide)
    refine ⟨[some (.ref j), some (.int b), some (fr x.1 M), some (fr x.2 M), x4], by rfl, fun Q' hQ2 => ?_⟩
    simp [exS_asg, exS_expr, exS_ret, exS_ife, evE, evT, evB, evEs, evAnd, evOr, evAny, evAll, evIfs, evO, Ev.of, startR, Res.of, truR, truD, asgT, asgTs, newT, newL, newR, ixD, ixL, atD, ixN', binD, cmpD, cmpO, biD, bi1, bi2, seqD, intD, negD, Res.post_ok, Res.post_bind, Res.post_rs, Res.post_nox, RS.post_fl, fr_nd, m1, m2, d1, d2, f1, f3]
    refine hQ2 _ _ ⟨rest', R ++ [(X, Y)], dd ++ [x], by simp [e0], rfl, by simp [ij], by simp [hlen], ?_, rfl⟩
    intro p hp
    rw [List.zip_append hlen] at hp
    rcases List.mem_append.mp hp with hp | hp
    · exact hz p hp
    · simp at hp; subst hp
      exact ⟨f2, f4⟩
  · rintro ys S2 S3 n ⟨rest, R, dd, e0, e1, rfl, hlen, hz, rfl⟩ e2 g _
    have : rest = [] := by simpa using e1.symm
    subst this
    have : dd = dn := by simpa using e0.symm
    subst this
    exact ⟨n, R, rfl, g, hlen, hz, e2⟩
end G

end

section
set_option Elab.async false
set_option linter.all false
set_option maxRecDepth 100000
set_option exponentiation.threshold 10000
/-! K7b: the law's least wait, from set to set of jobs. -/
namespace G
open PySem
variable {T : Tbl} {w k : Nat} {S : Sto}
theorem getK_map (v : D) (k k' : Key) : ∀ kvs : List (Key × D), getK (kvs.map (fun kv => if kv.1 = k then (kv.1, v) else kv)) k' = if k = k' ∧ (kvs.any fun kv => decide (kv.1 = k)) = true then some v else getK kvs k'
  | [] => by simp [getK]
  | (a, u) :: kvs => by
    have ih := getK_map v k k' kvs
    unfold getK at ih ⊢
    simp only [List.map_cons, List.find?_cons, List.any_cons]
    by_cases h1 : a = k
    · by_cases h2 : k = k'
      · simp [h1, h2]
      · simp only [h1, h2, if_true, decide_false, decide_true, Bool.true_or, false_and, if_false] at ih ⊢
        exact ih
    · by_cases h3 : a = k'
      · have : ¬ k = k' := fun h => h1 (h3.trans h.symm)
        simp only [h1, h3, this, if_false, decide_true, decide_false, Bool.false_or, false_and] at ih ⊢
        have h4 : ¬ k' = k := fun h => this h.symm
        simp [h4]
      · simp only [h1, h3, if_false, decide_false, Bool.false_or] at ih ⊢
        exact ih
theorem getK_put {kvs : List (Key × D)} {k k' : Key} {v : D} : getK (putK kvs k v) k' = if k = k' then some v else getK kvs k' := by
  unfold putK
  by_cases h : (kvs.any fun kv => decide (kv.1 = k)) = true
  · rw [if_pos h, getK_map]
    simp [h]
  · rw [if_neg h]
    have hk : getK kvs k = none := by
      unfold getK
      simp only [Option.map_eq_none_iff, List.find?_eq_none]
      intro p hp hq
      exact h (List.any_eq_true.mpr ⟨p, hp, hq⟩)
    by_cases h2 : k = k'
    · subst h2
      unfold getK at hk ⊢
      simp only [Option.map_eq_none_iff] at hk
      rw [List.find?_append, hk]
      simp
    · unfold getK
      rw [List.find?_append]
      simp [h2]
theorem putK_len {kvs : List (Key × D)} {k : Key} {v : D} : (putK kvs k v).length ≤ kvs.length + 1 := by
  unfold putK
  split <;> simp
structure DP (R : List IJ) (s k0 : Nat) (kb kl : List (Key × D)) : Prop where
  lo : ∀ m v, getK kb (.inl m) = some v → ∃ (mn : Nat) (z : Int), m = mn ∧ mn < 2 ^ R.length ∧ v = .int z ∧ FP R mn ≤ z ∧ getK kl (.inl m) = some (.int (FA R mn))
  zero : getK kb (.inl 0) = some (.int 0)
  up : ∀ (mn i : Nat) (x : IJ), mn < 2 ^ R.length → R[i]? = some x → mn.testBit i = false → (mn < s ∨ (mn = s ∧ i < k0)) → ∃ z, getK kb (.inl ((mn ||| 2 ^ i : Nat) : Int)) = some (.int z) ∧ z ≤ FP R mn + x.2 * (FA R mn + x.1)
  lenb : kb.length ≤ 1 + s * 100 + k0
  lenl : kl.length ≤ 1 + s * 100 + k0
theorem FP_zero (R : List IJ) : FP R 0 = 0 := by simp [FP, subs_zero, PW]
theorem FA_zero (R : List IJ) : FA R 0 = 0 := by simp [FA, subs_zero, sum1]
theorem DP.init {R : List IJ} : DP R 0 0 [(.inl 0, .int 0)] [(.inl 0, .int 0)] := by
  refine ⟨?_, by rfl, ?_, by simp, by simp⟩
  · intro m v h
    by_cases hm : m = 0
    · subst hm
      simp [getK] at h
      refine ⟨0, 0, by simp, Nat.two_pow_pos _, h.symm, by rw [FP_zero]; simp, by rw [FA_zero]; rfl⟩
    · have : ¬ (0 : Int) = m := fun e => hm e.symm
      simp [getK, this] at h
  · intro mn i x _ _ _ h
    omega
theorem DP.at {R : List IJ} {s k0 : Nat} {kb kl : List (Key × D)} (hp : ∀ y ∈ R, pos y) (h : DP R s k0 kb kl) (hs : s < 2 ^ R.length) : getK kb (.inl (s : Int)) = some (.int (FP R s)) ∧ getK kl (.inl (s : Int)) = some (.int (FA R s)) := by
  have hex : ∃ z, getK kb (.inl (s : Int)) = some (.int z) ∧ z ≤ FP R s := by
    by_cases h0 : s = 0
    · subst h0
      exact ⟨0, h.zero, by rw [FP_zero]; simp⟩
    · obtain ⟨i, m', x, h1, h2, h3, h4, h5⟩ := FP_last hp h0 hs
      obtain ⟨z, e, l⟩ := h.up m' i x (by omega) h1 h2 (.inl h4)
      rw [← h3] at e
      exact ⟨z, e, by omega⟩
  obtain ⟨z, e, l⟩ := hex
  obtain ⟨mn, z', e1, l1, e2, l2, e3⟩ := h.lo _ _ e
  have : s = mn := by omega
  subst this
  simp at e2; subst e2
  have : z = FP R s := by omega
  subst this
  exact ⟨e, e3⟩
theorem DP.at' {R : List IJ} {s k0 m : Nat} {kb kl : List (Key × D)} (hp : ∀ y ∈ R, pos y) (h : DP R s k0 kb kl) (hm : m ≤ s) (hs : m < 2 ^ R.length) : getK kb (.inl (m : Int)) = some (.int (FP R m)) ∧ getK kl (.inl (m : Int)) = some (.int (FA R m)) := by
  have hex : ∃ z, getK kb (.inl (m : Int)) = some (.int z) ∧ z ≤ FP R m := by
    by_cases h0 : m = 0
    · subst h0
      exact ⟨0, h.zero, by rw [FP_zero]; simp⟩
    · obtain ⟨i, m', x, h1, h2, h3, h4, h5⟩ := FP_last hp h0 hs
      obtain ⟨z, e, l⟩ := h.up m' i x (by omega) h1 h2 (.inl (by omega))
      rw [← h3] at e
      exact ⟨z, e, by omega⟩
  obtain ⟨z, e, l⟩ := hex
  obtain ⟨mn, z', e1, l1, e2, l2, e3⟩ := h.lo _ _ e
  have : m = mn := by omega
  subst this
  simp at e2; subst e2
  have : z = FP R m := by omega
  subst this
  exact ⟨e, e3⟩
theorem or_lt {s i n : Nat} (hs : s < 2 ^ n) (hi : i < n) : s ||| 2 ^ i < 2 ^ n := Nat.or_lt_two_pow hs (Nat.pow_lt_pow_right (by decide) hi)
theorem or_ne {s i : Nat} : s ||| 2 ^ i ≠ 0 := fun h => by
  have := tb_or (m := s) (i := i) (j := i)
  rw [h] at this
  simp at this
theorem DP.put {R : List IJ} {s k0 m : Nat} {kb kl : List (Key × D)} {x : IJ} (h : DP R s k0 kb kl) (hs : s < 2 ^ R.length) (hx : R[k0]? = some x) (hb : s.testBit k0 = false) (hm : s ||| 2 ^ k0 = m) (hlt : ∀ z0, getK kb (.inl (m : Int)) = some (.int z0) → FP R s + x.2 * (FA R s + x.1) ≤ z0) : DP R s (k0 + 1) (putK kb (.inl (m : Int)) (.int (FP R s + x.2 * (FA R s + x.1)))) (putK kl (.inl (m : Int)) (.int (FA R s + x.1))) := by
  have hk := (List.getElem?_eq_some_iff.mp hx).1
  subst hm
  refine ⟨?_, ?_, ?_, ?_, ?_⟩
  · intro m v hv
    rw [getK_put] at hv ⊢
    by_cases e : (Sum.inl ((s ||| 2 ^ k0 : Nat) : Int) : Key) = .inl m
    · rw [if_pos e] at hv ⊢
      simp at e hv
      refine ⟨s ||| 2 ^ k0, _, e.symm, or_lt hs hk, hv.symm, FP_put hx hb, by rw [FA_put hx hb]⟩
    · rw [if_neg e] at hv ⊢
      exact h.lo m v hv
  · rw [getK_put, if_neg]
    · exact h.zero
    · intro e
      simp at e
  · intro mn i y hmn hy hby hc
    rw [getK_put]
    by_cases e : (Sum.inl ((s ||| 2 ^ k0 : Nat) : Int) : Key) = .inl ((mn ||| 2 ^ i : Nat) : Int)
    · rw [if_pos e]
      refine ⟨_, rfl, ?_⟩
      by_cases hc' : mn < s ∨ (mn = s ∧ i < k0)
      · obtain ⟨z, e1, l1⟩ := h.up mn i y hmn hy hby hc'
        rw [← e] at e1
        have := hlt z e1
        omega
      · have q : mn = s ∧ i = k0 := by omega
        obtain ⟨rfl, rfl⟩ := q
        rw [hx] at hy
        simp at hy; subst hy
        exact Int.le_refl _
    · rw [if_neg e]
      refine h.up mn i y hmn hy hby ?_
      rcases hc with hc | ⟨rfl, hc⟩
      · exact .inl hc
      · have : i ≠ k0 := fun e2 => by subst e2; exact e rfl
        exact .inr ⟨rfl, by omega⟩
  · have := putK_len (kvs := kb) (k := (.inl ((s ||| 2 ^ k0 : Nat) : Int))) (v := (.int (FP R s + x.2 * (FA R s + x.1))))
    have := h.lenb
    omega
  · have := putK_len (kvs := kl) (k := (.inl ((s ||| 2 ^ k0 : Nat) : Int))) (v := (.int (FA R s + x.1)))
    have := h.lenl
    omega
theorem DP.skip {R : List IJ} {s k0 : Nat} {kb kl : List (Key × D)} (h : DP R s k0 kb kl) (hk : ∀ x, R[k0]? = some x → s.testBit k0 = false → ∃ z, getK kb (.inl ((s ||| 2 ^ k0 : Nat) : Int)) = some (.int z) ∧ z ≤ FP R s + x.2 * (FA R s + x.1)) : DP R s (k0 + 1) kb kl := by
  refine ⟨h.lo, h.zero, ?_, by have := h.lenb; omega, by have := h.lenl; omega⟩
  intro mn i y hmn hy hby hc
  by_cases hc' : mn < s ∨ (mn = s ∧ i < k0)
  · exact h.up mn i y hmn hy hby hc'
  · have q : mn = s ∧ i = k0 := by omega
    obtain ⟨rfl, rfl⟩ := q
    exact hk y hy hby
theorem DP.next {R : List IJ} {s : Nat} {kb kl : List (Key × D)} (h : DP R s R.length kb kl) (hl : R.length ≤ 50) : DP R (s + 1) 0 kb kl := by
  refine ⟨h.lo, h.zero, ?_, by have := h.lenb; omega, by have := h.lenl; omega⟩
  intro mn i y hmn hy hby hc
  have := (List.getElem?_eq_some_iff.mp hy).1
  exact h.up mn i y hmn hy hby (by omega)
/-! bits -/
theorem bit_and {s k : Nat} : Builtin.bitAnd ((s : Int) / 2 ^ k) 1 = if s.testBit k then 1 else 0 := by
  rw [PyProof.Rows.bitAnd_m1, Nat.testBit_eq_decide_div_mod_eq]
  have : ((s : Int) / 2 ^ k) % 2 = ((s / 2 ^ k % 2 : Nat) : Int) := by simp
  rw [this]
  have : s / 2 ^ k % 2 = 0 ∨ s / 2 ^ k % 2 = 1 := by omega
  rcases this with e | e <;> simp [e]
theorem bit_or {s k m : Nat} (hm : s ||| 2 ^ k = m) : Builtin.bitOr (s : Int) (2 ^ k) = (m : Int) := by
  have : (2 : Int) ^ k = ((2 ^ k : Nat) : Int) := by simp
  rw [this, L2.bitOr_nn (Int.natCast_nonneg _) (Int.natCast_nonneg _), ← hm]
  simp only [Int.toNat_natCast]
theorem bit_and0 {s : Nat} : Builtin.bitAnd 0 (s : Int) = 0 := by
  simp [Builtin.bitAnd]
theorem powOk1 {n : Nat} (h : n ≤ 1000000) : powOk 1 (n : Int) = true := by
  unfold powOk
  simp
  omega
theorem rng_eq (n : Nat) : rngD 0 (n : Int) = (List.range' 0 n).map fun i : Nat => D.int (i : Int) := by
  simp [rngD, List.range_eq_range']
theorem range_cons {v : D} {xs : List D} {s n : Nat} (h : v :: xs = (List.range' s n).map fun i : Nat => D.int (i : Int)) : ∃ n', n = n' + 1 ∧ v = .int s ∧ xs = (List.range' (s + 1) n').map fun i : Nat => D.int (i : Int) := by
  cases n with
  | zero => simp at h
  | succ n' => simp [List.range'_succ] at h; exact ⟨n', rfl, h.1, h.2⟩
theorem range_nil {s n : Nat} (h : [] = (List.range' s n).map fun i : Nat => D.int (i : Int)) : n = 0 := by
  cases n with
  | zero => rfl
  | succ n' => simp [List.range'_succ] at h
theorem dct00 {P : Par} {ρ : Rho} {S : Sto} : (evB P (.dct (.cons false (.cst (.int (0))) (.cons false (.cst (.int (0))) .nil)))).v ρ S = .ok (.ref S.length) (S ++ [.dK [(.inl 0, .int 0)]]) := by
  simp [runD, exB, exS, evE, evT, evB, evEs, evAnd, evOr, evAny, evAll, evIfs, evO, Ev.of, startR, Res.of, truR, truD, asgT, asgTs, newT, newL, newR, ixD, ixL, atD, ixN', binD, cmpD, cmpO, biD, bi1, bi2, seqD, intD, Res.bind, Res.rs, RS.seq, Res.nox, pairsD, keyD, mergeD, putK]
theorem Ext.setnew {S S' : Sto} {n : Nat} {o : MO} (h : Ext S S') (hn : S.length ≤ n) : Ext S (S'.set n o) := fun i x e => by
  have := (List.getElem?_eq_some_iff.mp e).1
  rw [List.getElem?_set_ne (by omega)]
  exact h i x e
theorem sum1_le {K : Int} : ∀ {l : List IJ}, (∀ y ∈ l, 0 ≤ y.1 ∧ y.1 ≤ K) → 0 ≤ sum1 l ∧ sum1 l ≤ l.length * K
  | [], _ => by simp [sum1]
  | y :: r, h => by
    have := sum1_le (l := r) fun z hz => h z (by simp [hz])
    have := h y (by simp)
    simp only [sum1, List.length_cons]
    rw [Int.natCast_add, Int.add_mul]
    simp
    omega
theorem subs_len : ∀ (l : List IJ) (m : Nat), (subs l m).length ≤ l.length
  | [], m => by simp [subs]
  | y :: r, m => by
    have := subs_len r (m / 2)
    unfold subs
    split <;> simp <;> omega
end G

end

section
set_option Elab.async false
set_option linter.all false
set_option maxHeartbeats 0
set_option maxRecDepth 100000
set_option exponentiation.threshold 10000
/-! K7c: the walk of the law's least wait. -/
namespace G
open PySem
variable {T : Tbl} {w k : Nat} {S : Sto}
theorem wh_ok {M b : Int} (hM : 0 < M) (b0 : 0 < b) (bM : b ≤ M) {y l : IJ} (ol : okJob M l) (hw : wh b M y l) : pos y ∧ y.1 ≤ 14 * M ∧ y.2 ≤ 14 * M := by
  have nn : ∀ {u v : Int}, u * M = v * b → 0 ≤ v → 0 ≤ u := by
    intro u v e hv
    by_cases h : 0 ≤ u
    · exact h
    · have h2 : u * M < 0 := Int.mul_neg_of_neg_of_pos (by omega) hM
      have h3 : 0 ≤ v * b := Int.mul_nonneg hv (by omega)
      omega
  have le : ∀ {u v : Int}, u * M = v * b → 0 ≤ v → v ≤ 14 * M → u ≤ 14 * M := by
    intro u v e hv hvM
    have h1 : v * b ≤ (14 * M) * M := Int.mul_le_mul hvM bM (by omega) (by omega)
    rw [← e] at h1
    exact Int.le_of_mul_le_mul_right h1 hM
  have zz : ∀ {u v : Int}, u * M = v * b → u = 0 → v = 0 := by
    intro u v e hu
    subst hu
    have : v * b = 0 := by rw [← e]; simp
    rcases Int.mul_eq_zero.mp this with h | h
    · exact h
    · omega
  have n1 := nn hw.1 ol.p.1
  have n2 := nn hw.2 ol.p.2.1
  refine ⟨⟨n1, n2, ?_⟩, le hw.1 ol.p.1 ol.l1, le hw.2 ol.p.2.1 ol.l2⟩
  have := ol.p.2.2
  have z1 := zz hw.1
  have z2 := zz hw.2
  by_cases q1 : y.1 = 0
  · by_cases q2 : y.2 = 0
    · have := z1 q1; have := z2 q2; omega
    · omega
  · omega
theorem least_post (h : TW T) (hw : Big w) {M : Int} (hM : SmM M) {j e0 : Nat} {L : List IJ} (hj : S[j]? = some (.lst (L.map (jv M)))) (he : S[e0]? = some (.lst [])) (hL : ∀ x ∈ L, okJob M x) (hl : L.length < 7) {Q : D → Sto → Prop} (hQ : ∀ S', Ext S S' → Q (fr (PW L) (M * M)) S') : (call T w (k + 3) "_law_least" [.ref j, .ref e0] S).post Q := by
  have hMp := hM.pos
  refine call_post' h.least [some (.ref j), some (.ref e0), none, none, none, none, none, none, none, none, none, none, none, none, none] rfl rfl ?_
  unfold c__law_least
  refine cons_post ?_
  unfold s__law_least_1
  simp [exS_asg, exS_expr, exS_ret, exS_ife, evE, evT, evB, evEs, evAnd, evOr, evAny, evAll, evIfs, evO, Ev.of, startR, Res.of_some, truR, truD, asgT, asgTs, newT, ixD, ixL, atD, ixN', binD, cmpD, cmpO, biD, bi1, bi2, seqD, intD, negD, Res.post_ok, Res.post_bind, Res.post_rs, Res.post_nox, RS.post_fl]
  refine whole_jobs_post h hw hM hj hL (by omega) fun n r b R S1 g1 gr b0 bM hR hz x1 => ?_
  simp [exS_asg, exS_expr, exS_ret, exS_ife, evE, evT, evB, evEs, evAnd, evOr, evAny, evAll, evIfs, evO, Ev.of, startR, Res.of_some, truR, truD, asgT, asgTs, newT, ixD, ixL, atD, ixN', binD, cmpD, cmpO, biD, bi1, bi2, seqD, intD, negD, Res.post_ok, Res.post_bind, Res.post_rs, Res.post_nox, RS.post_fl, lstAt, g1]
  refine thn_next (cons_post ?_)
  unfold s__law_least_2
  have hN : R.length < 7 := by omega
  have c31 : (R.length : Int) ≤ 1000000 := by omega
  have c32 : (-1000000 : Int) ≤ (R.length : Int) := by omega
  simp [exS_asg, exS_expr, exS_ret, exS_ife, evE, evT, evB, evEs, evAnd, evOr, evAny, evAll, evIfs, evO, Ev.of, startR, Res.of_some, truR, truD, asgT, asgTs, newT, ixD, ixL, atD, ixN', binD, cmpD, cmpO, biD, bi1, bi2, seqD, intD, negD, Res.post_ok, Res.post_bind, Res.post_rs, Res.post_nox, RS.post_fl, lenD, gr]
  refine newL_post (by simp) fun h0 S2 l2 g2 x2 => ?_
  have gr := x2 _ _ gr
  simp [exS_asg, exS_expr, exS_ret, exS_ife, evE, evT, evB, evEs, evAnd, evOr, evAny, evAll, evIfs, evO, Ev.of, startR, Res.of_some, truR, truD, asgT, asgTs, newT, ixD, ixL, atD, ixN', binD, cmpD, cmpO, biD, bi1, bi2, seqD, intD, negD, Res.post_ok, Res.post_bind, Res.post_rs, Res.post_nox, RS.post_fl, lenD, gr, lstAt, g2, c31, c32]
  refine newL_post (by simp; omega) fun h1 S3 l3 g3 x3 => ?_
  have gr := x3 _ _ gr
  refine thn_next (cons_post ?_)
  have x13 := (x1.trans x2).trans x3
  clear g1 g2 l2 x1 x2 x3
  have he3 := x13 _ _ he
  have g3' : S3[h1]? = some (.lst (List.replicate R.length (.int 0))) := by
    rw [g3]
  clear g3 l3
  unfold s__law_least_3
  simp only [exS]
  have ei : evI (PA T w (k + 2)).toPar (CI.seq (CE.var 1)) [some (.ref j), some (.ref e0), some (.ref r), some (.int b), some (.int R.length), some (.ref h1), none, none, none, none, none, none, none, none, none] S3 = .ok ⟨[.seq e0 []], []⟩ S3 := evI_seq (by rfl) (seqIt_lst he3)
  rw [ei]
  simp only [Res.rs, forL, ok_seq he3, if_true, RS.post_fl]
  refine thn_next (cons_post ?_)
  unfold s__law_least_4
  have hd := fun ρ S => @dct00 (PA T w (k + 2)).toPar ρ S
  generalize (CE.dct (.cons false (.cst (.int (0))) (.cons false (.cst (.int (0))) .nil))) = dc at hd ⊢
  simp [exS_asg, exS_expr, exS_ret, exS_ife, evE, evT, evB, evEs, evAnd, evOr, evAny, evAll, evIfs, evO, Ev.of, startR, Res.of_some, truR, truD, asgT, asgTs, newT, ixD, ixL, atD, ixN', binD, cmpD, cmpO, biD, bi1, bi2, seqD, intD, negD, Res.post_ok, Res.post_bind, Res.post_rs, Res.post_nox, RS.post_fl, hd]
  refine thn_next (cons_post ?_)
  have hrl := (List.getElem?_eq_some_iff.mp gr).1
  have hhl := (List.getElem?_eq_some_iff.mp g3').1
  have hSl := x13.len
  have hpl : S3.length < S3.length + 1 := by omega
  have i1 : (S3 ++ [MO.dK [(.inl 0, .int 0)], MO.dK [(.inl 0, .int 0)]])[S3.length]? = some (.dK [(.inl 0, .int 0)]) := by simp
  have i2 : (S3 ++ [MO.dK [(.inl 0, .int 0)], MO.dK [(.inl 0, .int 0)]])[S3.length + 1]? = some (.dK [(.inl 0, .int 0)]) := by simp
  have x4 := Ext.app S3 [MO.dK [(.inl 0, .int 0)], MO.dK [(.inl 0, .int 0)]]
  generalize S3 ++ [MO.dK [(.inl 0, .int 0)], MO.dK [(.inl 0, .int 0)]] = S4 at *
  have gr := x4 _ _ gr
  have gh := x4 _ _ g3'
  have x14 := x13.trans x4
  generalize hp : S3.length = p at *
  generalize hq : p + 1 = q at *
  have pR : ∀ y ∈ R, pos y ∧ y.1 ≤ 14 * M ∧ y.2 ≤ 14 * M := by
    intro y hy
    obtain ⟨l, hl⟩ : ∃ l, (y, l) ∈ R.zip L := by
      obtain ⟨i, hi, e⟩ := List.mem_iff_getElem.mp hy
      refine ⟨L[i]'(by omega), ?_⟩
      refine List.mem_iff_getElem.mpr ⟨i, by simp; omega, ?_⟩
      simp [e]
    have ol := hL l (List.of_mem_zip hl).2
    exact wh_ok hMp b0 (pos_le_dvd bM hMp) ol (hz _ hl)
  unfold s__law_least_5
  have hpw : powOk 1 (R.length : Int) = true := powOk1 (by omega)
  have hN1 : (2 : Nat) ^ R.length < 1000 := Nat.lt_of_lt_of_le (Nat.pow_lt_pow_right (by decide) hN) (by decide)
  have hNN : (2 : Nat) ^ R.length < 1000000 := by omega
  refine for_cps (fun xs ρ S' => ∃ (s n : Nat) (kb kl : List (Key × D)) (x10 x11 x12 x13 x14 : Option D), xs = ((List.range' s n).map fun i : Nat => D.int (i : Int)) ∧ s + n = 2 ^ R.length ∧ ρ = [some (.ref j), some (.ref e0), some (.ref r), some (.int b), some (.int R.length), some (.ref h1), none, none, some (.ref p), some (.ref q), x10, x11, x12, x13, x14] ∧ DP R s 0 kb kl ∧ S'[p]? = some (.dK kb) ∧ S'[q]? = some (.dK kl) ∧ S'[r]? = some (.lst (R.map ij)) ∧ S'[h1]? = some (.lst (List.replicate R.length (.int 0))) ∧ Ext S S') ⟨[], rngD 0 ((2 ^ R.length : Nat) : Int)⟩ S4 (evI_rng1 ?_ (rngOk_of hNN)) ⟨0, 2 ^ R.length, _, _, none, none, none, none, none, by rw [rng_eq], by simp, rfl, DP.init, i1, i2, gr, gh, x14⟩ (fun _ _ _ _ => rfl) ?_ ?_
  · simp [runD, exB, exS, evE, evT, evB, evEs, evAnd, evOr, evAny, evAll, evIfs, evO, Ev.of, startR, Res.of, truR, truD, asgT, asgTs, newT, newL, newR, ixD, ixL, atD, ixN', binD, cmpD, cmpO, biD, bi1, bi2, seqD, intD, Res.bind, Res.rs, RS.seq, Res.nox, hpw]
  · rintro v xs ρ S' ⟨s, n, kb, kl, x10, x11, x12, x13', x14', e1, hs, rfl, dp, gp, gq, gr, gh, ex⟩
    obtain ⟨n', rfl, rfl, rfl⟩ := range_cons e1
    have sl : s < 2 ^ R.length := by omega
    refine ⟨[some (.ref j), some (.ref e0), some (.ref r), some (.int b), some (.int R.length), some (.ref h1), none, none, some (.ref p), some (.ref q), some (.int s), x11, x12, x13', x14'], by rfl, fun Q' hQ' => ?_⟩
    refine cons_post ?_
    unfold s__law_least_5_1
    have da := dp.at (fun y hy => (pR y hy).1) sl
    simp [exS_asg, exS_expr, exS_ret, exS_ife, evE, evT, evB, evEs, evAnd, evOr, evAny, evAll, evIfs, evO, Ev.of, startR, Res.of_some, truR, truD, asgT, asgTs, newT, ixD, ixL, atD, ixN', binD, cmpD, cmpO, biD, bi1, bi2, seqD, intD, negD, Res.post_ok, Res.post_bind, Res.post_rs, Res.post_nox, RS.post_fl, inD, gp, keyD, da.1]
    refine cons_post ?_
    unfold s__law_least_5_1_1
    refine for_cps (fun xs ρ S' => ∃ (kk n : Nat) (kb kl : List (Key × D)) (x11 x12 x13 x14 : Option D), xs = ((List.range' kk n).map fun i : Nat => D.int (i : Int)) ∧ kk + n = R.length ∧ ρ = [some (.ref j), some (.ref e0), some (.ref r), some (.int b), some (.int R.length), some (.ref h1), none, none, some (.ref p), some (.ref q), some (.int s), x11, x12, x13, x14] ∧ DP R s kk kb kl ∧ S'[p]? = some (.dK kb) ∧ S'[q]? = some (.dK kl) ∧ S'[r]? = some (.lst (R.map ij)) ∧ S'[h1]? = some (.lst (List.replicate R.length (.int 0))) ∧ Ext S S') ⟨[], rngD 0 (R.length : Int)⟩ S' (evI_rng1 (by rfl) (rngOk_of (by omega))) ⟨0, R.length, kb, kl, _, _, _, _, by rw [rng_eq], by simp, rfl, dp, gp, gq, gr, gh, ex⟩ (fun _ _ _ _ => rfl) ?_ ?_
    · rintro v xs ρ S' ⟨kk, n, kb, kl, x11, x12, x13', x14', e1, hk, rfl, dp, gp, gq, gr, gh, ex⟩
      obtain ⟨n', rfl, rfl, rfl⟩ := range_cons e1
      have kR : kk < R.length := by omega
      obtain ⟨x, hx⟩ : ∃ x, R[kk] = x := ⟨_, rfl⟩
      have hx' : R[kk]? = some x := by rw [List.getElem?_eq_getElem kR, hx]
      have px := pR x (List.mem_of_getElem? hx')
      have da := dp.at (fun y hy => (pR y hy).1) sl
      refine ⟨[some (.ref j), some (.ref e0), some (.ref r), some (.int b), some (.int R.length), some (.ref h1), none, none, some (.ref p), some (.ref q), some (.int s), some (.int kk), x12, x13', x14'], by rfl, fun Q2 hQ2 => ?_⟩
      refine cons_post ?_
      unfold s__law_least_5_1_1_1
      have pk : powOk 1 (kk : Int) = true := powOk1 (by omega)
      simp [exS_asg, exS_expr, exS_ret, exS_ife, evE, evT, evB, evEs, evAnd, evOr, evAny, evAll, evIfs, evO, Ev.of, startR, Res.of_some, truR, truD, asgT, asgTs, newT, ixD, ixL, atD, ixN', binD, cmpD, cmpO, biD, bi1, bi2, seqD, intD, negD, Res.post_ok, Res.post_bind, Res.post_rs, Res.post_nox, RS.post_fl, bit_and, eqD_int, gh, kR, bit_and0]
      cases hb : s.testBit kk with
      | true =>
        simp [exS_asg, exS_expr, exS_ret, exS_ife, evE, evT, evB, evEs, evAnd, evOr, evAny, evAll, evIfs, evO, Ev.of, startR, Res.of_some, truR, truD, asgT, asgTs, newT, ixD, ixL, atD, ixN', binD, cmpD, cmpO, biD, bi1, bi2, seqD, intD, negD, Res.post_ok, Res.post_bind, Res.post_rs, Res.post_nox, RS.post_fl]
        refine nil_post (thn_next (nil_post (hQ2 _ _ ⟨kk + 1, n', kb, kl, _, _, _, _, rfl, by omega, rfl, dp.skip fun y _ hy => by rw [hb] at hy; exact absurd hy (by decide), gp, gq, gr, gh, ex⟩)))
      | false =>
        simp [exS_asg, exS_expr, exS_ret, exS_ife, evE, evT, evB, evEs, evAnd, evOr, evAny, evAll, evIfs, evO, Ev.of, startR, Res.of_some, truR, truD, asgT, asgTs, newT, ixD, ixL, atD, ixN', binD, cmpD, cmpO, biD, bi1, bi2, seqD, intD, negD, Res.post_ok, Res.post_bind, Res.post_rs, Res.post_nox, RS.post_fl, gh, kR, bit_and0, eqD_int]
        refine cons_post ?_
        unfold s__law_least_5_1_1_1_1
        generalize hm : s ||| 2 ^ kk = m
        have hbo := bit_or hm
        simp [exS_asg, exS_expr, exS_ret, exS_ife, evE, evT, evB, evEs, evAnd, evOr, evAny, evAll, evIfs, evO, Ev.of, startR, Res.of_some, truR, truD, asgT, asgTs, newT, ixD, ixL, atD, ixN', binD, cmpD, cmpO, biD, bi1, bi2, seqD, intD, negD, Res.post_ok, Res.post_bind, Res.post_rs, Res.post_nox, RS.post_fl, pk, hbo, gq, keyD, da.2, gr, kR, hx, ij]
        refine thn_next (cons_post ?_)
        unfold s__law_least_5_1_1_1_2
        have mok : mulOk x.2 (FA R s + x.1) = true := by
          have f := sum1_le (K := 14 * M) (l := subs R s) fun y hy => ⟨(pR y (subs_mem hy)).1.1, (pR y (subs_mem hy)).2.1⟩
          have sl' := subs_len R s
          have f2 : ((subs R s).length : Int) * (14 * M) ≤ 10 * (14 * M) := Int.mul_le_mul_of_nonneg_right (by omega) (by omega)
          have f3 : FA R s + x.1 ≤ ((11 : Nat) : Int) * (14 * M) := by
            have := px.2.1
            unfold FA
            omega
          have f4 : 0 ≤ FA R s + x.1 := by
            have := px.1.1
            unfold FA
            omega
          exact mulOk_of (hM.le px.1.2.1 px.2.2) (sm_many f4 f3 (by decide) hM.sm) (by decide)
        simp [exS_asg, exS_expr, exS_ret, exS_ife, evE, evT, evB, evEs, evAnd, evOr, evAny, evAll, evIfs, evO, Ev.of, startR, Res.of_some, truR, truD, asgT, asgTs, newT, ixD, ixL, atD, ixN', binD, cmpD, cmpO, biD, bi1, bi2, seqD, intD, negD, Res.post_ok, Res.post_bind, Res.post_rs, Res.post_nox, RS.post_fl, gp, keyD, da.1, gr, kR, hx, ij, mok]
        refine thn_next (cons_post ?_)
        unfold s__law_least_5_1_1_1_3
        have fin : ∀ b' : Bool, (b' = true → ∀ z0, getK kb (.inl (m : Int)) = some (.int z0) → FP R s + x.2 * (FA R s + x.1) ≤ z0) → (b' = false → ∃ z0, getK kb (.inl (m : Int)) = some (.int z0) ∧ z0 ≤ FP R s + x.2 * (FA R s + x.1)) → (if b' = true then exB (PA T w (k + 2)) (CB.cons s__law_least_5_1_1_1_3_1 CB.nil) [some (.ref j), some (.ref e0), some (.ref r), some (.int b), some (.int R.length), some (.ref h1), none, none, some (.ref p), some (.ref q), some (.int s), some (.int kk), some (.int m), some (.int (FA R s + x.1)), some (.int (FP R s + x.2 * (FA R s + x.1)))] S' else exB (PA T w (k + 2)) CB.nil [some (.ref j), some (.ref e0), some (.ref r), some (.int b), some (.int R.length), some (.ref h1), none, none, some (.ref p), some (.ref q), some (.int s), some (.int kk), some (.int m), some (.int (FA R s + x.1)), some (.int (FP R s + x.2 * (FA R s + x.1)))] S').post (thn (PA T w (k + 2)) CB.nil (thn (PA T w (k + 2)) CB.nil Q2)) := by
          intro b' h1' h2'
          cases b' with
          | true =>
            simp only [if_true]
            refine cons_post ?_
            unfold s__law_least_5_1_1_1_3_1
            have lb : kb.length < 16000000 := by have := dp.lenb; omega
            have ll : kl.length < 16000000 := by have := dp.lenl; omega
            have pq : p ≠ q := by omega
            have qp : q ≠ p := by omega
            have rp : p ≠ r := by omega
            have rq : q ≠ r := by omega
            have hp' : p ≠ h1 := by omega
            have hq' : q ≠ h1 := by omega
            have plt := (List.getElem?_eq_some_iff.mp gp).1
            have qlt := (List.getElem?_eq_some_iff.mp gq).1
            simp [exS_asg, exS_expr, exS_ret, exS_ife, evE, evT, evB, evEs, evAnd, evOr, evAny, evAll, evIfs, evO, Ev.of, startR, Res.of_some, truR, truD, asgT, asgTs, newT, ixD, ixL, atD, ixN', binD, cmpD, cmpO, biD, bi1, bi2, seqD, intD, negD, Res.post_ok, Res.post_bind, Res.post_rs, Res.post_nox, RS.post_fl, setD, gp, keyD, lb]
            rw [List.getElem?_set_ne pq, gq]
            simp [exS_asg, exS_expr, exS_ret, exS_ife, evE, evT, evB, evEs, evAnd, evOr, evAny, evAll, evIfs, evO, Ev.of, startR, Res.of_some, truR, truD, asgT, asgTs, newT, ixD, ixL, atD, ixN', binD, cmpD, cmpO, biD, bi1, bi2, seqD, intD, negD, Res.post_ok, Res.post_bind, Res.post_rs, Res.post_nox, RS.post_fl, keyD, ll]
            refine thn_next (nil_post (thn_next (nil_post (thn_next (nil_post (hQ2 _ _ ⟨kk + 1, n', _, _, _, _, _, _, rfl, by omega, rfl, dp.put sl hx' hb hm (h1' rfl), ?_, ?_, ?_, ?_, (ex.setnew hSl).setnew (by omega)⟩))))))
            · rw [List.getElem?_set_ne qp, List.getElem?_set_self plt]
            · rw [List.getElem?_set_self (by simpa using qlt)]
            · rw [List.getElem?_set_ne rq, List.getElem?_set_ne rp]; exact gr
            · rw [List.getElem?_set_ne hq', List.getElem?_set_ne hp']; exact gh
          | false =>
            simp
            obtain ⟨z0, f1, f2⟩ := h2' rfl
            refine nil_post (thn_next (nil_post (thn_next (nil_post (hQ2 _ _ ⟨kk + 1, n', kb, kl, _, _, _, _, rfl, by omega, rfl, dp.skip fun y hy hy2 => ?_, gp, gq, gr, gh, ex⟩)))))
            rw [hm]
            rw [hx'] at hy
            simp at hy; subst hy
            exact ⟨z0, f1, f2⟩
        cases hg : getK kb (.inl (m : Int)) with
        | none =>
          simp [exS_asg, exS_expr, exS_ret, exS_ife, evE, evT, evB, evEs, evAnd, evOr, evAny, evAll, evIfs, evO, Ev.of, startR, Res.of_some, truR, truD, asgT, asgTs, newT, ixD, ixL, atD, ixN', binD, cmpD, cmpO, biD, bi1, bi2, seqD, intD, negD, Res.post_ok, Res.post_bind, Res.post_rs, Res.post_nox, RS.post_fl, inD, gp, keyD, hg]
          exact fin true (fun _ z0 hz => by rw [hg] at hz; simp at hz) (fun h => by simp at h)
        | some v0 =>
          obtain ⟨mn, z, a1, a2, rfl, a4, a5⟩ := dp.lo _ _ hg
          simp [exS_asg, exS_expr, exS_ret, exS_ife, evE, evT, evB, evEs, evAnd, evOr, evAny, evAll, evIfs, evO, Ev.of, startR, Res.of_some, truR, truD, asgT, asgTs, newT, ixD, ixL, atD, ixN', binD, cmpD, cmpO, biD, bi1, bi2, seqD, intD, negD, Res.post_ok, Res.post_bind, Res.post_rs, Res.post_nox, RS.post_fl, inD, gp, keyD, hg]
          have := fin (decide (FP R s + x.2 * (FA R s + x.1) < z)) (fun h z0 hz => by rw [hg] at hz; simp at hz h; omega) (fun h => ⟨z, hg, by simp at h; omega⟩)
          by_cases q : FP R s + x.2 * (FA R s + x.1) < z
          · rw [if_pos q, Res.post_ok]
            exact fin true (fun _ z0 hz => by rw [hg] at hz; simp at hz; omega) (fun h => by simp at h)
          · rw [if_neg q, Res.post_ok]
            exact fin false (fun h => by simp at h) (fun _ => ⟨z, hg, by omega⟩)
    · rintro ρ S5 ⟨kk, n, kb, kl, x11, x12, x13', x14', e1, hk, rfl, dp, gp, gq, gr, gh, ex⟩
      have := range_nil e1
      subst this
      have : kk = R.length := by omega
      subst this
      exact thn_next (nil_post (thn_next (nil_post (hQ' _ _ ⟨s + 1, n', kb, kl, _, _, _, _, _, rfl, by omega, rfl, dp.next (by omega), gp, gq, gr, gh, ex⟩))))
  · rintro ρ S' ⟨s, n, kb, kl, x10, x11, x12, x13', x14', e1, hs, rfl, dp, gp, gq, gr, gh, ex⟩
    have := range_nil e1
    subst this
    have : s = 2 ^ R.length := by omega
    subst this
    have h1le : 1 ≤ 2 ^ R.length := Nat.one_le_two_pow
    have da := dp.at' (fun y hy => (pR y hy).1) (m := 2 ^ R.length - 1) (by omega) (by omega)
    have efull : FP R (2 ^ R.length - 1) = PW R := by unfold FP; rw [subs_full]
    rw [efull] at da
    have e2 : ((2 : Int) ^ R.length - 1) = ((2 ^ R.length - 1 : Nat) : Int) := by
      rw [Int.natCast_sub h1le]; simp
    have bS : G.S1 b := Nat.lt_of_le_of_lt (natAbs_le (Int.le_of_lt b0) (pos_le_dvd bM hMp)) hM.s1
    have bb : mulOk b b = true := sm_mul bS.sm bS.sm
    have bp := Int.mul_pos b0 b0
    have hf := lfraction_eq (T := T) (w := w) (k := k) (S := S') h.fraction h.part hw (n := PW R) bp (mul_lt bS bS) (by decide)
    have hfr : fr (PW R) (b * b) = fr (PW L) (M * M) := fr_eq bp (Int.mul_pos hMp hMp) (PW_scale (Int.le_of_lt hMp) (Int.le_of_lt b0) hR fun p hp => hz p hp)
    rw [hfr] at hf
    refine thn_next (cons_post ?_)
    unfold s__law_least_6
    simp [exS_asg, exS_expr, exS_ret, exS_ife, evE, evT, evB, evEs, evAnd, evOr, evAny, evAll, evIfs, evO, Ev.of, startR, Res.of_some, truR, truD, asgT, asgTs, newT, ixD, ixL, atD, ixN', binD, cmpD, cmpO, biD, bi1, bi2, seqD, intD, negD, Res.post_ok, Res.post_bind, Res.post_rs, Res.post_nox, RS.post_fl, hpw, gp, keyD, e2, da.1, bb, hf, thn_ret, back_ret]
    exact hQ _ ex
end G

end

section
set_option Elab.async false
set_option linter.all false
set_option maxRecDepth 100000
set_option exponentiation.threshold 10000
/-! K8: the program's free jobs. -/
namespace G
open PySem
variable {T : Tbl} {w k : Nat} {S : Sto}
/-- a list or a tuple of these -/
def Seq (S : Sto) (d : D) (xs : List D) : Prop := d = .tup xs ∨ ∃ j, d = .ref j ∧ S[j]? = some (.lst xs)
theorem Seq.ext {S' : Sto} {d : D} {xs : List D} (h : Seq S d xs) (e : Ext S S') : Seq S' d xs := by
  rcases h with h | ⟨j, h1, h2⟩
  · exact .inl h
  · exact .inr ⟨j, h1, e _ _ h2⟩
theorem Seq.it' {d : D} {xs : List D} (h : Seq S d xs) : ∃ chk, seqIt' S d = some ⟨chk, xs⟩ ∧ ∀ ys S', Ext S S' → (It.mk chk ys).ok S' = true := by
  rcases h with rfl | ⟨j, rfl, h2⟩
  · exact ⟨[], rfl, fun _ _ _ => rfl⟩
  · refine ⟨[.seq j xs], ?_, fun ys S' e => ok_seq (e _ _ h2)⟩
    simp [seqIt', lstAt, h2]
theorem Seq.it {d : D} {xs : List D} (h : Seq S d xs) : ∃ chk, seqIt S d = some ⟨chk, xs⟩ ∧ ∀ ys S', Ext S S' → (It.mk chk ys).ok S' = true := by
  rcases h with rfl | ⟨j, rfl, h2⟩
  · exact ⟨[], rfl, fun _ _ _ => rfl⟩
  · exact ⟨[.seq j xs], seqIt_lst h2, fun ys S' e => ok_seq (e _ _ h2)⟩
theorem Seq.sl {d : D} {xs : List D} (h : Seq S d xs) {n : Nat} (hn : n ≤ xs.length) (hl : xs.length ≤ 16000000) : ∃ d' S', slD d none (some (n : Int)) S = some (d', S') ∧ Ext S S' ∧ Seq S' d' (xs.take n) := by
  rcases h with rfl | ⟨j, rfl, h2⟩
  · exact ⟨_, S, rfl, Ext.refl S, .inl (by rw [cut_to hn])⟩
  · obtain ⟨n', S', e, _, g, x⟩ := newL_get (S := S) (xs := xs.take n) (by simp; omega)
    refine ⟨.ref n', S', ?_, x, .inr ⟨n', rfl, g⟩⟩
    simp [slD, lstAt, h2, cut_to hn, e]
theorem Seq.len {d : D} {xs : List D} (h : Seq S d xs) : lenD S d = some xs.length := by
  rcases h with rfl | ⟨j, rfl, h2⟩
  · rfl
  · simp [lenD, h2]
theorem Seq.nd {d : D} {xs : List D} (h : Seq S d xs) {ρ : Rho} {i : Nat} (hi : ρ[i]? = some (some d)) : dictAt (.seq (.var i)) ρ S = none := by
  rcases h with rfl | ⟨j, rfl, h2⟩
  · simp [dictAt, hi]
  · simp [dictAt, hi, h2]
structure TF (T : Tbl) : Prop extends TJ T where
  are_free : T.defs "are_free" = some c_are_free
  check_jobs : T.defs "check_jobs" = some c_check_jobs
  free_of : T.defs "free_of" = some c_free_of
  free_wait : T.defs "free_wait" = some c_free_wait
  pair_wait : T.defs "pair_wait" = some c_pair_wait
  most : T.gl "MOST_FREE" = some (.int 30)
theorem is_job_ok (h : TJ T) {M : Int} (hM : 0 < M) {x : IJ} (hx : pos x) : ∃ S', call T w (k + 4) "is_job" [jv M x] S = .ok (.bl true) S' ∧ Ext S S' := by
  obtain ⟨G, e⟩ := is_job_jb (T := T) (w := w) (k := k) (S := S) h hM hx.1 hx.2.1 hx.2.2
  exact ⟨_, e, Ext.app _ _⟩
theorem all_true : ∀ {ys : List D}, (∀ y ∈ ys, y = .bl true) → ∃ bs, mapO blD ys = some bs ∧ bs.all id = true
  | [], _ => ⟨[], rfl, rfl⟩
  | y :: ys, h => by
    obtain ⟨bs, e, a⟩ := all_true (ys := ys) fun z hz => h z (by simp [hz])
    have : y = .bl true := h y (by simp)
    subst this
    exact ⟨true :: bs, by simp [mapO, blD, e], by simp at a ⊢; exact a⟩
theorem is_list_ok (h : TJ T) {d : D} {xs : List D} (hd : Seq S d xs) : call T w (k + 1) "is_list" [d] S = .ok (.bl true) S := by
  rw [call_eq h.is_list rfl]
  rcases hd with rfl | ⟨j, rfl, h2⟩
  · simp [runD, exB, exS, evE, evT, evB, evEs, evAnd, evOr, evAny, evAll, evIfs, evO, Ev.of, startR, Res.of, truR, truD, asgT, asgTs, newT, newL, newR, ixD, ixL, atD, ixN', binD, cmpD, cmpO, biD, bi1, bi2, seqD, intD, Res.bind, Res.rs, RS.seq, Res.nox, c_is_list, tyD, isTy]
  · simp [runD, exB, exS, evE, evT, evB, evEs, evAnd, evOr, evAny, evAll, evIfs, evO, Ev.of, startR, Res.of, truR, truD, asgT, asgTs, newT, newL, newR, ixD, ixL, atD, ixN', binD, cmpD, cmpO, biD, bi1, bi2, seqD, intD, Res.bind, Res.rs, RS.seq, Res.nox, c_is_list, tyD, isTy, h2]
theorem are_free_ok (h : TF T) {M : Int} (hM : 0 < M) {d : D} {L : List IJ} (hd : Seq S d (L.map (jv M))) (hL : ∀ x ∈ L, pos x) (hl : L.length ≤ 30) : ∃ S', call T w (k + 5) "are_free" [d] S = .ok (.bl true) S' ∧ Ext S S' := by
  have : (call T w (k + 5) "are_free" [d] S).post fun v S' => v = .bl true ∧ Ext S S' := by
    refine call_post' h.are_free [some d, none] rfl rfl ?_
    generalize hQ : (fun v S' => v = D.bl true ∧ Ext S S') = Q
    have hQ' : ∀ S', Ext S S' → Q (.bl true) S' := by subst hQ; exact fun S' e => ⟨rfl, e⟩
    clear hQ
    unfold c_are_free
    refine cons_post ?_
    have c1 := is_list_ok (T := T) (w := w) (k := k + 3) (S := S) h.toTJ hd
    have hl' : (L.length : Int) ≤ 30 := by omega
    obtain ⟨chk, hs, hok⟩ := hd.it
    have key := lc_cps (P := (PA T w (k + 4)).toPar) (g := .nm 1) (it := .seq (.var 0)) (vs := [1]) (elt := .call "is_job" (.cons false (.var 1) .nil)) (ρ := [some d, none]) (S := S) (Q := fun v S2 => ∃ n ys, v = .ref n ∧ S2[n]? = some (.lst ys) ∧ (∀ y ∈ ys, y = .bl true) ∧ Ext S S2) (fun xs acc S' => ∃ rest : List IJ, xs = rest.map (jv M) ∧ (∀ x ∈ rest, pos x) ∧ (∀ y ∈ acc, y = .bl true) ∧ Ext S S') ⟨chk, L.map (jv M)⟩ S (hd.nd rfl) (evI_seq (by rfl) hs) ⟨L, rfl, hL, by simp, Ext.refl S⟩ (by simp; omega) (fun _ _ S' ⟨_, _, _, _, e⟩ => hok _ _ e) ?_ ?_
    · obtain ⟨v, S2, e, n, ys, rfl, g, hy, x⟩ := key.get
      obtain ⟨bs, e1, e2⟩ := all_true hy
      rw [exS_ret, Res.post_rs]
      generalize CE.lc (.nm 1) (.seq (.var 0)) .nil [1] (.call "is_job" (.cons false (.var 1) .nil)) = lc at e ⊢
      have e' : ((evB (PA T w (k + 4)).toPar lc).v [some d, none] S) = .ok (.ref n) S2 := e
      simp [exS_asg, exS_expr, exS_ret, exS_ife, evE, evT, evB, evEs, evAnd, evOr, evAny, evAll, evIfs, evO, Ev.of, startR, Res.of, truR, truD, asgT, asgTs, newT, newL, newR, ixD, ixL, atD, ixN', binD, cmpD, cmpO, biD, bi1, bi2, seqD, intD, negD, Res.post_ok, Res.post_bind, Res.post_rs, Res.post_nox, RS.post_fl, c1, hd.len, h.most, hl', e', lstAt, g, e1, e2]
      exact hQ' _ x
    · rintro v xs acc S' ⟨rest, e1, hp, hy, e⟩
      obtain ⟨x, rest', rfl, rfl, rfl⟩ : ∃ x rest', rest = x :: rest' ∧ v = jv M x ∧ xs = rest'.map (jv M) := by
        cases rest with
        | nil => simp at e1
        | cons x rest' => simp at e1; exact ⟨x, rest', rfl, e1.1, e1.2⟩
      obtain ⟨S3, e3, x3⟩ := is_job_ok (T := T) (w := w) (k := k) (S := S') h.toTJ hM (hp x (by simp))
      refine ⟨[some d, some (jv M x)], by rfl, fun Q' hQ2 => ?_⟩
      simp [exS_asg, exS_expr, exS_ret, exS_ife, evE, evT, evB, evEs, evAnd, evOr, evAny, evAll, evIfs, evO, Ev.of, startR, Res.of, truR, truD, asgT, asgTs, newT, newL, newR, ixD, ixL, atD, ixN', binD, cmpD, cmpO, biD, bi1, bi2, seqD, intD, negD, Res.post_ok, Res.post_bind, Res.post_rs, Res.post_nox, RS.post_fl, e3]
      refine hQ2 _ _ ⟨rest', rfl, fun x hx => hp x (by simp [hx]), ?_, e.trans x3⟩
      intro y hy'
      rcases List.mem_append.mp hy' with hy' | hy'
      · exact hy y hy'
      · simpa using hy'
    · rintro ys S' S2 n ⟨_, _, _, hy, e⟩ e2 g _
      exact ⟨n, ys, rfl, g, hy, e.trans e2⟩
  obtain ⟨v, S', e, rfl, x⟩ := this.get
  exact ⟨S', e, x⟩
theorem check_jobs_ok (h : TF T) {M : Int} (hM : 0 < M) {d : D} {L : List IJ} (hd : Seq S d (L.map (jv M))) (hL : ∀ x ∈ L, pos x) (hl : L.length ≤ 30) : ∃ S', call T w (k + 6) "check_jobs" [d] S = .ok .non S' ∧ Ext S S' := by
  obtain ⟨S', e, x⟩ := are_free_ok (T := T) (w := w) (k := k) (S := S) h hM hd hL hl
  refine ⟨S', ?_, x⟩
  rw [call_eq h.check_jobs rfl]
  simp [runD, exB, exS, evE, evT, evB, evEs, evAnd, evOr, evAny, evAll, evIfs, evO, Ev.of, startR, Res.of, truR, truD, asgT, asgTs, newT, newL, newR, ixD, ixL, atD, ixN', binD, cmpD, cmpO, biD, bi1, bi2, seqD, intD, Res.bind, Res.rs, RS.seq, Res.nox, c_check_jobs, e]
theorem enumFrom_cons {n : Nat} {v : D} {xs : List D} {rest : List IJ} {M : Int} (h : v :: xs = enumFrom n (rest.map (jv M))) : ∃ x rest', rest = x :: rest' ∧ v = .tup [.int n, jv M x] ∧ xs = enumFrom (n + 1) (rest'.map (jv M)) := by
  cases rest with
  | nil => simp [enumFrom] at h
  | cons x rest' => simp [enumFrom] at h; exact ⟨x, rest', rfl, h.1, h.2⟩
theorem map_cons {v : D} {xs : List D} {rest : List IJ} {M : Int} (h : v :: xs = rest.map (jv M)) : ∃ x rest', rest = x :: rest' ∧ v = jv M x ∧ xs = rest'.map (jv M) := by
  cases rest with
  | nil => simp at h
  | cons x rest' => simp at h; exact ⟨x, rest', rfl, h.1, h.2⟩
theorem mn_le {M : Int} {x y : IJ} (hM : 0 < M) (hx : okJob M x) (hy : okJob M y) : 0 ≤ mn x y ∧ mn x y ≤ (14 * M) * (14 * M) := by
  have a1 : x.1 * y.2 ≤ (14 * M) * (14 * M) := Int.mul_le_mul hx.l1 hy.l2 hy.p.2.1 (by omega)
  have b1 := Int.mul_nonneg hx.p.1 hy.p.2.1
  have b2 := Int.mul_nonneg hy.p.1 hx.p.2.1
  unfold mn; omega
theorem free_of_ok (h : TF T) {M : Int} (hM : SmM M) {d : D} {L : List IJ} (hd : Seq S d (L.map (jv M))) (hL : ∀ x ∈ L, okJob M x) (hl : L.length ≤ 30) : ∃ S', call T w (k + 4) "free_of" [d] S = .ok (fr (PW L) (M * M)) S' ∧ Ext S S' := by
  have hMp := hM.pos
  have hMM := Int.mul_pos hMp hMp
  have sMM : Sm (M * M) := hM.s1.mul hM.s1
  have hK : G.S1 (14 * M) := hM.sm
  have : (call T w (k + 4) "free_of" [d] S).post fun v S' => v = fr (PW L) (M * M) ∧ Ext S S' := by
    refine call_post' h.free_of [some d, none, none, none, none] rfl rfl ?_
    generalize hQ : (fun v S' => v = fr (PW L) (M * M) ∧ Ext S S') = Q
    have hQ' : ∀ S', Ext S S' → Q (fr (PW L) (M * M)) S' := by subst hQ; exact fun S' e => ⟨rfl, e⟩
    clear hQ
    unfold c_free_of
    refine cons_post ?_
    unfold s_free_of_1
    simp [exS_asg, exS_expr, exS_ret, exS_ife, evE, evT, evB, evEs, evAnd, evOr, evAny, evAll, evIfs, evO, Ev.of, startR, Res.of_some, truR, truD, asgT, asgTs, newT, ixD, ixL, atD, ixN', binD, cmpD, cmpO, biD, bi1, bi2, seqD, intD, negD, Res.post_ok, Res.post_bind, Res.post_rs, Res.post_nox, RS.post_fl, h.zero]
    refine thn_next (cons_post ?_)
    unfold s_free_of_2
    obtain ⟨chk, hs, hok⟩ := hd.it'
    refine for_cps (fun xs ρ S' => ∃ (dn rest : List IJ) (x2 x3 x4 : Option D), L = dn ++ rest ∧ xs = enumFrom dn.length (rest.map (jv M)) ∧ ρ = [some d, some (fr (PW dn) (M * M)), x2, x3, x4] ∧ Ext S S' ∧ 0 ≤ PW dn ∧ PW dn ≤ ((dn.length * 100 : Nat) : Int) * ((14 * M) * (14 * M))) ⟨chk, enumFrom 0 (L.map (jv M))⟩ S (evI_enum (by rfl) hs) ⟨[], L, none, none, none, rfl, rfl, by rw [fr_zero hMM]; rfl, Ext.refl S, by simp [PW], by simp [PW]⟩ ?_ ?_ ?_
    · rintro xs ρ S' ⟨_, _, _, _, _, _, _, _, e, _⟩
      exact hok _ _ e
    · rintro v xs ρ S' ⟨dn, rest, x2, x3, x4, rfl, e1, rfl, e, t0, t1⟩
      obtain ⟨x, rest', rfl, rfl, rfl⟩ := enumFrom_cons e1
      have ox := hL x (by simp)
      refine ⟨[some d, some (fr (PW dn) (M * M)), some (.int dn.length), some (jv M x), x4], by rfl, fun Q' hQ2 => ?_⟩
      simp at hl
      have st : Sm (PW dn) := sm_pow (sm_many2 t0 t1 (by omega) hK) (by decide)
      have sx1 : Sm (x.1 * x.2) := (ox.s1 hM).mul (ox.s2 hM)
      have c1 := multiply_eq (T := T) (w := w) (k := k + 1) (S := S') h.multiply h.reduced hMp hMp (ox.s1 hM).sm (ox.s2 hM).sm hM.s1.sm hM.s1.sm
      have c2 := add_eq (T := T) (w := w) (k := k + 1) (S := S') h.add h.reduced hMM hMM st sx1 sMM sMM
      rw [fr_sum hMM] at c2
      refine cons_post ?_
      unfold s_free_of_2_1
      simp [exS_asg, exS_expr, exS_ret, exS_ife, evE, evT, evB, evEs, evAnd, evOr, evAny, evAll, evIfs, evO, Ev.of, startR, Res.of_some, truR, truD, asgT, asgTs, newT, ixD, ixL, atD, ixN', binD, cmpD, cmpO, biD, bi1, bi2, seqD, intD, negD, Res.post_ok, Res.post_bind, Res.post_rs, Res.post_nox, RS.post_fl, jv, jb, c1, c2]
      refine thn_next (cons_post ?_)
      unfold s_free_of_2_2
      obtain ⟨d2, S2, sl, e2, hd2⟩ := (hd.ext e).sl (n := dn.length) (by simp <;> omega) (by simp <;> omega)
      have ht : ((dn ++ x :: rest').map (jv M)).take dn.length = dn.map (jv M) := by simp
      rw [ht] at hd2
      obtain ⟨chk2, hs2, hok2⟩ := hd2.it
      have p0 : 0 ≤ x.1 * x.2 := Int.mul_nonneg ox.p.1 ox.p.2.1
      have p1 : x.1 * x.2 ≤ (14 * M) * (14 * M) := Int.mul_le_mul ox.l1 ox.l2 ox.p.2.1 (by omega)
      refine for_cps (fun xs ρ S' => ∃ (rs : List IJ) (i : Nat) (t : Int) (x4 : Option D), xs = rs.map (jv M) ∧ i + rs.length = dn.length + 1 ∧ (∀ y ∈ rs, okJob M y) ∧ ρ = [some d, some (fr t (M * M)), some (.int dn.length), some (jv M x), x4] ∧ Ext S2 S' ∧ t + cross x rs = PW dn + x.1 * x.2 + cross x dn ∧ 0 ≤ t ∧ t ≤ ((dn.length * 100 + i : Nat) : Int) * ((14 * M) * (14 * M))) ⟨chk2, dn.map (jv M)⟩ S2 (evI_seq (by simp [runD, exB, exS, evE, evT, evB, evEs, evAnd, evOr, evAny, evAll, evIfs, evO, Ev.of, startR, Res.of, truR, truD, asgT, asgTs, newT, newL, newR, ixD, ixL, atD, ixN', binD, cmpD, cmpO, biD, bi1, bi2, seqD, intD, Res.bind, Res.rs, RS.seq, Res.nox, sl]) hs2) ⟨dn, 1, PW dn + x.1 * x.2, x4, rfl, by omega, fun y hy => hL y (by simp [hy]), rfl, Ext.refl S2, by omega, by omega, ?_⟩ ?_ ?_ ?_
      · generalize (14 * M) * (14 * M) = KK at *
        have a4 : ((dn.length * 100 + 1 : Nat) : Int) * KK = ((dn.length * 100 : Nat) : Int) * KK + 1 * KK := by
          rw [← Int.add_mul]; congr 1
        omega
      · rintro xs ρ S3 ⟨_, _, _, _, _, _, _, _, e3, _⟩
        exact hok2 _ _ e3
      · rintro v xs ρ S3 ⟨rs, i, t, x4, e3, hi, hk, rfl, e4, ht, t0, t1⟩
        obtain ⟨y, rs', rfl, rfl, rfl⟩ := map_cons e3
        simp only [List.length_cons] at hi
        have oy := hk y (by simp)
        have m1 := mn_le hMp ox oy
        have st : Sm t := sm_pow (sm_many2 t0 t1 (by omega) hK) (by decide)
        have sm : Sm (mn x y) := sm_pow (sm_many2 (c := 1) m1.1 (by simpa using m1.2) (by decide) hK) (by decide)
        have c1 := pair_of_fr (T := T) (w := w) (k := k) (S := S3) h.toTP hMp hM.s1 (ox.s1 hM) (ox.s2 hM) (oy.s1 hM) (oy.s2 hM)
        have c2 := add_eq (T := T) (w := w) (k := k + 1) (S := S3) h.add h.reduced hMM hMM st sm sMM sMM
        rw [fr_sum hMM] at c2
        have c1' : call T w (k + 3) "pair_of" [jv M x, jv M y] S3 = .ok (fr (mn x y) (M * M)) S3 := c1
        refine ⟨[some d, some (fr t (M * M)), some (.int dn.length), some (jv M x), some (jv M y)], by rfl, fun Q3 hQ3 => ?_⟩
        refine cons_post ?_
        unfold s_free_of_2_2_1
        simp [exS_asg, exS_expr, exS_ret, exS_ife, evE, evT, evB, evEs, evAnd, evOr, evAny, evAll, evIfs, evO, Ev.of, startR, Res.of_some, truR, truD, asgT, asgTs, newT, ixD, ixL, atD, ixN', binD, cmpD, cmpO, biD, bi1, bi2, seqD, intD, negD, Res.post_ok, Res.post_bind, Res.post_rs, Res.post_nox, RS.post_fl, c1', c2]
        refine thn_next (nil_post (hQ3 _ _ ⟨rs', i + 1, t + mn x y, _, rfl, by omega, fun z hz => hk z (by simp [hz]), rfl, e4, ?_, by omega, ?_⟩))
        · simp only [cross] at ht; omega
        · generalize (14 * M) * (14 * M) = KK at *
          have a4 : ((dn.length * 100 + (i + 1) : Nat) : Int) * KK = ((dn.length * 100 + i : Nat) : Int) * KK + 1 * KK := by
            rw [← Int.add_mul]; congr 1
          omega
      · rintro ρ S3 ⟨rs, i, t, x4, e3, hi, hk, rfl, e4, ht, t0, t1⟩
        have : rs = [] := by simpa using e3.symm
        subst this
        simp only [cross] at ht
        simp only [List.length_nil] at hi
        have et : t = PW (dn ++ [x]) := by rw [PW_snoc]; omega
        refine thn_next (nil_post (hQ2 _ _ ⟨dn ++ [x], rest', _, _, _, by simp, by simp, by rw [et], (e.trans e2).trans e4, by omega, ?_⟩))
        rw [← et]
        have kk : 0 ≤ (14 * M) * (14 * M) := Int.mul_nonneg (by omega) (by omega)
        generalize (14 * M) * (14 * M) = KK at *
        have a3 : ((dn.length * 100 + i : Nat) : Int) * KK ≤ (((dn ++ [x]).length * 100 : Nat) : Int) * KK := Int.mul_le_mul_of_nonneg_right (by simp; omega) kk
        omega
    · rintro ρ S' ⟨dn, rest, x2, x3, x4, rfl, e1, rfl, e, t0, t1⟩
      have : rest = [] := by
        cases rest with
        | nil => rfl
        | cons _ _ => simp [enumFrom] at e1
      subst this
      refine thn_next (cons_post ?_)
      unfold s_free_of_3
      simp [exS_asg, exS_expr, exS_ret, exS_ife, evE, evT, evB, evEs, evAnd, evOr, evAny, evAll, evIfs, evO, Ev.of, startR, Res.of_some, truR, truD, asgT, asgTs, newT, ixD, ixL, atD, ixN', binD, cmpD, cmpO, biD, bi1, bi2, seqD, intD, negD, Res.post_ok, Res.post_bind, Res.post_rs, Res.post_nox, RS.post_fl]
      have := hQ' _ e
      rw [thn_ret, back_ret]
      simpa using this
  obtain ⟨v, S', e, rfl, x⟩ := this.get
  exact ⟨S', e, x⟩
theorem free_wait_ok (h : TF T) {M : Int} (hM : SmM M) {d : D} {L : List IJ} (hd : Seq S d (L.map (jv M))) (hL : ∀ x ∈ L, okJob M x) (hl : L.length ≤ 30) : ∃ S', call T w (k + 7) "free_wait" [d] S = .ok (fr (PW L) (M * M)) S' ∧ Ext S S' := by
  obtain ⟨S1, e1, x1⟩ := check_jobs_ok (T := T) (w := w) (k := k) (S := S) h hM.pos hd (fun x hx => (hL x hx).p) hl
  obtain ⟨S2, e2, x2⟩ := free_of_ok (T := T) (w := w) (k := k + 2) (S := S1) h hM (hd.ext x1) hL hl
  refine ⟨S2, ?_, x1.trans x2⟩
  rw [call_eq h.free_wait rfl]
  simp [runD, exB, exS, evE, evT, evB, evEs, evAnd, evOr, evAny, evAll, evIfs, evO, Ev.of, startR, Res.of, truR, truD, asgT, asgTs, newT, newL, newR, ixD, ixL, atD, ixN', binD, cmpD, cmpO, biD, bi1, bi2, seqD, intD, Res.bind, Res.rs, RS.seq, Res.nox, c_free_wait, e1, e2]
theorem pair_wait_ok (h : TF T) {M : Int} (hM : SmM M) {x y : IJ} (hx : okJob M x) (hy : okJob M y) : ∃ S', call T w (k + 5) "pair_wait" [jv M x, jv M y] S = .ok (fr (mn x y) (M * M)) S' ∧ Ext S S' := by
  obtain ⟨S1, e1, x1⟩ := is_job_ok (T := T) (w := w) (k := k) (S := S) h.toTJ hM.pos hx.p
  obtain ⟨S2, e2, x2⟩ := is_job_ok (T := T) (w := w) (k := k) (S := S1) h.toTJ hM.pos hy.p
  have e3 := pair_of_fr (T := T) (w := w) (k := k + 1) (S := S2) h.toTP hM.pos hM.s1 (hx.s1 hM) (hx.s2 hM) (hy.s1 hM) (hy.s2 hM)
  have e3' : call T w (k + 4) "pair_of" [jv M x, jv M y] S2 = .ok (fr (mn x y) (M * M)) S2 := e3
  refine ⟨S2, ?_, x1.trans x2⟩
  rw [call_eq h.pair_wait rfl]
  simp [runD, exB, exS, evE, evT, evB, evEs, evAnd, evOr, evAny, evAll, evIfs, evO, Ev.of, startR, Res.of, truR, truD, asgT, asgTs, newT, newL, newR, ixD, ixL, atD, ixN', binD, cmpD, cmpO, biD, bi1, bi2, seqD, intD, Res.bind, Res.rs, RS.seq, Res.nox, c_pair_wait, s_pair_wait_1, s_pair_wait_1_1, s_pair_wait_1_1_1, s_pair_wait_2, evI, seqIt, forL, It.ok, asgP, e1, e2, e3']
end G

end

section
set_option Elab.async false
set_option linter.all false
set_option maxHeartbeats 0
set_option maxRecDepth 100000
set_option exponentiation.threshold 10000
/-! K9: values as trees; the law's same, copy, kept. -/
namespace G
open PySem
variable {T : Tbl} {w k : Nat} {S : Sto}
inductive V where
  | non | bl (b : Bool) | int (i : Int) | str (s : Str) | tup (l : List V) | lst (l : List V) | dct
  deriving Inhabited
mutual
def Rep (S : Sto) : V → D → Prop
  | .non, d => d = .non
  | .bl b, d => d = .bl b
  | .int i, d => d = .int i
  | .str s, d => d = .str s
  | .tup l, d => ∃ ds, d = .tup ds ∧ Reps S l ds
  | .lst l, d => ∃ n ds, d = .ref n ∧ S[n]? = some (.lst ds) ∧ Reps S l ds
  | .dct, d => ∃ n, d = .ref n ∧ S[n]? = some (.dK [])
def Reps (S : Sto) : List V → List D → Prop
  | [], ds => ds = []
  | v :: l, ds => ∃ d ds', ds = d :: ds' ∧ Rep S v d ∧ Reps S l ds'
end
mutual
theorem Rep.ext {S S' : Sto} (e : Ext S S') : ∀ (v : V) {d : D}, Rep S v d → Rep S' v d
  | .non, _, h => h
  | .bl _, _, h => h
  | .int _, _, h => h
  | .str _, _, h => h
  | .tup l, _, h => by
    obtain ⟨ds, e1, h1⟩ := h
    exact ⟨ds, e1, Reps.ext e l h1⟩
  | .lst l, _, h => by
    obtain ⟨n, ds, e1, e2, h1⟩ := h
    exact ⟨n, ds, e1, e _ _ e2, Reps.ext e l h1⟩
  | .dct, _, h => by
    obtain ⟨n, e1, e2⟩ := h
    exact ⟨n, e1, e _ _ e2⟩
theorem Reps.ext {S S' : Sto} (e : Ext S S') : ∀ (l : List V) {ds : List D}, Reps S l ds → Reps S' l ds
  | [], _, h => h
  | v :: l, _, h => by
    obtain ⟨d, ds', e1, h1, h2⟩ := h
    exact ⟨d, ds', e1, Rep.ext e v h1, Reps.ext e l h2⟩
end
theorem Reps.len : ∀ {l : List V} {ds : List D}, Reps S l ds → ds.length = l.length
  | [], _, h => by rw [h]; rfl
  | v :: l, _, h => by
    obtain ⟨d, ds', rfl, _, h2⟩ := h
    simp [Reps.len h2]
theorem Reps.get : ∀ {l : List V} {ds : List D}, Reps S l ds → ∀ {i : Nat} {v : V}, l[i]? = some v → ∃ d, ds[i]? = some d ∧ Rep S v d
  | [], _, h, i, v, hv => by simp at hv
  | u :: l, _, h, i, v, hv => by
    obtain ⟨d, ds', rfl, h1, h2⟩ := h
    cases i with
    | zero => simp at hv; subst hv; exact ⟨d, rfl, h1⟩
    | succ i => simp at hv ⊢; exact h2.get hv
theorem Reps.app : ∀ {l l' : List V} {ds ds' : List D}, Reps S l ds → Reps S l' ds' → Reps S (l ++ l') (ds ++ ds')
  | [], _, _, _, h, h' => by rw [h]; exact h'
  | v :: l, _, _, _, h, h' => by
    obtain ⟨d, ds', rfl, h1, h2⟩ := h
    exact ⟨d, _, rfl, h1, h2.app h'⟩
mutual
def V.h : V → Nat
  | .tup l => V.hs l + 1
  | .lst l => V.hs l + 1
  | _ => 0
def V.hs : List V → Nat
  | [] => 0
  | v :: l => max v.h (V.hs l)
end
/-- the texts that stand in the values -/
abbrev okStr (s : Str) : Prop := s = "job" ∨ s = "jobs" ∨ s = "more"
mutual
def V.ok : V → Prop
  | .str s => okStr s
  | .tup l => V.oks l ∧ l.length ≤ 1000
  | .lst l => V.oks l ∧ l.length ≤ 1000
  | _ => True
def V.oks : List V → Prop
  | [] => True
  | v :: l => v.ok ∧ V.oks l
end
structure TS (T : Tbl) : Prop where
  same : T.defs "_law_same" = some c__law_same
  copy : T.defs "_law_copy" = some c__law_copy
  kept : T.defs "_law_kept" = some c__law_kept
theorem Seq.ix {d : D} {xs : List D} (h : Seq S d xs) {i : Nat} {x : D} (hx : xs[i]? = some x) : ixD d (.int i) S = some (x, S) := by
  have hi := (List.getElem?_eq_some_iff.mp hx).1
  have e : ixL xs (.int i) S = some (x, S) := by
    simp [ixL, atD, ixN', hi]
    have := (List.getElem?_eq_some_iff.mp hx).2
    exact this
  rcases h with rfl | ⟨j, rfl, h2⟩
  · exact e
  · simp [ixD, h2, e]
theorem eqD_nil {n m : Nat} (h1 : S[n]? = some (.lst [])) (h2 : S[m]? = some (.lst [])) : eqD S (.ref n) (.ref m) = some true := by
  simp [eqD, datD, h1, h2, mapO]
  decide
/-- no item passes the test -/
theorem lc_none {P : Par} {g : CP} {it : CI} {ifs : CEs} {vs : List Nat} {elt : CE} {ρ : Rho} {S S1 : Sto} {J : It} (hd : dictAt it ρ S = none) (hi : evI P it ρ S = .ok J S1) (hl : J.items.length < 16000000) (hJ : ∀ S', Ext S1 S' → J.ok S' = true)
    (hs : ∀ x ∈ J.items, ∀ S', Ext S1 S' → ∃ ρ1 S2, asgP S' g x (wipeR ρ vs) = some ρ1 ∧ evIfs P ifs ρ1 S' = .ok false S2 ∧ Ext S' S2) : ∃ n S', (evB P (.lc g it ifs vs elt)).v ρ S = .ok (.ref n) S' ∧ S'[n]? = some (.lst []) ∧ Ext S1 S' := by
  have := lc_post (P := P) (g := g) (it := it) (ifs := ifs) (vs := vs) (elt := elt) (ρ := ρ) (S := S) (Q := fun v S' => ∃ n, v = .ref n ∧ S'[n]? = some (.lst []) ∧ Ext S1 S') (fun xs acc S' => (∀ x ∈ xs, x ∈ J.items) ∧ acc = [] ∧ Ext S1 S') J S1 hd hi ⟨fun _ h => h, rfl, Ext.refl _⟩ hl (fun xs acc S' h => hJ S' h.2.2) ?_ ?_
  · obtain ⟨v, S', e, n, rfl, g1, x1⟩ := this.get
    exact ⟨n, S', e, g1, x1⟩
  · rintro x xs acc S' ⟨h1, rfl, h3⟩
    obtain ⟨ρ1, S2, e1, e2, e3⟩ := hs x (h1 x (by simp)) S' h3
    refine ⟨ρ1, e1, Res.post.of e2 ?_⟩
    simp
    exact ⟨fun y hy => h1 y (by simp [hy]), h3.trans e3⟩
  · rintro ys S' ⟨_, rfl, h3⟩
    exact ⟨S'.length, rfl, getE, h3.trans (Ext.app _ _)⟩
theorem eqD_bl {a b : Bool} : eqD S (.bl a) (.bl b) = some (decide (a = b)) := by
  show (if SeqAt.shaped (PyData.bool a) && SeqAt.shaped (PyData.bool b) then some (PyData.eqv (.bool a) (.bool b)) else none) = _
  cases a <;> cases b <;> rfl
/-- two sequences of one kind -/
def Kin (S : Sto) (d1 d2 : D) (xs ys : List D) : Prop := (d1 = .tup xs ∧ d2 = .tup ys) ∨ ∃ m n, d1 = .ref m ∧ d2 = .ref n ∧ S[m]? = some (.lst xs) ∧ S[n]? = some (.lst ys)
theorem Kin.l {d1 d2 : D} {xs ys : List D} (h : Kin S d1 d2 xs ys) : Seq S d1 xs := by
  rcases h with ⟨h, _⟩ | ⟨m, n, h1, h2, h3, h4⟩
  · exact .inl h
  · exact .inr ⟨m, h1, h3⟩
theorem Kin.r {d1 d2 : D} {xs ys : List D} (h : Kin S d1 d2 xs ys) : Seq S d2 ys := by
  rcases h with ⟨_, h⟩ | ⟨m, n, h1, h2, h3, h4⟩
  · exact .inl h
  · exact .inr ⟨n, h2, h4⟩
theorem same_core (h : TS T) {d1 d2 : D} {t : String} {n : Nat} (hI : isD d2 .non = some false) (t1 : tyD S d1 = some t) (t2 : tyD S d2 = some t) (ht : t = "tuple" ∨ t = "list" ∨ t = "dict") (hlen1 : lenD S d1 = some n) (hlen2 : lenD S d2 = some n) (hn : n ≤ 1000) (hs : ∀ i : Nat, i < n → ∀ S', Ext S S' → ∃ x y S2, ixD d1 (.int i) S' = some (x, S') ∧ ixD d2 (.int i) S' = some (y, S') ∧ call T w k "_law_same" [x, y] S' = .ok (.bl true) S2 ∧ Ext S' S2) : ∃ S', call T w (k + 1) "_law_same" [d1, d2] S = .ok (.bl true) S' ∧ Ext S S' := by
  obtain ⟨n', S1, e1, g1, x1⟩ := lc_none (P := (PA T w k).toPar) (g := .nm 2) (it := .rng1 (.bi "len" (.cons false (.var 1) .nil))) (ifs := .cons false (.not (.call "_law_same" (.cons false (.ix (.var 0) (.var 2)) (.cons false (.ix (.var 1) (.var 2)) .nil)))) .nil) (vs := [2]) (elt := .var 2) (ρ := [some d1, some d2, none]) (S := S) (S1 := S) (J := ⟨[], rngD 0 (n : Int)⟩) rfl (evI_rng1 (by simp [runD, exB, exS, evE, evT, evB, evEs, evAnd, evOr, evAny, evAll, evIfs, evO, Ev.of, startR, Res.of, truR, truD, asgT, asgTs, newT, newL, newR, ixD, ixL, atD, ixN', binD, cmpD, cmpO, biD, bi1, bi2, seqD, intD, Res.bind, Res.rs, RS.seq, Res.nox, hlen2]) (rngOk_of (by omega))) (by simp [rngD]; omega) (fun _ _ => rfl) (by
    intro v hv S' x'
    simp [rngD] at hv
    obtain ⟨i, hi, rfl⟩ := hv
    obtain ⟨x, y, S2, i1, i2, e2, x2⟩ := hs i hi S' x'
    refine ⟨[some d1, some d2, some (.int i)], S2, by rfl, ?_, x2⟩
    simp [evIfs, evB, evEs, Ev.of, Res.bind, truR, truD, Res.of, i1, i2, e2])
  obtain ⟨m, S2, e2, _, g2, x2⟩ := newL_get (S := S1) (xs := []) (by simp)
  have e3 := eqD_nil (x2 _ _ g1) g2
  refine ⟨S2, ?_, x1.trans x2⟩
  have key : (call T w (k + 1) "_law_same" [d1, d2] S).post fun v S' => v = .bl true ∧ S' = S2 := by
    refine call_post' h.same [some d1, some d2, none] rfl rfl ?_
    generalize hQ : (fun v S' => v = D.bl true ∧ S' = S2) = Q
    have hQ' : Q (.bl true) S2 := by subst hQ; exact ⟨rfl, rfl⟩
    clear hQ
    have tt : (t == "bool") = false ∧ (t == "int") = false ∧ (t == "str") = false := by
      rcases ht with rfl | rfl | rfl <;> decide
    unfold c__law_same
    refine cons_post ?_
    unfold s__law_same_1
    simp [exS_asg, exS_expr, exS_ret, exS_ife, evE, evT, evB, evEs, evAnd, evOr, evAny, evAll, evIfs, evO, Ev.of, startR, Res.of_some, truR, truD, asgT, asgTs, newT, ixD, ixL, atD, ixN', binD, cmpD, cmpO, biD, bi1, bi2, seqD, intD, negD, Res.post_ok, Res.post_bind, Res.post_rs, Res.post_nox, RS.post_fl, hI, t2, isTy]
    have nb : ¬ t = "bool" := by simpa using tt.1
    have ni : ¬ t = "int" := by simpa using tt.2.1
    have ns : ¬ t = "str" := by simpa using tt.2.2
    simp [exS_asg, exS_expr, exS_ret, exS_ife, evE, evT, evB, evEs, evAnd, evOr, evAny, evAll, evIfs, evO, Ev.of, startR, Res.of_some, truR, truD, asgT, asgTs, newT, ixD, ixL, atD, ixN', binD, cmpD, cmpO, biD, bi1, bi2, seqD, intD, negD, Res.post_ok, Res.post_bind, Res.post_rs, Res.post_nox, RS.post_fl, nb]
    refine nil_post (thn_next (cons_post ?_))
    unfold s__law_same_2
    simp [exS_asg, exS_expr, exS_ret, exS_ife, evE, evT, evB, evEs, evAnd, evOr, evAny, evAll, evIfs, evO, Ev.of, startR, Res.of_some, truR, truD, asgT, asgTs, newT, ixD, ixL, atD, ixN', binD, cmpD, cmpO, biD, bi1, bi2, seqD, intD, negD, Res.post_ok, Res.post_bind, Res.post_rs, Res.post_nox, RS.post_fl, t2, isTy, ni, nb]
    refine nil_post (thn_next (cons_post ?_))
    unfold s__law_same_3
    simp [exS_asg, exS_expr, exS_ret, exS_ife, evE, evT, evB, evEs, evAnd, evOr, evAny, evAll, evIfs, evO, Ev.of, startR, Res.of_some, truR, truD, asgT, asgTs, newT, ixD, ixL, atD, ixN', binD, cmpD, cmpO, biD, bi1, bi2, seqD, intD, negD, Res.post_ok, Res.post_bind, Res.post_rs, Res.post_nox, RS.post_fl, t2, isTy, ns, nb]
    refine nil_post (thn_next (cons_post ?_))
    unfold s__law_same_4
    simp [exS_asg, exS_expr, exS_ret, exS_ife, evE, evT, evB, evEs, evAnd, evOr, evAny, evAll, evIfs, evO, Ev.of, startR, Res.of_some, truR, truD, asgT, asgTs, newT, ixD, ixL, atD, ixN', binD, cmpD, cmpO, biD, bi1, bi2, seqD, intD, negD, Res.post_ok, Res.post_bind, Res.post_rs, Res.post_nox, RS.post_fl, t1, t2, isTy, nb, eqD_bl]
    refine nil_post (thn_next (cons_post ?_))
    unfold s__law_same_5
    generalize CE.lc _ _ _ _ _ = lc at e1 ⊢
    have e1' : (evB (PA T w k).toPar lc).v [some d1, some d2, none] S = .ok (.ref n') S1 := e1
    simp [exS_asg, exS_expr, exS_ret, exS_ife, evE, evT, evB, evEs, evAnd, evOr, evAny, evAll, evIfs, evO, Ev.of, startR, Res.of_some, truR, truD, asgT, asgTs, newT, ixD, ixL, atD, ixN', binD, cmpD, cmpO, biD, bi1, bi2, seqD, intD, negD, Res.post_ok, Res.post_bind, Res.post_rs, Res.post_nox, RS.post_fl, hlen1, hlen2, eqD_int, e1', e2, e3, thn_ret, back_ret]
    exact hQ'
  obtain ⟨v, S', e, hv, hS⟩ := key.get
  rw [hv, hS] at e
  exact e
theorem same_seq (h : TS T) {d1 d2 : D} {xs ys : List D} (hk : Kin S d1 d2 xs ys) (hl : xs.length = ys.length) (hn : ys.length ≤ 1000) (hs : ∀ (i : Nat) (x y : D), xs[i]? = some x → ys[i]? = some y → ∀ S', Ext S S' → ∃ S2, call T w k "_law_same" [x, y] S' = .ok (.bl true) S2 ∧ Ext S' S2) : ∃ S', call T w (k + 1) "_law_same" [d1, d2] S = .ok (.bl true) S' ∧ Ext S S' := by
  have hD : ∃ t, tyD S d1 = some t ∧ tyD S d2 = some t ∧ (t = "tuple" ∨ t = "list" ∨ t = "dict") := by
    rcases hk with ⟨rfl, rfl⟩ | ⟨a, b, rfl, rfl, h3, h4⟩
    · exact ⟨"tuple", rfl, rfl, .inl rfl⟩
    · exact ⟨"list", by simp [tyD, h3], by simp [tyD, h4], .inr (.inl rfl)⟩
  have hI : isD d2 .non = some false := by
    rcases hk with ⟨rfl, rfl⟩ | ⟨a, b, rfl, rfl, h3, h4⟩ <;> rfl
  obtain ⟨t, t1, t2, ht⟩ := hD
  refine same_core h hI t1 t2 ht (by rw [hk.l.len, hl]) hk.r.len hn ?_
  intro i hi S' x'
  obtain ⟨y, ey⟩ : ∃ y, ys[i]? = some y := ⟨ys[i], by simp [hi]⟩
  obtain ⟨x, ex⟩ : ∃ x, xs[i]? = some x := ⟨xs[i]'(by omega), by simp [hl, hi]⟩
  obtain ⟨S2, e2, x2⟩ := hs i x y ex ey S' x'
  exact ⟨x, y, S2, (hk.l.ext x').ix ex, (hk.r.ext x').ix ey, e2, x2⟩
theorem eqD_str {s : Str} (h : SeqAt.shaped (PyData.str s) = true) : eqD S (.str s) (.str s) = some true := by
  show (if SeqAt.shaped (PyData.str s) && SeqAt.shaped (PyData.str s) then some (PyData.eqv (.str s) (.str s)) else none) = _
  rw [h]
  simp [PyData.eqv]
theorem shaped1 {c : Nat} (h : c < 0x110000) : SeqAt.shaped (PyData.str ⟨#[c]⟩) = true := by
  simp [SeqAt.shaped, PyData.canLay0, PyData.strOk, PyData.depth, h]
theorem str_turn {P : Par} {s : Str} {i : Int} {c : Nat} {S : Sto} (h1 : slD (.str s) (some i) (some (i + 1)) S = some (.str ⟨#[c]⟩, S)) (h2 : ixD (.str s) (.int i) S = some (.str ⟨#[c]⟩, S)) (hc : c < 0x110000) : evIfs P (.cons false (.cmp .NotEq (.sl (.var 0) (.some (.var 2)) (.some (.bin .Add (.var 2) (.cst (.int (1)))))) (.ix (.var 1) (.var 2))) .nil) [some (.str s), some (.str s), some (.int i)] S = .ok false S := by
  have e := eqD_str (S := S) (shaped1 hc)
  simp only [evIfs, evB, evO, Ev.of, Res.bind, truR, truD, Res.of, binD, cmpD, cmpO, intD]
  simp [Res.bind, h1, h2, e]
theorem same_str (h : TS T) {s : Str} (hs : okStr s) : ∃ S', call T w (k + 1) "_law_same" [.str s, .str s] S = .ok (.bl true) S' ∧ Ext S S' := by
  have hlen : lenD S (.str s) = some s.length := by rcases hs with rfl | rfl | rfl <;> rfl
  have hsm : s.length < 10 := by rcases hs with rfl | rfl | rfl <;> decide
  obtain ⟨n', S1, e1, g1, x1⟩ := lc_none (P := (PA T w k).toPar) (g := .nm 2) (it := .rng1 (.bi "len" (.cons false (.var 1) .nil))) (ifs := (.cons false (.cmp .NotEq (.sl (.var 0) (.some (.var 2)) (.some (.bin .Add (.var 2) (.cst (.int (1)))))) (.ix (.var 1) (.var 2))) .nil)) (vs := [2]) (elt := .var 2) (ρ := [some (.str s), some (.str s), none]) (S := S) (S1 := S) (J := ⟨[], rngD 0 (s.length : Int)⟩) rfl (evI_rng1 (by simp [runD, exB, exS, evE, evT, evB, evEs, evAnd, evOr, evAny, evAll, evIfs, evO, Ev.of, startR, Res.of, truR, truD, asgT, asgTs, newT, newL, newR, ixD, ixL, atD, ixN', binD, cmpD, cmpO, biD, bi1, bi2, seqD, intD, Res.bind, Res.rs, RS.seq, Res.nox, hlen]) (rngOk_of (by omega))) (by simp [rngD]; omega) (fun _ _ => rfl) (by
    intro v hv S' x'
    refine ⟨[some (.str s), some (.str s), some v], S', by rfl, ?_, Ext.refl _⟩
    clear hlen hsm
    rcases hs with rfl | rfl | rfl
    · have e : rngD 0 ((Str.length "job" : Nat) : Int) = [.int 0, .int 1, .int 2] := by rfl
      rw [e] at hv
      simp at hv
      rcases hv with rfl | rfl | rfl
      · exact str_turn (c := 106) rfl rfl (by decide)
      · exact str_turn (c := 111) rfl rfl (by decide)
      · exact str_turn (c := 98) rfl rfl (by decide)
    · have e : rngD 0 ((Str.length "jobs" : Nat) : Int) = [.int 0, .int 1, .int 2, .int 3] := by rfl
      rw [e] at hv
      simp at hv
      rcases hv with rfl | rfl | rfl | rfl
      · exact str_turn (c := 106) rfl rfl (by decide)
      · exact str_turn (c := 111) rfl rfl (by decide)
      · exact str_turn (c := 98) rfl rfl (by decide)
      · exact str_turn (c := 115) rfl rfl (by decide)
    · have e : rngD 0 ((Str.length "more" : Nat) : Int) = [.int 0, .int 1, .int 2, .int 3] := by rfl
      rw [e] at hv
      simp at hv
      rcases hv with rfl | rfl | rfl | rfl
      · exact str_turn (c := 109) rfl rfl (by decide)
      · exact str_turn (c := 111) rfl rfl (by decide)
      · exact str_turn (c := 114) rfl rfl (by decide)
      · exact str_turn (c := 101) rfl rfl (by decide))
  obtain ⟨m, S2, e2, _, g2, x2⟩ := newL_get (S := S1) (xs := []) (by simp)
  have e3 := eqD_nil (x2 _ _ g1) g2
  refine ⟨S2, ?_, x1.trans x2⟩
  have key : (call T w (k + 1) "_law_same" [.str s, .str s] S).post fun v S' => v = .bl true ∧ S' = S2 := by
    refine call_post' h.same [some (.str s), some (.str s), none] rfl rfl ?_
    generalize hQ : (fun v S' => v = D.bl true ∧ S' = S2) = Q
    have hQ' : Q (.bl true) S2 := by subst hQ; exact ⟨rfl, rfl⟩
    clear hQ
    unfold c__law_same
    refine cons_post ?_
    unfold s__law_same_1
    simp [exS_asg, exS_expr, exS_ret, exS_ife, evE, evT, evB, evEs, evAnd, evOr, evAny, evAll, evIfs, evO, Ev.of, startR, Res.of_some, truR, truD, asgT, asgTs, newT, ixD, ixL, atD, ixN', binD, cmpD, cmpO, biD, bi1, bi2, seqD, intD, negD, Res.post_ok, Res.post_bind, Res.post_rs, Res.post_nox, RS.post_fl, isD, tyD, isTy]
    refine nil_post (thn_next (cons_post ?_))
    unfold s__law_same_2
    simp [exS_asg, exS_expr, exS_ret, exS_ife, evE, evT, evB, evEs, evAnd, evOr, evAny, evAll, evIfs, evO, Ev.of, startR, Res.of_some, truR, truD, asgT, asgTs, newT, ixD, ixL, atD, ixN', binD, cmpD, cmpO, biD, bi1, bi2, seqD, intD, negD, Res.post_ok, Res.post_bind, Res.post_rs, Res.post_nox, RS.post_fl, tyD, isTy]
    refine nil_post (thn_next (cons_post ?_))
    unfold s__law_same_3
    simp [exS_asg, exS_expr, exS_ret, exS_ife, evE, evT, evB, evEs, evAnd, evOr, evAny, evAll, evIfs, evO, Ev.of, startR, Res.of_some, truR, truD, asgT, asgTs, newT, ixD, ixL, atD, ixN', binD, cmpD, cmpO, biD, bi1, bi2, seqD, intD, negD, Res.post_ok, Res.post_bind, Res.post_rs, Res.post_nox, RS.post_fl, tyD, isTy]
    refine cons_post ?_
    unfold s__law_same_3_1
    generalize CE.lc _ _ _ _ _ = lc at e1 ⊢
    have e1' : (evB (PA T w k).toPar lc).v [some (.str s), some (.str s), none] S = .ok (.ref n') S1 := e1
    simp [exS_asg, exS_expr, exS_ret, exS_ife, evE, evT, evB, evEs, evAnd, evOr, evAny, evAll, evIfs, evO, Ev.of, startR, Res.of_some, truR, truD, asgT, asgTs, newT, ixD, ixL, atD, ixN', binD, cmpD, cmpO, biD, bi1, bi2, seqD, intD, negD, Res.post_ok, Res.post_bind, Res.post_rs, Res.post_nox, RS.post_fl, tyD, isTy, hlen, eqD_int, e1', e2, e3, thn_ret, back_ret]
    exact hQ'
  obtain ⟨v, S', e, hv, hS⟩ := key.get
  rw [hv, hS] at e
  exact e
mutual
theorem same_ok (h : TS T) : ∀ (v : V) (k : Nat) (S : Sto) (d1 d2 : D), v.ok → v.h ≤ k → Rep S v d1 → Rep S v d2 → ∃ S', call T w (k + 1) "_law_same" [d1, d2] S = .ok (.bl true) S' ∧ Ext S S'
  | .non, k, S, d1, d2, _, _, h1, h2 => by
    rw [h1, h2]
    refine ⟨S, ?_, Ext.refl S⟩
    rw [call_eq h.same rfl]
    simp [runD, exB, exS, evE, evT, evB, evEs, evAnd, evOr, evAny, evAll, evIfs, evO, Ev.of, startR, Res.of, truR, truD, asgT, asgTs, newT, newL, newR, ixD, ixL, atD, ixN', binD, cmpD, cmpO, biD, bi1, bi2, seqD, intD, Res.bind, Res.rs, RS.seq, Res.nox, c__law_same, s__law_same_1, s__law_same_1_1, isD]
  | .bl b, k, S, d1, d2, _, _, h1, h2 => by
    rw [h1, h2]
    refine ⟨S, ?_, Ext.refl S⟩
    rw [call_eq h.same rfl]
    simp [runD, exB, exS, evE, evT, evB, evEs, evAnd, evOr, evAny, evAll, evIfs, evO, Ev.of, startR, Res.of, truR, truD, asgT, asgTs, newT, newL, newR, ixD, ixL, atD, ixN', binD, cmpD, cmpO, biD, bi1, bi2, seqD, intD, Res.bind, Res.rs, RS.seq, Res.nox, c__law_same, s__law_same_1, s__law_same_1_1, isD, tyD, isTy, eqD_bl]
  | .int i, k, S, d1, d2, _, _, h1, h2 => by
    rw [h1, h2]
    refine ⟨S, ?_, Ext.refl S⟩
    rw [call_eq h.same rfl]
    simp [runD, exB, exS, evE, evT, evB, evEs, evAnd, evOr, evAny, evAll, evIfs, evO, Ev.of, startR, Res.of, truR, truD, asgT, asgTs, newT, newL, newR, ixD, ixL, atD, ixN', binD, cmpD, cmpO, biD, bi1, bi2, seqD, intD, Res.bind, Res.rs, RS.seq, Res.nox, c__law_same, s__law_same_1, s__law_same_1_1, s__law_same_2, s__law_same_2_1, isD, tyD, isTy, eqD_int]
  | .str s, k, S, d1, d2, ho, _, h1, h2 => by
    rw [h1, h2]
    exact same_str h ho
  | .tup l, k, S, d1, d2, ho, hh, h1, h2 => by
    obtain ⟨xs, rfl, r1⟩ := h1
    obtain ⟨ys, rfl, r2⟩ := h2
    unfold V.h at hh
    unfold V.ok at ho
    obtain ⟨k, rfl⟩ : ∃ k', k = k' + 1 := ⟨k - 1, by omega⟩
    refine same_seq h (.inl ⟨rfl, rfl⟩) (by rw [r1.len, r2.len]) (by rw [r2.len]; exact ho.2) ?_
    intro i x y ex ey S' x'
    exact same_oks h l k S' xs ys ho.1 (by omega) (r1.ext x') (r2.ext x') i x y ex ey
  | .lst l, k, S, d1, d2, ho, hh, h1, h2 => by
    obtain ⟨n, xs, rfl, g1, r1⟩ := h1
    obtain ⟨m, ys, rfl, g2, r2⟩ := h2
    unfold V.h at hh
    unfold V.ok at ho
    obtain ⟨k, rfl⟩ : ∃ k', k = k' + 1 := ⟨k - 1, by omega⟩
    refine same_seq h (.inr ⟨n, m, rfl, rfl, g1, g2⟩) (by rw [r1.len, r2.len]) (by rw [r2.len]; exact ho.2) ?_
    intro i x y ex ey S' x'
    exact same_oks h l k S' xs ys ho.1 (by omega) (r1.ext x') (r2.ext x') i x y ex ey
  | .dct, k, S, d1, d2, _, _, h1, h2 => by
    obtain ⟨m, rfl, g1⟩ := h1
    obtain ⟨n, rfl, g2⟩ := h2
    exact same_core (t := "dict") (n := 0) h rfl (by simp [tyD, g1]) (by simp [tyD, g2]) (.inr (.inr rfl)) (by simp [lenD, g1]) (by simp [lenD, g2]) (by decide) (fun i hi => by omega)
theorem same_oks (h : TS T) : ∀ (l : List V) (k : Nat) (S : Sto) (xs ys : List D), V.oks l → V.hs l ≤ k → Reps S l xs → Reps S l ys → ∀ (i : Nat) (x y : D), xs[i]? = some x → ys[i]? = some y → ∃ S', call T w (k + 1) "_law_same" [x, y] S = .ok (.bl true) S' ∧ Ext S S'
  | [], k, S, xs, ys, _, _, h1, h2, i, x, y, ex, _ => by
    rw [h1] at ex; simp at ex
  | v :: l, k, S, xs, ys, ho, hh, h1, h2, i, x, y, ex, ey => by
    obtain ⟨d, ds, rfl, r1, r2⟩ := h1
    obtain ⟨d', ds', rfl, r3, r4⟩ := h2
    unfold V.hs at hh
    cases i with
    | zero =>
      simp at ex ey
      subst ex ey
      exact same_ok h v k S d d' ho.1 (by omega) r1 r3
    | succ i =>
      simp at ex ey
      exact same_oks h l k S ds ds' ho.2 (by omega) r2 r4 i x y ex ey
end
end G

end

section
set_option Elab.async false
set_option linter.all false
set_option maxHeartbeats 0
set_option maxRecDepth 100000
set_option exponentiation.threshold 10000
/-! K9b: the law's copy, kept. -/
namespace G
open PySem
variable {T : Tbl} {w k : Nat} {S : Sto}
/-- a list is a new one, made of what stood before -/
def Fresh (S : Sto) (v : V) (d' : D) (S' : Sto) : Prop := match v with
  | .lst l => ∃ n ds S0, d' = .ref n ∧ Ext S S0 ∧ S0.length ≤ n ∧ Reps S0 l ds ∧ Ext S0 S' ∧ S'[n]? = some (.lst ds)
  | _ => True
def CopyP (T : Tbl) (w k : Nat) (v : V) : Prop := ∀ (S : Sto) (d : D), Rep S v d → ∃ d' S', call T w k "_law_copy" [d] S = .ok d' S' ∧ Ext S S' ∧ Rep S' v d' ∧ Fresh S v d' S'
theorem copy_lc {l : List V} (hc : ∀ v ∈ l, CopyP T w k v) {d : D} {ds : List D} (hd : Seq S d ds) (hr : Reps S l ds) (hl : l.length ≤ 1000) : ∃ n ds' S0 S', (evB (PA T w k).toPar (.lc (.nm 1) (.seq (.var 0)) .nil [1] (.call "_law_copy" (.cons false (.var 1) .nil)))).v [some d, none, none] S = .ok (.ref n) S' ∧ Ext S S0 ∧ S0.length ≤ n ∧ Reps S0 l ds' ∧ Ext S0 S' ∧ S'[n]? = some (.lst ds') := by
  obtain ⟨chk, hs, hok⟩ := hd.it
  have := lc_cps (P := (PA T w k).toPar) (g := .nm 1) (it := .seq (.var 0)) (vs := [1]) (elt := .call "_law_copy" (.cons false (.var 1) .nil)) (ρ := [some d, none, none]) (S := S) (Q := fun v S' => ∃ n ds' S0, v = .ref n ∧ Ext S S0 ∧ S0.length ≤ n ∧ Reps S0 l ds' ∧ Ext S0 S' ∧ S'[n]? = some (.lst ds')) (fun xs acc S' => ∃ l1 l2 : List V, l = l1 ++ l2 ∧ Reps S l2 xs ∧ Reps S' l1 acc ∧ Ext S S') ⟨chk, ds⟩ S (hd.nd rfl) (evI_seq (by rfl) hs) ⟨[], l, rfl, hr, rfl, Ext.refl S⟩ (by have := hr.len; simp; omega) (fun _ _ S' ⟨_, _, _, _, _, e⟩ => hok _ _ e) ?_ ?_
  · obtain ⟨v, S', e, n, ds', S0, rfl, h1, h2, h3, h4, h5⟩ := this.get
    exact ⟨n, ds', S0, S', e, h1, h2, h3, h4, h5⟩
  · rintro x xs acc S' ⟨l1, l2, e0, r2, r1, x1⟩
    cases l2 with
    | nil => simp [Reps] at r2
    | cons v l2 =>
      obtain ⟨d0, ds0, e1, r3, r4⟩ := r2
      simp at e1
      obtain ⟨rfl, rfl⟩ := e1
      obtain ⟨d', S2, e2, x2, r5, _⟩ := hc v (by rw [e0]; simp) S' x (r3.ext x1 v)
      refine ⟨[some d, some x, none], by rfl, fun Q' hQ' => ?_⟩
      simp [exS_asg, exS_expr, exS_ret, exS_ife, evE, evT, evB, evEs, evAnd, evOr, evAny, evAll, evIfs, evO, Ev.of, startR, Res.of_some, truR, truD, asgT, asgTs, newT, ixD, ixL, atD, ixN', binD, cmpD, cmpO, biD, bi1, bi2, seqD, intD, negD, Res.post_ok, Res.post_bind, Res.post_rs, Res.post_nox, RS.post_fl, e2]
      exact hQ' _ _ ⟨l1 ++ [v], l2, by simp [e0], r4, (r1.ext x2 l1).app ⟨d', [], rfl, r5, rfl⟩, x1.trans x2⟩
  · rintro ys S' S2 n ⟨l1, l2, e0, r2, r1, x1⟩ x2 g hn
    cases l2 with
    | nil =>
      simp at e0; subst e0
      exact ⟨n, ys, S', rfl, x1, hn, r1, x2, g⟩
    | cons v l2 =>
      obtain ⟨d0, ds0, e1, _⟩ := r2
      simp at e1
mutual
theorem copy_ok (h : TS T) : ∀ (v : V) (k : Nat), v.ok → v.h ≤ k → CopyP T w (k + 1) v
  | .non, k, _, _ => by
    intro S d hr
    rw [hr]
    refine ⟨.non, S, ?_, Ext.refl S, rfl, trivial⟩
    rw [call_eq h.copy rfl]
    simp [runD, exB, exS, evE, evT, evB, evEs, evAnd, evOr, evAny, evAll, evIfs, evO, Ev.of, startR, Res.of, truR, truD, asgT, asgTs, newT, newL, newR, ixD, ixL, atD, ixN', binD, cmpD, cmpO, biD, bi1, bi2, seqD, intD, Res.bind, Res.rs, RS.seq, Res.nox, c__law_copy, s__law_copy_1, s__law_copy_2, s__law_copy_3, tyD, isTy]
  | .bl b, k, _, _ => by
    intro S d hr
    rw [hr]
    refine ⟨.bl b, S, ?_, Ext.refl S, rfl, trivial⟩
    rw [call_eq h.copy rfl]
    simp [runD, exB, exS, evE, evT, evB, evEs, evAnd, evOr, evAny, evAll, evIfs, evO, Ev.of, startR, Res.of, truR, truD, asgT, asgTs, newT, newL, newR, ixD, ixL, atD, ixN', binD, cmpD, cmpO, biD, bi1, bi2, seqD, intD, Res.bind, Res.rs, RS.seq, Res.nox, c__law_copy, s__law_copy_1, s__law_copy_2, s__law_copy_3, tyD, isTy]
  | .int b, k, _, _ => by
    intro S d hr
    rw [hr]
    refine ⟨.int b, S, ?_, Ext.refl S, rfl, trivial⟩
    rw [call_eq h.copy rfl]
    simp [runD, exB, exS, evE, evT, evB, evEs, evAnd, evOr, evAny, evAll, evIfs, evO, Ev.of, startR, Res.of, truR, truD, asgT, asgTs, newT, newL, newR, ixD, ixL, atD, ixN', binD, cmpD, cmpO, biD, bi1, bi2, seqD, intD, Res.bind, Res.rs, RS.seq, Res.nox, c__law_copy, s__law_copy_1, s__law_copy_2, s__law_copy_3, tyD, isTy]
  | .str b, k, _, _ => by
    intro S d hr
    rw [hr]
    refine ⟨.str b, S, ?_, Ext.refl S, rfl, trivial⟩
    rw [call_eq h.copy rfl]
    simp [runD, exB, exS, evE, evT, evB, evEs, evAnd, evOr, evAny, evAll, evIfs, evO, Ev.of, startR, Res.of, truR, truD, asgT, asgTs, newT, newL, newR, ixD, ixL, atD, ixN', binD, cmpD, cmpO, biD, bi1, bi2, seqD, intD, Res.bind, Res.rs, RS.seq, Res.nox, c__law_copy, s__law_copy_1, s__law_copy_2, s__law_copy_3, tyD, isTy]
  | .tup l, k, ho, hh => by
    intro S d hr
    obtain ⟨ds, rfl, hr⟩ := hr
    unfold V.h at hh
    unfold V.ok at ho
    obtain ⟨k, rfl⟩ : ∃ k', k = k' + 1 := ⟨k - 1, by omega⟩
    obtain ⟨n, ds', S0, S', e, x0, hn, r, x1, g⟩ := copy_lc (copy_all h l k ho.1 (by omega)) (.inl rfl) hr ho.2
    have r' := r.ext x1 l
    have hlen : ds'.length ≤ 16000000 := by rw [r'.len]; omega
    refine ⟨.tup ds', S', ?_, x0.trans x1, ⟨ds', rfl, r'⟩, trivial⟩
    rw [call_eq h.copy rfl]
    unfold c__law_copy s__law_copy_2 s__law_copy_2_1
    generalize CE.lc (.nm 1) (.seq (.var 0)) .nil [1] (.call "_law_copy" (.cons false (.var 1) .nil)) = lc at e ⊢
    have e' : (evB (PA T w (k + 1)).toPar lc).v [some (.tup ds), none, none] S = .ok (.ref n) S' := e
    simp [runD, exB, exS, evE, evT, evB, evEs, evAnd, evOr, evAny, evAll, evIfs, evO, Ev.of, startR, Res.of, truR, truD, asgT, asgTs, newT, newL, newR, ixD, ixL, atD, ixN', binD, cmpD, cmpO, biD, bi1, bi2, seqD, intD, Res.bind, Res.rs, RS.seq, Res.nox, s__law_copy_1, tyD, isTy, e', lstAt, g, hlen]
  | .lst l, k, ho, hh => by
    intro S d hr
    obtain ⟨m, ds, rfl, g0, hr⟩ := hr
    unfold V.h at hh
    unfold V.ok at ho
    obtain ⟨k, rfl⟩ : ∃ k', k = k' + 1 := ⟨k - 1, by omega⟩
    obtain ⟨n, ds', S0, S', e, x0, hn, r, x1, g⟩ := copy_lc (copy_all h l k ho.1 (by omega)) (.inr ⟨m, rfl, g0⟩) hr ho.2
    refine ⟨.ref n, S', ?_, x0.trans x1, ⟨n, ds', rfl, g, r.ext x1 l⟩, ⟨n, ds', S0, rfl, x0, hn, r, x1, g⟩⟩
    rw [call_eq h.copy rfl]
    unfold c__law_copy s__law_copy_1 s__law_copy_1_1
    generalize CE.lc (.nm 1) (.seq (.var 0)) .nil [1] (.call "_law_copy" (.cons false (.var 1) .nil)) = lc at e ⊢
    have e' : (evB (PA T w (k + 1)).toPar lc).v [some (.ref m), none, none] S = .ok (.ref n) S' := e
    simp [runD, exB, exS, evE, evT, evB, evEs, evAnd, evOr, evAny, evAll, evIfs, evO, Ev.of, startR, Res.of, truR, truD, asgT, asgTs, newT, newL, newR, ixD, ixL, atD, ixN', binD, cmpD, cmpO, biD, bi1, bi2, seqD, intD, Res.bind, Res.rs, RS.seq, Res.nox, tyD, isTy, g0, e']
  | .dct, k, _, _ => by
    intro S d hr
    obtain ⟨m, rfl, g⟩ := hr
    have lt := (List.getElem?_eq_some_iff.mp g).1
    have hs : ∀ o : MO, (S.set m o)[m]? = some o := fun o => List.getElem?_set_self lt
    have hs2 : ∀ (o : MO) (G : Sto), (S.set m o ++ G)[m]? = some o := fun o G => by
      rw [List.getElem?_append_left (by simpa using lt)]; exact hs o
    have back' : (S.set m (.fK []) ++ [MO.lst []]).set m (.dK []) = S ++ [MO.lst []] := by
      rw [List.set_append_left _ _ (by simpa using lt), List.set_set]
      congr 1
      apply List.ext_getElem?
      intro i
      by_cases hi : m = i
      · subst hi; rw [hs, g]
      · rw [List.getElem?_set_ne hi]
    have x1 := Ext.app S [.lst []]
    have x2 := Ext.app (S ++ [.lst []]) [.dK []]
    refine ⟨.ref (S.length + 1), (S ++ [.lst []]) ++ [.dK []], ?_, x1.trans x2, ⟨_, rfl, ?_⟩, trivial⟩
    · rw [call_eq h.copy rfl]
      simp [runD, exB, exS, evE, evT, evB, evEs, evAnd, evOr, evAny, evAll, evIfs, evO, Ev.of, startR, Res.of, truR, truD, asgT, asgTs, newT, newL, newR, ixD, ixL, atD, ixN', binD, cmpD, cmpO, biD, bi1, bi2, seqD, intD, Res.bind, Res.rs, RS.seq, Res.nox, c__law_copy, s__law_copy_1, s__law_copy_2, s__law_copy_3, tyD, isTy, g, dictAt, lcD, lockS, unlockS, lcA, evI, seqIt, hs, lcL, It.ok, Chk.ok, hs2, back', lstAt, mapO, mergeD]
    · have : (S ++ [MO.lst []]).length = S.length + 1 := by simp
      rw [← this]; exact getE
theorem copy_all (h : TS T) : ∀ (l : List V) (k : Nat), V.oks l → V.hs l ≤ k → ∀ v ∈ l, CopyP T w (k + 1) v
  | [], _, _, _ => by simp
  | u :: l, k, ho, hh => by
    unfold V.hs at hh
    intro v hv
    have h1 := copy_ok h u k ho.1 (by omega)
    have h2 := copy_all h l k ho.2 (by omega)
    rcases List.mem_cons.mp hv with rfl | hv
    · exact h1
    · exact h2 v hv
end
theorem hs_app : ∀ (l l' : List V), V.hs (l ++ l') = max (V.hs l) (V.hs l')
  | [], l' => by simp [V.hs]
  | v :: l, l' => by
    have := hs_app l l'
    simp only [List.cons_append, V.hs, this]; omega
theorem oks_app : ∀ {l l' : List V}, V.oks l → V.oks l' → V.oks (l ++ l')
  | [], _, _, h => h
  | v :: l, _, h, h' => ⟨h.1, oks_app h.2 h'⟩
theorem kept_ok (h : TS T) : ∀ {v : V}, v.ok → (∀ l, v = .lst l → l.length < 1000) → v.h ≤ k → ∀ {d : D} {Sb : Sto}, Rep S v d → Fresh Sb v d S → Ext Sb S → ∃ S', call T w (k + 2) "_law_kept" [d, d] S = .ok (.bl true) S' ∧ Ext Sb S'
  | .non, ho, _, hh, d, Sb, hr, _, hb => by
    obtain ⟨S', e, x⟩ := same_ok (w := w) h .non k S d d ho hh hr hr
    refine ⟨S', ?_, hb.trans x⟩
    rw [hr] at e ⊢
    rw [call_eq h.kept rfl]
    simp [runD, exB, exS, evE, evT, evB, evEs, evAnd, evOr, evAny, evAll, evIfs, evO, Ev.of, startR, Res.of, truR, truD, asgT, asgTs, newT, newL, newR, ixD, ixL, atD, ixN', binD, cmpD, cmpO, biD, bi1, bi2, seqD, intD, Res.bind, Res.rs, RS.seq, Res.nox, c__law_kept, s__law_kept_1, s__law_kept_2, s__law_kept_3, tyD, isTy, e]
  | .bl b, ho, _, hh, d, Sb, hr, _, hb => by
    obtain ⟨S', e, x⟩ := same_ok (w := w) h (.bl b) k S d d ho hh hr hr
    refine ⟨S', ?_, hb.trans x⟩
    rw [hr] at e ⊢
    rw [call_eq h.kept rfl]
    simp [runD, exB, exS, evE, evT, evB, evEs, evAnd, evOr, evAny, evAll, evIfs, evO, Ev.of, startR, Res.of, truR, truD, asgT, asgTs, newT, newL, newR, ixD, ixL, atD, ixN', binD, cmpD, cmpO, biD, bi1, bi2, seqD, intD, Res.bind, Res.rs, RS.seq, Res.nox, c__law_kept, s__law_kept_1, s__law_kept_2, s__law_kept_3, tyD, isTy, e]
  | .int b, ho, _, hh, d, Sb, hr, _, hb => by
    obtain ⟨S', e, x⟩ := same_ok (w := w) h (.int b) k S d d ho hh hr hr
    refine ⟨S', ?_, hb.trans x⟩
    rw [hr] at e ⊢
    rw [call_eq h.kept rfl]
    simp [runD, exB, exS, evE, evT, evB, evEs, evAnd, evOr, evAny, evAll, evIfs, evO, Ev.of, startR, Res.of, truR, truD, asgT, asgTs, newT, newL, newR, ixD, ixL, atD, ixN', binD, cmpD, cmpO, biD, bi1, bi2, seqD, intD, Res.bind, Res.rs, RS.seq, Res.nox, c__law_kept, s__law_kept_1, s__law_kept_2, s__law_kept_3, tyD, isTy, e]
  | .str b, ho, _, hh, d, Sb, hr, _, hb => by
    obtain ⟨S', e, x⟩ := same_ok (w := w) h (.str b) k S d d ho hh hr hr
    refine ⟨S', ?_, hb.trans x⟩
    rw [hr] at e ⊢
    rw [call_eq h.kept rfl]
    simp [runD, exB, exS, evE, evT, evB, evEs, evAnd, evOr, evAny, evAll, evIfs, evO, Ev.of, startR, Res.of, truR, truD, asgT, asgTs, newT, newL, newR, ixD, ixL, atD, ixN', binD, cmpD, cmpO, biD, bi1, bi2, seqD, intD, Res.bind, Res.rs, RS.seq, Res.nox, c__law_kept, s__law_kept_1, s__law_kept_2, s__law_kept_3, tyD, isTy, e]
  | .tup l, ho, _, hh, d, Sb, hr, _, hb => by
    obtain ⟨S', e, x⟩ := same_ok (w := w) h (.tup l) k S d d ho hh hr hr
    refine ⟨S', ?_, hb.trans x⟩
    obtain ⟨ds, rfl, _⟩ := hr
    rw [call_eq h.kept rfl]
    simp [runD, exB, exS, evE, evT, evB, evEs, evAnd, evOr, evAny, evAll, evIfs, evO, Ev.of, startR, Res.of, truR, truD, asgT, asgTs, newT, newL, newR, ixD, ixL, atD, ixN', binD, cmpD, cmpO, biD, bi1, bi2, seqD, intD, Res.bind, Res.rs, RS.seq, Res.nox, c__law_kept, s__law_kept_1, s__law_kept_2, s__law_kept_3, tyD, isTy, e]
  | .dct, ho, _, hh, d, Sb, hr, _, hb => by
    obtain ⟨n, rfl, g⟩ := hr
    obtain ⟨m1, S1, e1, l1, g1, x1⟩ := newL_get (S := S) (xs := []) (by simp)
    have x1' := Ext.app S [MO.lst []]
    have x2' := Ext.app (S ++ [MO.lst []]) [MO.lst []]
    have h1 : (S ++ [MO.lst []])[n]? = some (.dK []) := x1' _ _ g
    have h2 : ((S ++ [MO.lst []]) ++ [MO.lst []])[S.length]? = some (.lst []) := x2' _ _ getE
    have h3 : ((S ++ [MO.lst []]) ++ [MO.lst []])[S.length + 1]? = some (.lst []) := by
      have : (S ++ [MO.lst []]).length = S.length + 1 := by simp
      rw [← this]; exact getE
    have h4 := eqD_nil h2 h3
    refine ⟨(S ++ [MO.lst []]) ++ [MO.lst []], ?_, hb.trans (x1'.trans x2')⟩
    rw [call_eq h.kept rfl]
    simp at h1 h4
    simp [runD, exB, exS, evE, evT, evB, evEs, evAnd, evOr, evAny, evAll, evIfs, evO, Ev.of, startR, Res.of, truR, truD, asgT, asgTs, newT, newL, newR, ixD, ixL, atD, ixN', binD, cmpD, cmpO, biD, bi1, bi2, seqD, intD, Res.bind, Res.rs, RS.seq, Res.nox, c__law_kept, s__law_kept_1, s__law_kept_2, s__law_kept_2_1, tyD, isTy, g, h1, h4]
  | .lst l, ho, hll, hh, d, Sb, hr, hf, hb => by
    obtain ⟨n, ds, S0, rfl, x0, hn, r0, x1, g⟩ := hf
    have lt := (List.getElem?_eq_some_iff.mp g).1
    have hs : (S.set n (MO.lst (ds ++ [D.str "more"])))[n]? = some (.lst (ds ++ [.str "more"])) := List.getElem?_set_self lt
    have x2 : Ext S0 (S.set n (MO.lst (ds ++ [D.str "more"]))) := x1.setnew hn
    unfold V.ok at ho
    have hl := hll l rfl
    have hdl : ds.length < 16000000 := by rw [r0.len]; omega
    have ho' : (V.lst (l ++ [.str "more"])).ok := by
      unfold V.ok
      exact ⟨oks_app ho.1 ⟨.inr (.inr rfl), trivial⟩, by simp; omega⟩
    have hh' : (V.lst (l ++ [.str "more"])).h ≤ k := by
      unfold V.h at hh ⊢
      rw [hs_app]
      simp [V.hs, V.h]
      omega
    have hr' : Rep (S.set n (MO.lst (ds ++ [D.str "more"]))) (V.lst (l ++ [.str "more"])) (.ref n) := ⟨n, _, rfl, hs, (r0.ext x2 l).app ⟨.str "more", [], rfl, rfl, rfl⟩⟩
    obtain ⟨S', e, x⟩ := same_ok (w := w) h _ k _ _ _ ho' hh' hr' hr'
    refine ⟨S', ?_, x0.trans (x2.trans x)⟩
    rw [call_eq h.kept rfl]
    simp [runD, exB, exS, evE, evT, evB, evEs, evAnd, evOr, evAny, evAll, evIfs, evO, Ev.of, startR, Res.of, truR, truD, asgT, asgTs, newT, newL, newR, ixD, ixL, atD, ixN', binD, cmpD, cmpO, biD, bi1, bi2, seqD, intD, Res.bind, Res.rs, RS.seq, Res.nox, c__law_kept, s__law_kept_1, s__law_kept_1_1, s__law_kept_2, s__law_kept_3, tyD, isTy, g, isLst, mtD, lstAt, hdl, hs, e]
end G

end

section
set_option Elab.async false
set_option linter.all false
set_option maxHeartbeats 0
set_option maxRecDepth 100000
set_option exponentiation.threshold 10000
/-! K10: a drawn list of free jobs is waited for rightly. -/
namespace G
open PySem
variable {T : Tbl} {w k : Nat} {S : Sto}
structure TR (T : Tbl) : Prop extends TF T where
  tb : TB T
  tw : TW T
  ts : TS T
  mixed : T.defs "_law_mixed" = some c__law_mixed
  sum : T.defs "_law_sum" = some c__law_sum
  list_right : T.defs "_law_list_right" = some c__law_list_right
theorem perm_erase {α : Type} : ∀ {A : List α} {i : Nat} {x : α}, A[i]? = some x → A.Perm (x :: A.eraseIdx i)
  | [], i, x, h => by simp at h
  | a :: A, 0, x, h => by simp at h; subst h; simp
  | a :: A, i + 1, x, h => by
    simp at h
    have := perm_erase h
    simp
    exact (List.Perm.cons a this).trans (List.Perm.swap x a _)
theorem erase_map {α β : Type} (f : α → β) : ∀ (A : List α) (i : Nat), (A.map f).eraseIdx i = (A.eraseIdx i).map f
  | [], i => by simp
  | a :: A, 0 => by simp
  | a :: A, i + 1 => by simp [erase_map f A i]
theorem mixed_post (h : TR T) {M : Int} {b c j : Nat} {L : List IJ} (hb : BoxOk S b c) (hc : c + 1000 < 1000000000) (hj : S[j]? = some (.lst (L.map (jv M)))) (jb' : j ≠ b) (hl : L.length ≤ 100) {Q : D → Sto → Prop} (hQ : ∀ (n : Nat) (L' : List IJ) (S' : Sto), n ≠ b → S'[n]? = some (.lst (L'.map (jv M))) → L'.Perm L → BU b (c + L.length) S S' → Q (.ref n) S') : (call T w (k + 2) "_law_mixed" [.ref b, .ref j] S).post Q := by
  refine call_post' h.mixed [some (.ref b), some (.ref j), none, none, none] rfl rfl ?_
  unfold c__law_mixed
  refine cons_post ?_
  unfold s__law_mixed_1
  have hlen : (L.map (jv M)).length ≤ 16000000 := by simp; omega
  simp [exS_asg, exS_expr, exS_ret, exS_ife, evE, evT, evB, evEs, evAnd, evOr, evAny, evAll, evIfs, evO, Ev.of, startR, Res.of_some, truR, truD, asgT, asgTs, newT, ixD, ixL, atD, ixN', binD, cmpD, cmpO, biD, bi1, bi2, seqD, intD, negD, Res.post_ok, Res.post_bind, Res.post_rs, Res.post_nox, RS.post_fl, lstAt, hj]
  refine newL_post hlen fun n1 S1 l1 g1 x1 => ?_
  (try simp [exS_asg, exS_expr, exS_ret, exS_ife, evE, evT, evB, evEs, evAnd, evOr, evAny, evAll, evIfs, evO, Ev.of, startR, Res.of_some, truR, truD, asgT, asgTs, newT, ixD, ixL, atD, ixN', binD, cmpD, cmpO, biD, bi1, bi2, seqD, intD, negD, Res.post_ok, Res.post_bind, Res.post_rs, Res.post_nox, RS.post_fl])
  refine newL_post (by simp) fun n2 S2 l2 g2 x2 => ?_
  refine thn_next (cons_post ?_)
  unfold s__law_mixed_2
  have blt := hb.lt
  have n1lt := (List.getElem?_eq_some_iff.mp g1).1
  have len1 := x1.len
  have n12 : n1 ≠ n2 := by omega
  have n1b : n1 ≠ b := by omega
  have n2b : n2 ≠ b := by omega
  have g1 := x2 _ _ g1
  have bu0 : BU b c S S2 := BU.ofext (x1.trans x2) hb
  have n1S : S.length ≤ n1 := by omega
  have n2S : S.length ≤ n2 := by omega
  have lj : lenD S2 (.ref j) = some L.length := by simp [lenD, (x1.trans x2) _ _ hj]
  refine for_cps (fun xs ρ S' => ∃ (A B : List IJ) (x4 : Option D), xs.length = A.length ∧ (A ++ B).Perm L ∧ ρ = [some (.ref b), some (.ref j), some (.ref n1), some (.ref n2), x4] ∧ S'[n1]? = some (.lst (A.map (jv M))) ∧ S'[n2]? = some (.lst (B.map (jv M))) ∧ BU b (c + B.length) S S') ⟨[], rngD 0 (L.length : Int)⟩ S2 (evI_rng1 (by simp [runD, exB, exS, evE, evT, evB, evEs, evAnd, evOr, evAny, evAll, evIfs, evO, Ev.of, startR, Res.of, truR, truD, asgT, asgTs, newT, newL, newR, ixD, ixL, atD, ixN', binD, cmpD, cmpO, biD, bi1, bi2, seqD, intD, Res.bind, Res.rs, RS.seq, Res.nox, lj]) (rngOk_of (by omega))) ⟨L, [], none, by simp [rngD], by simp, rfl, g1, by simpa using g2, bu0⟩ (fun _ _ _ _ => rfl) ?_ ?_
  · rintro v xs ρ S' ⟨A, B, x4, e1, hp, rfl, ga, gb, bu⟩
    simp only [List.length_cons] at e1
    refine ⟨[some (.ref b), some (.ref j), some (.ref n1), some (.ref n2), some v], by rfl, fun Q' hQ' => ?_⟩
    refine cons_post ?_
    unfold s__law_mixed_2_1
    have hAB := hp.length_eq
    simp at hAB
    simp [exS_asg, exS_expr, exS_ret, exS_ife, evE, evT, evB, evEs, evAnd, evOr, evAny, evAll, evIfs, evO, Ev.of, startR, Res.of_some, truR, truD, asgT, asgTs, newT, ixD, ixL, atD, ixN', binD, cmpD, cmpO, biD, bi1, bi2, seqD, intD, negD, Res.post_ok, Res.post_bind, Res.post_rs, Res.post_nox, RS.post_fl, isLst, lstAt, ga, gb, lenD]
    refine (take_eq h.tb.take bu.box (by omega) (by omega) (by omega)).imp ?_
    rintro v0 S3 ⟨⟨d, rfl, d0, dl⟩, bu3⟩
    have ga := bu3.up n1 _ n1b ga
    have gb := bu3.up n2 _ n2b gb
    have bu := bu.trans bu3
    obtain ⟨i, rfl⟩ : ∃ i : Nat, d = i := ⟨d.toNat, by omega⟩
    have il : i < A.length := by omega
    obtain ⟨x, hx⟩ : ∃ x, A[i] = x := ⟨_, rfl⟩
    have hx' : A[i]? = some x := by rw [List.getElem?_eq_getElem il, hx]
    have al : A.length < 16000000 := by omega
    have bl : B.length < 16000000 := by omega
    have lt1 := (List.getElem?_eq_some_iff.mp ga).1
    have lt2 := (List.getElem?_eq_some_iff.mp gb).1
    have g3 : (S3.set n1 (.lst ((A.map (jv M)).eraseIdx i)))[n2]? = some (.lst (B.map (jv M))) := by rw [List.getElem?_set_ne n12]; exact gb
    simp [exS_asg, exS_expr, exS_ret, exS_ife, evE, evT, evB, evEs, evAnd, evOr, evAny, evAll, evIfs, evO, Ev.of, startR, Res.of_some, truR, truD, asgT, asgTs, newT, ixD, ixL, atD, ixN', binD, cmpD, cmpO, biD, bi1, bi2, seqD, intD, negD, Res.post_ok, Res.post_bind, Res.post_rs, Res.post_nox, RS.post_fl, mtD, lstAt, ga, il, al, hx, g3, bl]
    refine thn_next (nil_post (hQ' _ _ ⟨A.eraseIdx i, B ++ [x], _, ?_, ?_, rfl, ?_, ?_, ?_⟩))
    · rw [List.length_eraseIdx_of_lt il]; omega
    · refine List.Perm.trans ?_ hp
      have h1 := (perm_erase hx').append_right B
      refine List.Perm.trans ?_ h1.symm
      have h2 : (A.eraseIdx i ++ (B ++ [x])).Perm ([x] ++ (A.eraseIdx i ++ B)) := by
        rw [← List.append_assoc]; exact List.perm_append_comm
      simpa using h2
    · rw [List.getElem?_set_ne (fun h => n12 h.symm), List.getElem?_set_self lt1, erase_map]
    · rw [List.getElem?_set_self (by simpa using lt2)]; simp
    · exact ⟨(bu.up.setnew n1S).setnew n2S, ((bu.box.setne n1b).setne n2b).mono (by simp; omega)⟩
  · rintro ρ S' ⟨A, B, x4, e1, hp, rfl, ga, gb, bu⟩
    have : A = [] := by
      cases A with
      | nil => rfl
      | cons _ _ => simp at e1
    subst this
    refine thn_next (cons_post ?_)
    unfold s__law_mixed_3
    simp [exS_asg, exS_expr, exS_ret, exS_ife, evE, evT, evB, evEs, evAnd, evOr, evAny, evAll, evIfs, evO, Ev.of, startR, Res.of_some, truR, truD, asgT, asgTs, newT, ixD, ixL, atD, ixN', binD, cmpD, cmpO, biD, bi1, bi2, seqD, intD, negD, Res.post_ok, Res.post_bind, Res.post_rs, Res.post_nox, RS.post_fl, thn_ret, back_ret]
    have := hp.length_eq
    simp at this
    exact hQ n2 B S' n2b gb (by simpa using hp) (bu.mono (by omega))
/-- the sum of three -/
theorem sum3_ok (h : TL T) (hs : T.defs "_law_sum" = some c__law_sum) (hw : Big w) {M : Int} (hM : SmM M) {n : Nat} {a b c : Int} (ha : 0 ≤ a ∧ a ≤ (14 * M) * (14 * M)) (hb : 0 ≤ b ∧ b ≤ (14 * M) * (14 * M)) (hc : 0 ≤ c ∧ c ≤ (14 * M) * (14 * M)) (g : S[n]? = some (.lst [fr a (M * M), fr b (M * M), fr c (M * M)])) : call T w (k + 4) "_law_sum" [.ref n] S = .ok (fr (a + b + c) (M * M)) S := by
  have hMM := Int.mul_pos hM.pos hM.pos
  have sMM : Sm (M * M) := hM.s1.mul hM.s1
  have sm : ∀ (k : Nat) (x : Int), k ≤ 3 → 0 ≤ x → x ≤ k * ((14 * M) * (14 * M)) → Sm x := fun k x hk h0 h1 => sm_pow (sm_many2 h0 h1 (by omega) hM.sm) (by decide)
  generalize hK : (14 * M) * (14 * M) = K at *
  have e1 := ladd_eq (T := T) (w := w) (k := k) (S := S) h hw hMM hMM (a := 0) (b := a) (by decide) (sm 1 a (by decide) ha.1 (by omega)) sMM sMM
  have e2 := ladd_eq (T := T) (w := w) (k := k) (S := S) h hw hMM hMM (a := 0 + a) (b := b) (sm 1 (0 + a) (by decide) (by omega) (by omega)) (sm 1 b (by decide) hb.1 (by omega)) sMM sMM
  have e3 := ladd_eq (T := T) (w := w) (k := k) (S := S) h hw hMM hMM (a := 0 + a + b) (b := c) (sm 2 (0 + a + b) (by decide) (by omega) (by omega)) (sm 1 c (by decide) hc.1 (by omega)) sMM sMM
  rw [fr_sum hMM] at e1 e2 e3
  rw [Int.zero_add] at e1 e2 e3
  rw [call_eq hs rfl]
  simp [runD, exB, exS, evE, evT, evB, evEs, evAnd, evOr, evAny, evAll, evIfs, evO, Ev.of, startR, Res.of, truR, truD, asgT, asgTs, newT, newL, newR, ixD, ixL, atD, ixN', binD, cmpD, cmpO, biD, bi1, bi2, seqD, intD, Res.bind, Res.rs, RS.seq, Res.nox, c__law_sum, s__law_sum_1, s__law_sum_2, s__law_sum_2_1, s__law_sum_3, evI, seqIt, g, forL, ok_seq g, asgP, fr_zero hMM, e1, e2, e3]
theorem eqD_2 {S : Sto} {a b c d : Int} : eqD S (.tup [.int a, .int b]) (.tup [.int c, .int d]) = some (decide (a = c) && (decide (b = d) && true)) := by
  rfl
theorem eqD_fr {x d : Int} : eqD S (fr x d) (fr x d) = some true := by
  rw [fr_nd, eqD_2]; simp
/-- the data of a job -/
def jvP (M : Int) (x : IJ) : PyData := .tuple [.tuple [.int (num x.1 M), .int (den x.1 M)], .tuple [.int (num x.2 M), .int (den x.2 M)]]
theorem datD_jobs {M : Int} : ∀ L : List IJ, mapO (datD S 59) (L.map (jv M)) = some (L.map (jvP M))
  | [] => rfl
  | x :: L => by
    simp only [List.map_cons, mapO]
    rw [datD_jobs L]
    rfl
theorem lay_jobs {M : Int} : ∀ L : List IJ, PyData.canLayAll0 (L.map (jvP M)) = true
  | [] => rfl
  | x :: L => by
    simp only [List.map_cons, PyData.canLayAll0]
    rw [lay_jobs L]
    rfl
theorem dep_jobs {M : Int} : ∀ L : List IJ, PyData.depthAll (L.map (jvP M)) ≤ 2
  | [] => by simp [PyData.depthAll]
  | x :: L => by
    have := dep_jobs (M := M) L
    have e : PyData.depth (jvP M x) = 2 := rfl
    simp only [List.map_cons, PyData.depthAll, e]
    omega
theorem eqD_jobs {M : Int} {j n : Nat} {L : List IJ} (hj : S[j]? = some (.lst (L.map (jv M)))) (hn : S[n]? = some (.lst [])) : eqD S (.ref j) (.ref n) = some (decide (L = [])) := by
  have e1 : datD S 60 (.ref j) = some (.list (L.map (jvP M))) := by
    simp only [datD, hj, datD_jobs]; rfl
  have e2 : datD S 60 (.ref n) = some (.list []) := by
    simp [datD, hn, mapO]
  have sh : SeqAt.shaped (.list (L.map (jvP M))) = true := by
    simp only [SeqAt.shaped, PyData.canLay0, lay_jobs, Bool.true_and, decide_eq_true_eq]
    have := dep_jobs (M := M) L
    show PyData.depthAll _ + 1 ≤ 64
    omega
  have s2 : SeqAt.shaped (.list []) = true := by rfl
  unfold eqD
  rw [e1, e2]
  simp only [sh, s2]
  cases L with
  | nil => rfl
  | cons x L => rfl
end G

end

section
set_option Elab.async false
set_option linter.all false
set_option maxHeartbeats 0
set_option maxRecDepth 100000
set_option exponentiation.threshold 10000
/-! K11: a drawn list of free jobs is waited for rightly: the law's own test. -/
namespace G
open PySem
variable {T : Tbl} {w k : Nat} {S : Sto}
def frV (a M : Int) : V := .tup [.int (num a M), .int (den a M)]
theorem frV_rep {a M : Int} : Rep S (frV a M) (fr a M) := ⟨_, rfl, _, _, rfl, rfl, _, _, rfl, rfl, rfl⟩
theorem frV_ok {a M : Int} : (frV a M).ok := ⟨⟨trivial, trivial, trivial⟩, by simp⟩
theorem frV_h {a M : Int} : (frV a M).h = 1 := rfl
theorem same_fr (h : TS T) {a M : Int} : ∃ S', call T w (k + 2) "_law_same" [fr a M, fr a M] S = .ok (.bl true) S' ∧ Ext S S' :=
  same_ok h (frV a M) (k + 1) S _ _ frV_ok (by rw [frV_h]; omega) frV_rep frV_rep
theorem byK_free (h : TF T) {F : Str → List D → Sto → Res D} {v : D} : byK T F "free_wait" ["jobs"] [v] S = F "free_wait" [v] S := by
  simp [byK, h.free_wait, c_free_wait, orderK, mapO, List.lookup]
theorem byK_pair (h : TF T) {F : Str → List D → Sto → Res D} {x y : D} : byK T F "pair_wait" ["other", "one"] [y, x] S = F "pair_wait" [x, y] S := by
  have e1 : (("one" : Str) == ("other" : Str)) = false := by decide
  have e2 : (("other" : Str) == ("one" : Str)) = false := by decide
  have e3 : orderK (["one", "other"] : List Str) (["other", "one"] : List Str) [y, x] = some [x, y] := by
    simp [orderK, mapO, List.lookup, e1, e2]
    exact fun hh => by simp [hh] at e2
  show (match T.defs "pair_wait" with
    | some d => (match orderK d.ps ["other", "one"] [y, x] with
      | some us => F "pair_wait" us S
      | none => .fail)
    | none => .fail) = _
  rw [h.pair_wait]
  show (match orderK (["one", "other"] : List Str) (["other", "one"] : List Str) [y, x] with
      | some us => F "pair_wait" us S
      | none => .fail) = _
  rw [e3]
theorem PW_two (x y : IJ) : PW [x, y] = mn x y + x.1 * x.2 + y.1 * y.2 := by
  simp only [PW, cross]; omega
theorem list_right_post (h : TR T) (hw : Big w) (hw2 : 1000 < w) {M : Int} (hM : SmM M) {b c j : Nat} {bn : Bool} {L : List IJ} (hb : BoxOk S b c) (hc : c + 10000 < 1000000000) (hj : S[j]? = some (.lst (L.map (jv M)))) (jb' : j ≠ b) (hL : ∀ x ∈ L, okJob M x) (hl : L.length ≤ 30) {Q : D → Sto → Prop} (hQ : ∀ S', BU b (c + 200) S S' → Q (.bl true) S') : (call T w (k + 9) "_law_list_right" [.ref b, .ref j, .bl bn] S).post Q := by
  have hMp := hM.pos
  refine call_post' h.list_right [some (.ref b), some (.ref j), some (.bl bn), none, none, none, none, none, none] rfl rfl ?_
  unfold c__law_list_right
  refine cons_post ?_
  unfold s__law_list_right_1
  simp [exS_asg, exS_expr, exS_ret, exS_ife, evE, evT, evB, evEs, evAnd, evOr, evAny, evAll, evIfs, evO, Ev.of, startR, Res.of_some, truR, truD, asgT, asgTs, newT, ixD, ixL, atD, ixN', binD, cmpD, cmpO, biD, bi1, bi2, seqD, intD, negD, Res.post_ok, Res.post_bind, Res.post_rs, Res.post_nox, RS.post_fl]
  refine by_quotients_post (k := k + 4) h.tw.toTQ hw hw2 hM hj hL (by omega) fun S1 x1 => ?_
  (try simp [exS_asg, exS_expr, exS_ret, exS_ife, evE, evT, evB, evEs, evAnd, evOr, evAny, evAll, evIfs, evO, Ev.of, startR, Res.of_some, truR, truD, asgT, asgTs, newT, ixD, ixL, atD, ixN', binD, cmpD, cmpO, biD, bi1, bi2, seqD, intD, negD, Res.post_ok, Res.post_bind, Res.post_rs, Res.post_nox, RS.post_fl])
  refine thn_next (cons_post ?_)
  unfold s__law_list_right_2
  have hj1 := x1 _ _ hj
  -- behind the second statement
  have part3 : ∀ S2, Ext S S2 → (exB (PA T w (k + 8)) (CB.cons s__law_list_right_3 (CB.cons s__law_list_right_4 (CB.cons s__law_list_right_5 (CB.cons s__law_list_right_6 CB.nil)))) [some (.ref b), some (.ref j), some (.bl bn), some (fr (PW L) (M * M)), none, none, none, none, none] S2).post (back Q) := by
    intro S2 x2
    have hj2 := x2 _ _ hj
    have hlen : (L.map (jv M)).length ≤ 16000000 := by simp; omega
    refine cons_post ?_
    unfold s__law_list_right_3
    -- behind the third one
    have part4 : ∀ S3, Ext S S3 → (exB (PA T w (k + 8)) (CB.cons s__law_list_right_4 (CB.cons s__law_list_right_5 (CB.cons s__law_list_right_6 CB.nil))) [some (.ref b), some (.ref j), some (.bl bn), some (fr (PW L) (M * M)), some (fr (PW L) (M * M)), none, none, none, none] S3).post (back Q) := by
      intro S3 x3
      have hj3 := x3 _ _ hj
      refine cons_post ?_
      unfold s__law_list_right_4
      obtain ⟨S4, e4, x4⟩ := same_fr (T := T) (w := w) (k := k + 6) (S := S3) h.ts (a := PW L) (M := M * M)
      simp [exS_asg, exS_expr, exS_ret, exS_ife, evE, evT, evB, evEs, evAnd, evOr, evAny, evAll, evIfs, evO, Ev.of, startR, Res.of_some, truR, truD, asgT, asgTs, newT, ixD, ixL, atD, ixN', binD, cmpD, cmpO, biD, bi1, bi2, seqD, intD, negD, Res.post_ok, Res.post_bind, Res.post_rs, Res.post_nox, RS.post_fl, e4]
      have x4 := x3.trans x4
      have hj4 := x4 _ _ hj
      refine mixed_post (k := k + 6) h (hb.ext x4) (by omega) hj4 jb' (by omega) fun n L' S5 nb g5 hp bu5 => ?_
      have bu5 : BU b (c + L.length) S S5 := ⟨(x4.up b).trans bu5.up, bu5.box⟩
      have hL' : ∀ x ∈ L', okJob M x := fun x hx => hL x (hp.mem_iff.mp hx)
      have hl' : L'.length ≤ 30 := by rw [hp.length_eq]; exact hl
      obtain ⟨S6, e6, x6⟩ := free_wait_ok (T := T) (w := w) (k := k + 1) (S := S5) h.toTF hM (.inr ⟨n, rfl, g5⟩) hL' hl'
      rw [PW_perm hp] at e6
      obtain ⟨S7, e7, x7⟩ := same_fr (T := T) (w := w) (k := k + 6) (S := S6) h.ts (a := PW L) (M := M * M)
      simp [exS_asg, exS_expr, exS_ret, exS_ife, evE, evT, evB, evEs, evAnd, evOr, evAny, evAll, evIfs, evO, Ev.of, startR, Res.of_some, truR, truD, asgT, asgTs, newT, ixD, ixL, atD, ixN', binD, cmpD, cmpO, biD, bi1, bi2, seqD, intD, negD, Res.post_ok, Res.post_bind, Res.post_rs, Res.post_nox, RS.post_fl, e6, e7]
      have bu7 := bu5.ext (x6.trans x7)
      have hj7 := bu7.up j _ jb' hj
      refine nil_post (thn_next (cons_post ?_))
      unfold s__law_list_right_5
      obtain ⟨ne, S8, e8, _, g8, x8⟩ := newL_get (S := S7) (xs := []) (by simp)
      have hj8 := x8 _ _ hj7
      have bu8 := (bu7.ext x8).mono (d := c + 30) (by omega)
      have eqj := eqD_jobs hj8 g8
      refine for_cps (fun xs ρ S' => ∃ (t : Nat) (y4 y5 y6 y7 y8 : Option D), t + xs.length ≤ 3 ∧ (xs ≠ [] → L ≠ []) ∧ ρ = [some (.ref b), some (.ref j), some (.bl bn), some (fr (PW L) (M * M)), y4, y5, y6, y7, y8] ∧ BU b (c + 30 + 2 * t) S S') ⟨[], rngD 0 (if L = [] then 0 else 3)⟩ S8 (evI_rng1 ?_ ?_) ⟨0, _, _, _, _, _, ?_, ?_, rfl, bu8⟩ (fun _ _ _ _ => rfl) ?_ ?_
      · by_cases hL0 : L = []
        · simp [runD, exB, exS, evE, evT, evB, evEs, evAnd, evOr, evAny, evAll, evIfs, evO, Ev.of, startR, Res.of, truR, truD, asgT, asgTs, newT, ixD, ixL, atD, ixN', binD, cmpD, cmpO, biD, bi1, bi2, seqD, intD, Res.bind, Res.rs, RS.seq, Res.nox, e8, eqj, hL0]
        · simp [runD, exB, exS, evE, evT, evB, evEs, evAnd, evOr, evAny, evAll, evIfs, evO, Ev.of, startR, Res.of, truR, truD, asgT, asgTs, newT, ixD, ixL, atD, ixN', binD, cmpD, cmpO, biD, bi1, bi2, seqD, intD, Res.bind, Res.rs, RS.seq, Res.nox, e8, eqj, hL0]
      · by_cases hL0 : L = [] <;> simp [hL0] <;> decide
      · by_cases hL0 : L = [] <;> simp [hL0, rngD]
      · intro hx hL0
        exact hx (by simp [hL0, rngD])
      · rintro v xs ρ S9 ⟨t, y4, y5, y6, y7, y8, ht, hne, rfl, bu9⟩
        have hL0 : L ≠ [] := hne (by simp)
        have lp : 0 < L.length := List.length_pos_iff.mpr hL0
        simp only [List.length_cons] at ht
        have hj9 := bu9.up j _ jb' hj
        refine ⟨[some (.ref b), some (.ref j), some (.bl bn), some (fr (PW L) (M * M)), y4, some v, y6, y7, y8], by rfl, fun Q' hQ' => ?_⟩
        refine cons_post ?_
        unfold s__law_list_right_5_1
        simp [exS_asg, exS_expr, exS_ret, exS_ife, evE, evT, evB, evEs, evAnd, evOr, evAny, evAll, evIfs, evO, Ev.of, startR, Res.of_some, truR, truD, asgT, asgTs, newT, ixD, ixL, atD, ixN', binD, cmpD, cmpO, biD, bi1, bi2, seqD, intD, negD, Res.post_ok, Res.post_bind, Res.post_rs, Res.post_nox, RS.post_fl, lenD, hj9]
        refine (take_eq h.tb.take bu9.box (by omega) (by omega) (by omega)).imp ?_
        rintro v0 Sa ⟨⟨d, rfl, d0, dl⟩, bua⟩
        have bua := bu9.trans bua
        have hja := bua.up j _ jb' hj
        obtain ⟨i, rfl⟩ : ∃ i : Nat, d = i := ⟨d.toNat, by omega⟩
        have il : i < L.length := by omega
        obtain ⟨x, hx⟩ : ∃ x, L[i] = x := ⟨_, rfl⟩
        have ox : okJob M x := hL x (by rw [← hx]; exact List.getElem_mem il)
        simp [exS_asg, exS_expr, exS_ret, exS_ife, evE, evT, evB, evEs, evAnd, evOr, evAny, evAll, evIfs, evO, Ev.of, startR, Res.of_some, truR, truD, asgT, asgTs, newT, ixD, ixL, atD, ixN', binD, cmpD, cmpO, biD, bi1, bi2, seqD, intD, negD, Res.post_ok, Res.post_bind, Res.post_rs, Res.post_nox, RS.post_fl, lenD, hja, il, hx]
        refine (take_eq h.tb.take bua.box (by omega) (by omega) (by omega)).imp ?_
        rintro v0 Sb ⟨⟨d, rfl, d0, dl⟩, bub⟩
        have bub := bua.trans bub
        have hjb := bub.up j _ jb' hj
        obtain ⟨i', rfl⟩ : ∃ i : Nat, d = i := ⟨d.toNat, by omega⟩
        have il' : i' < L.length := by omega
        obtain ⟨y, hy⟩ : ∃ x, L[i'] = x := ⟨_, rfl⟩
        have oy : okJob M y := hL y (by rw [← hy]; exact List.getElem_mem il')
        simp [exS_asg, exS_expr, exS_ret, exS_ife, evE, evT, evB, evEs, evAnd, evOr, evAny, evAll, evIfs, evO, Ev.of, startR, Res.of_some, truR, truD, asgT, asgTs, newT, ixD, ixL, atD, ixN', binD, cmpD, cmpO, biD, bi1, bi2, seqD, intD, negD, Res.post_ok, Res.post_bind, Res.post_rs, Res.post_nox, RS.post_fl, lenD, hjb, il', hy]
        refine thn_next (cons_post ?_)
        unfold s__law_list_right_5_2
        have hMM := Int.mul_pos hMp hMp
        have sMM : Sm (M * M) := hM.s1.mul hM.s1
        have c1 := ltimes_eq (T := T) (w := w) (k := k + 5) (S := Sb) h.tb.toTL hw hMp hMp (ox.s1 hM).sm (oy.s2 hM).sm hM.s1.sm hM.s1.sm
        have c2 := ltimes_eq (T := T) (w := w) (k := k + 5) (S := Sb) h.tb.toTL hw hMp hMp (oy.s1 hM).sm (ox.s2 hM).sm hM.s1.sm hM.s1.sm
        have c3 := llesser_fr (T := T) (w := w) (k := k + 6) (S := Sb) h.tb.toTL hMM ((ox.s1 hM).mul (oy.s2 hM)) ((oy.s1 hM).mul (ox.s2 hM)) sMM
        have c3' : call T w (k + 6 + 2) "_law_lesser" [fr (x.1 * y.2) (M * M), fr (y.1 * x.2) (M * M)] Sb = .ok (fr (mn x y) (M * M)) Sb := c3
        simp [exS_asg, exS_expr, exS_ret, exS_ife, evE, evT, evB, evEs, evAnd, evOr, evAny, evAll, evIfs, evO, Ev.of, startR, Res.of_some, truR, truD, asgT, asgTs, newT, ixD, ixL, atD, ixN', binD, cmpD, cmpO, biD, bi1, bi2, seqD, intD, negD, Res.post_ok, Res.post_bind, Res.post_rs, Res.post_nox, RS.post_fl, jv, jb, c1, c2, c3']
        refine thn_next (cons_post ?_)
        unfold s__law_list_right_5_3
        obtain ⟨Sc, ec, xc⟩ := pair_wait_ok (T := T) (w := w) (k := k + 3) (S := Sb) h.toTF hM ox oy
        have part54 : (exB (PA T w (k + 8)) (CB.cons s__law_list_right_5_4 (CB.cons s__law_list_right_5_5 CB.nil)) [some (.ref b), some (.ref j), some (.bl bn), some (fr (PW L) (M * M)), some (fr (mn x y) (M * M)), some v, some (jv M x), some (jv M y), some (fr (mn x y) (M * M))] Sc).post Q' := by
          have buc := bub.ext xc
          refine cons_post ?_
          unfold s__law_list_right_5_4
          obtain ⟨Sd, ed, xd⟩ := pair_wait_ok (T := T) (w := w) (k := k + 3) (S := Sc) h.toTF hM oy ox
          rw [mn_comm y x] at ed
          simp [exS_asg, exS_expr, exS_ret, exS_ife, evE, evT, evB, evEs, evAnd, evOr, evAny, evAll, evIfs, evO, Ev.of, startR, Res.of_some, truR, truD, asgT, asgTs, newT, ixD, ixL, atD, ixN', binD, cmpD, cmpO, biD, bi1, bi2, seqD, intD, negD, Res.post_ok, Res.post_bind, Res.post_rs, Res.post_nox, RS.post_fl, ed]
          refine newL_post (by simp) fun n1 Se l1 g1 xe => ?_
          (try simp [exS_asg, exS_expr, exS_ret, exS_ife, evE, evT, evB, evEs, evAnd, evOr, evAny, evAll, evIfs, evO, Ev.of, startR, Res.of_some, truR, truD, asgT, asgTs, newT, ixD, ixL, atD, ixN', binD, cmpD, cmpO, biD, bi1, bi2, seqD, intD, negD, Res.post_ok, Res.post_bind, Res.post_rs, Res.post_nox, RS.post_fl])
          refine newL_post (by simp) fun n2 Sf l2 g2 xf => ?_
          have g1 := xf _ _ g1
          obtain ⟨Sg, eg, xg⟩ := same_ok (w := w) h.ts (.lst [frV (mn x y) (M * M), frV (mn x y) (M * M)]) (k + 7) Sf (.ref n1) (.ref n2) ⟨⟨frV_ok, frV_ok, trivial⟩, by simp⟩ (by simp [V.h, V.hs, frV_h]) ⟨n1, _, rfl, g1, _, _, rfl, frV_rep, _, _, rfl, frV_rep, rfl⟩ ⟨n2, _, rfl, g2, _, _, rfl, frV_rep, _, _, rfl, frV_rep, rfl⟩
          simp [exS_asg, exS_expr, exS_ret, exS_ife, evE, evT, evB, evEs, evAnd, evOr, evAny, evAll, evIfs, evO, Ev.of, startR, Res.of_some, truR, truD, asgT, asgTs, newT, ixD, ixL, atD, ixN', binD, cmpD, cmpO, biD, bi1, bi2, seqD, intD, negD, Res.post_ok, Res.post_bind, Res.post_rs, Res.post_nox, RS.post_fl, eg]
          refine nil_post (thn_next (cons_post ?_))
          unfold s__law_list_right_5_5
          (try simp [exS_asg, exS_expr, exS_ret, exS_ife, evE, evT, evB, evEs, evAnd, evOr, evAny, evAll, evIfs, evO, Ev.of, startR, Res.of_some, truR, truD, asgT, asgTs, newT, ixD, ixL, atD, ixN', binD, cmpD, cmpO, biD, bi1, bi2, seqD, intD, negD, Res.post_ok, Res.post_bind, Res.post_rs, Res.post_nox, RS.post_fl])
          refine newL_post (by simp) fun n3 Sh l3 g3 xh => ?_
          obtain ⟨Si, ei, xi⟩ := free_wait_ok (T := T) (w := w) (k := k + 1) (S := Sh) h.toTF hM (d := .ref n3) (L := [x, y]) (.inr ⟨n3, rfl, g3⟩) (by intro z hz; simp at hz; rcases hz with rfl | rfl; exact ox; exact oy) (by simp)
          rw [PW_two] at ei
          have f1 := ltimes_eq (T := T) (w := w) (k := k + 5) (S := Si) h.tb.toTL hw hMp hMp (ox.s1 hM).sm (ox.s2 hM).sm hM.s1.sm hM.s1.sm
          have f2 := ltimes_eq (T := T) (w := w) (k := k + 5) (S := Si) h.tb.toTL hw hMp hMp (oy.s1 hM).sm (oy.s2 hM).sm hM.s1.sm hM.s1.sm
          simp [exS_asg, exS_expr, exS_ret, exS_ife, evE, evT, evB, evEs, evAnd, evOr, evAny, evAll, evIfs, evO, Ev.of, startR, Res.of_some, truR, truD, asgT, asgTs, newT, ixD, ixL, atD, ixN', binD, cmpD, cmpO, biD, bi1, bi2, seqD, intD, negD, Res.post_ok, Res.post_bind, Res.post_rs, Res.post_nox, RS.post_fl, ei, jv, jb, f1, f2]
          refine newL_post (by simp) fun n4 Sj l4 g4 xj => ?_
          have prod : ∀ z : IJ, okJob M z → 0 ≤ z.1 * z.2 ∧ z.1 * z.2 ≤ (14 * M) * (14 * M) := fun z oz => ⟨Int.mul_nonneg oz.p.1 oz.p.2.1, Int.mul_le_mul oz.l1 oz.l2 oz.p.2.1 (by omega)⟩
          have f3 := sum3_ok (T := T) (w := w) (k := k + 4) (S := Sj) h.tb.toTL h.sum hw hM (mn_le hMp ox oy) (prod x ox) (prod y oy) g4
          obtain ⟨Sk, ek, xk⟩ := same_fr (T := T) (w := w) (k := k + 6) (S := Sj) h.ts (a := mn x y + x.1 * x.2 + y.1 * y.2) (M := M * M)
          simp [exS_asg, exS_expr, exS_ret, exS_ife, evE, evT, evB, evEs, evAnd, evOr, evAny, evAll, evIfs, evO, Ev.of, startR, Res.of_some, truR, truD, asgT, asgTs, newT, ixD, ixL, atD, ixN', binD, cmpD, cmpO, biD, bi1, bi2, seqD, intD, negD, Res.post_ok, Res.post_bind, Res.post_rs, Res.post_nox, RS.post_fl, f3, ek]
          refine nil_post (thn_next (nil_post (hQ' _ _ ⟨t + 1, _, _, _, _, _, by omega, ?_, rfl, ?_⟩)))
          · intro _; exact hL0
          · have := buc.ext ((((((xd.trans xe).trans xf).trans xg).trans xh).trans (xi.trans xj)).trans xk)
            exact this.mono (by omega)
        cases bn with
        | true =>
          simp [exS_asg, exS_expr, exS_ret, exS_ife, evE, evT, evB, evEs, evAnd, evOr, evAny, evAll, evIfs, evO, Ev.of, startR, Res.of_some, truR, truD, asgT, asgTs, newT, ixD, ixL, atD, ixN', binD, cmpD, cmpO, biD, bi1, bi2, seqD, intD, negD, Res.post_ok, Res.post_bind, Res.post_rs, Res.post_nox, RS.post_fl]
          rw [byK_pair h.toTF]
          have ec' : call T w (k + 8) "pair_wait" [D.tup [fr x.1 M, fr x.2 M], D.tup [fr y.1 M, fr y.2 M]] Sb = .ok (fr (mn x y) (M * M)) Sc := ec
          simp [exS_asg, exS_expr, exS_ret, exS_ife, evE, evT, evB, evEs, evAnd, evOr, evAny, evAll, evIfs, evO, Ev.of, startR, Res.of_some, truR, truD, asgT, asgTs, newT, ixD, ixL, atD, ixN', binD, cmpD, cmpO, biD, bi1, bi2, seqD, intD, negD, Res.post_ok, Res.post_bind, Res.post_rs, Res.post_nox, RS.post_fl, ec']
          exact thn_next part54
        | false =>
          have ec' : call T w (k + 8) "pair_wait" [D.tup [fr x.1 M, fr x.2 M], D.tup [fr y.1 M, fr y.2 M]] Sb = .ok (fr (mn x y) (M * M)) Sc := ec
          simp [exS_asg, exS_expr, exS_ret, exS_ife, evE, evT, evB, evEs, evAnd, evOr, evAny, evAll, evIfs, evO, Ev.of, startR, Res.of_some, truR, truD, asgT, asgTs, newT, ixD, ixL, atD, ixN', binD, cmpD, cmpO, biD, bi1, bi2, seqD, intD, negD, Res.post_ok, Res.post_bind, Res.post_rs, Res.post_nox, RS.post_fl, ec']
          exact thn_next part54
      · rintro ρ S9 ⟨t, y4, y5, y6, y7, y8, ht, hne, rfl, bu9⟩
        refine thn_next (cons_post ?_)
        unfold s__law_list_right_6
        simp [exS_asg, exS_expr, exS_ret, exS_ife, evE, evT, evB, evEs, evAnd, evOr, evAny, evAll, evIfs, evO, Ev.of, startR, Res.of_some, truR, truD, asgT, asgTs, newT, ixD, ixL, atD, ixN', binD, cmpD, cmpO, biD, bi1, bi2, seqD, intD, negD, Res.post_ok, Res.post_bind, Res.post_rs, Res.post_nox, RS.post_fl, thn_ret, back_ret]
        exact hQ _ (bu9.mono (by omega))
    cases bn with
    | true =>
      simp [exS_asg, exS_expr, exS_ret, exS_ife, evE, evT, evB, evEs, evAnd, evOr, evAny, evAll, evIfs, evO, Ev.of, startR, Res.of_some, truR, truD, asgT, asgTs, newT, ixD, ixL, atD, ixN', binD, cmpD, cmpO, biD, bi1, bi2, seqD, intD, negD, Res.post_ok, Res.post_bind, Res.post_rs, Res.post_nox, RS.post_fl, lstAt, hj2]
      refine newL_post hlen fun n S3 l3 g3 x3 => ?_
      (try simp [exS_asg, exS_expr, exS_ret, exS_ife, evE, evT, evB, evEs, evAnd, evOr, evAny, evAll, evIfs, evO, Ev.of, startR, Res.of_some, truR, truD, asgT, asgTs, newT, ixD, ixL, atD, ixN', binD, cmpD, cmpO, biD, bi1, bi2, seqD, intD, negD, Res.post_ok, Res.post_bind, Res.post_rs, Res.post_nox, RS.post_fl])
      rw [byK_free h.toTF]
      obtain ⟨S4, e4, x4⟩ := free_wait_ok (T := T) (w := w) (k := k + 1) (S := S3) h.toTF hM (.inr ⟨n, rfl, g3⟩) hL hl
      simp [exS_asg, exS_expr, exS_ret, exS_ife, evE, evT, evB, evEs, evAnd, evOr, evAny, evAll, evIfs, evO, Ev.of, startR, Res.of_some, truR, truD, asgT, asgTs, newT, ixD, ixL, atD, ixN', binD, cmpD, cmpO, biD, bi1, bi2, seqD, intD, negD, Res.post_ok, Res.post_bind, Res.post_rs, Res.post_nox, RS.post_fl, e4]
      exact thn_next (part4 S4 ((x2.trans x3).trans x4))
    | false =>
      obtain ⟨S4, e4, x4⟩ := free_wait_ok (T := T) (w := w) (k := k + 1) (S := S2) h.toTF hM (.inl rfl) hL hl
      have hl16 : L.length ≤ 16000000 := by omega
      simp [exS_asg, exS_expr, exS_ret, exS_ife, evE, evT, evB, evEs, evAnd, evOr, evAny, evAll, evIfs, evO, Ev.of, startR, Res.of_some, truR, truD, asgT, asgTs, newT, ixD, ixL, atD, ixN', binD, cmpD, cmpO, biD, bi1, bi2, seqD, intD, negD, Res.post_ok, Res.post_bind, Res.post_rs, Res.post_nox, RS.post_fl, lstAt, hj2, hl16, e4]
      exact thn_next (part4 S4 (x2.trans x4))
  by_cases h7 : L.length < 7
  · have h7' : (L.length : Int) < 7 := by omega
    simp [exS_asg, exS_expr, exS_ret, exS_ife, evE, evT, evB, evEs, evAnd, evOr, evAny, evAll, evIfs, evO, Ev.of, startR, Res.of_some, truR, truD, asgT, asgTs, newT, ixD, ixL, atD, ixN', binD, cmpD, cmpO, biD, bi1, bi2, seqD, intD, negD, Res.post_ok, Res.post_bind, Res.post_rs, Res.post_nox, RS.post_fl, lenD, hj1, h7']
    refine newL_post (by simp) fun e0 S2 l2 g2 x2 => ?_
    (try simp [exS_asg, exS_expr, exS_ret, exS_ife, evE, evT, evB, evEs, evAnd, evOr, evAny, evAll, evIfs, evO, Ev.of, startR, Res.of_some, truR, truD, asgT, asgTs, newT, ixD, ixL, atD, ixN', binD, cmpD, cmpO, biD, bi1, bi2, seqD, intD, negD, Res.post_ok, Res.post_bind, Res.post_rs, Res.post_nox, RS.post_fl])
    refine least_post (k := k + 5) h.tw hw hM (x2 _ _ hj1) g2 hL h7 fun S3 x3 => ?_
    simp [exS_asg, exS_expr, exS_ret, exS_ife, evE, evT, evB, evEs, evAnd, evOr, evAny, evAll, evIfs, evO, Ev.of, startR, Res.of_some, truR, truD, asgT, asgTs, newT, ixD, ixL, atD, ixN', binD, cmpD, cmpO, biD, bi1, bi2, seqD, intD, negD, Res.post_ok, Res.post_bind, Res.post_rs, Res.post_nox, RS.post_fl, eqD_fr]
    exact nil_post (thn_next (part3 S3 ((x1.trans x2).trans x3)))
  · have h7' : ¬ (L.length : Int) < 7 := by omega
    simp [exS_asg, exS_expr, exS_ret, exS_ife, evE, evT, evB, evEs, evAnd, evOr, evAny, evAll, evIfs, evO, Ev.of, startR, Res.of_some, truR, truD, asgT, asgTs, newT, ixD, ixL, atD, ixN', binD, cmpD, cmpO, biD, bi1, bi2, seqD, intD, negD, Res.post_ok, Res.post_bind, Res.post_rs, Res.post_nox, RS.post_fl, lenD, hj1, h7']
    exact nil_post (thn_next (part3 S1 x1))
end G

end

section
set_option Elab.async false
set_option linter.all false
set_option maxHeartbeats 0
set_option maxRecDepth 100000
set_option exponentiation.threshold 10000
/-! K12: what is a job, a list of jobs, of any value; the refusals. -/
namespace G
open PySem
variable {T : Tbl} {w k : Nat} {S : Sto}
def isIntV : V → Bool
  | .int _ => true
  | _ => false
def twoV : V → Bool
  | .tup l => decide (l.length = 2)
  | _ => false
def isFrV : V → Bool
  | .tup [.int a, .int b] => decide (0 < b) && decide (Nat.gcd a.natAbs b.natAbs = 1)
  | _ => false
def isAmV : V → Bool
  | .tup [.int a, .int b] => isFrV (.tup [.int a, .int b]) && decide (0 ≤ a)
  | _ => false
def isJobV : V → Bool
  | .tup [.tup [.int a, .int b], .tup [.int c, .int d]] => isAmV (.tup [.int a, .int b]) && isAmV (.tup [.int c, .int d]) && !(decide (a = 0) && decide (b = 1) && decide (c = 0) && decide (d = 1))
  | _ => false
theorem is_integer_V (h : TJ T) {v : V} {d : D} (hr : Rep S v d) : call T w (k + 1) "is_integer" [d] S = .ok (.bl (isIntV v)) S := by
  rw [call_eq h.is_integer rfl]
  cases v with
  | non => rw [hr]; simp [runD, exB, exS, evE, evT, evB, evEs, evAnd, evOr, evAny, evAll, evIfs, evO, Ev.of, startR, Res.of, truR, truD, asgT, asgTs, newT, newL, newR, ixD, ixL, atD, ixN', binD, cmpD, cmpO, biD, bi1, bi2, seqD, intD, Res.bind, Res.rs, RS.seq, Res.nox, c_is_integer, tyD, isTy, isIntV]
  | bl b => rw [hr]; simp [runD, exB, exS, evE, evT, evB, evEs, evAnd, evOr, evAny, evAll, evIfs, evO, Ev.of, startR, Res.of, truR, truD, asgT, asgTs, newT, newL, newR, ixD, ixL, atD, ixN', binD, cmpD, cmpO, biD, bi1, bi2, seqD, intD, Res.bind, Res.rs, RS.seq, Res.nox, c_is_integer, tyD, isTy, isIntV]
  | int i => rw [hr]; simp [runD, exB, exS, evE, evT, evB, evEs, evAnd, evOr, evAny, evAll, evIfs, evO, Ev.of, startR, Res.of, truR, truD, asgT, asgTs, newT, newL, newR, ixD, ixL, atD, ixN', binD, cmpD, cmpO, biD, bi1, bi2, seqD, intD, Res.bind, Res.rs, RS.seq, Res.nox, c_is_integer, tyD, isTy, isIntV]
  | str s => rw [hr]; simp [runD, exB, exS, evE, evT, evB, evEs, evAnd, evOr, evAny, evAll, evIfs, evO, Ev.of, startR, Res.of, truR, truD, asgT, asgTs, newT, newL, newR, ixD, ixL, atD, ixN', binD, cmpD, cmpO, biD, bi1, bi2, seqD, intD, Res.bind, Res.rs, RS.seq, Res.nox, c_is_integer, tyD, isTy, isIntV]
  | tup l => obtain ⟨ds, rfl, _⟩ := hr; simp [runD, exB, exS, evE, evT, evB, evEs, evAnd, evOr, evAny, evAll, evIfs, evO, Ev.of, startR, Res.of, truR, truD, asgT, asgTs, newT, newL, newR, ixD, ixL, atD, ixN', binD, cmpD, cmpO, biD, bi1, bi2, seqD, intD, Res.bind, Res.rs, RS.seq, Res.nox, c_is_integer, tyD, isTy, isIntV]
  | lst l => obtain ⟨n, ds, rfl, g, _⟩ := hr; simp [runD, exB, exS, evE, evT, evB, evEs, evAnd, evOr, evAny, evAll, evIfs, evO, Ev.of, startR, Res.of, truR, truD, asgT, asgTs, newT, newL, newR, ixD, ixL, atD, ixN', binD, cmpD, cmpO, biD, bi1, bi2, seqD, intD, Res.bind, Res.rs, RS.seq, Res.nox, c_is_integer, tyD, isTy, isIntV, g]
  | dct => obtain ⟨n, rfl, g⟩ := hr; simp [runD, exB, exS, evE, evT, evB, evEs, evAnd, evOr, evAny, evAll, evIfs, evO, Ev.of, startR, Res.of, truR, truD, asgT, asgTs, newT, newL, newR, ixD, ixL, atD, ixN', binD, cmpD, cmpO, biD, bi1, bi2, seqD, intD, Res.bind, Res.rs, RS.seq, Res.nox, c_is_integer, tyD, isTy, isIntV, g]
theorem is_tuple_V (h : TJ T) {v : V} {d : D} (hr : Rep S v d) : call T w (k + 1) "is_tuple" [d, .int 2] S = .ok (.bl (twoV v)) S := by
  rw [call_eq h.is_tuple rfl]
  cases v with
  | non => rw [hr]; simp [runD, exB, exS, evE, evT, evB, evEs, evAnd, evOr, evAny, evAll, evIfs, evO, Ev.of, startR, Res.of, truR, truD, asgT, asgTs, newT, newL, newR, ixD, ixL, atD, ixN', binD, cmpD, cmpO, biD, bi1, bi2, seqD, intD, Res.bind, Res.rs, RS.seq, Res.nox, c_is_tuple, tyD, isTy, twoV]
  | bl b => rw [hr]; simp [runD, exB, exS, evE, evT, evB, evEs, evAnd, evOr, evAny, evAll, evIfs, evO, Ev.of, startR, Res.of, truR, truD, asgT, asgTs, newT, newL, newR, ixD, ixL, atD, ixN', binD, cmpD, cmpO, biD, bi1, bi2, seqD, intD, Res.bind, Res.rs, RS.seq, Res.nox, c_is_tuple, tyD, isTy, twoV]
  | int i => rw [hr]; simp [runD, exB, exS, evE, evT, evB, evEs, evAnd, evOr, evAny, evAll, evIfs, evO, Ev.of, startR, Res.of, truR, truD, asgT, asgTs, newT, newL, newR, ixD, ixL, atD, ixN', binD, cmpD, cmpO, biD, bi1, bi2, seqD, intD, Res.bind, Res.rs, RS.seq, Res.nox, c_is_tuple, tyD, isTy, twoV]
  | str s => rw [hr]; simp [runD, exB, exS, evE, evT, evB, evEs, evAnd, evOr, evAny, evAll, evIfs, evO, Ev.of, startR, Res.of, truR, truD, asgT, asgTs, newT, newL, newR, ixD, ixL, atD, ixN', binD, cmpD, cmpO, biD, bi1, bi2, seqD, intD, Res.bind, Res.rs, RS.seq, Res.nox, c_is_tuple, tyD, isTy, twoV]
  | tup l =>
    obtain ⟨ds, rfl, hr⟩ := hr
    have := hr.len
    simp [runD, exB, exS, evE, evT, evB, evEs, evAnd, evOr, evAny, evAll, evIfs, evO, Ev.of, startR, Res.of, truR, truD, asgT, asgTs, newT, newL, newR, ixD, ixL, atD, ixN', binD, cmpD, cmpO, biD, bi1, bi2, seqD, intD, Res.bind, Res.rs, RS.seq, Res.nox, c_is_tuple, tyD, isTy, lenD, eqD_int, this, twoV]
    omega
  | lst l => obtain ⟨n, ds, rfl, g, _⟩ := hr; simp [runD, exB, exS, evE, evT, evB, evEs, evAnd, evOr, evAny, evAll, evIfs, evO, Ev.of, startR, Res.of, truR, truD, asgT, asgTs, newT, newL, newR, ixD, ixL, atD, ixN', binD, cmpD, cmpO, biD, bi1, bi2, seqD, intD, Res.bind, Res.rs, RS.seq, Res.nox, c_is_tuple, tyD, isTy, g, twoV]
  | dct => obtain ⟨n, rfl, g⟩ := hr; simp [runD, exB, exS, evE, evT, evB, evEs, evAnd, evOr, evAny, evAll, evIfs, evO, Ev.of, startR, Res.of, truR, truD, asgT, asgTs, newT, newL, newR, ixD, ixL, atD, ixN', binD, cmpD, cmpO, biD, bi1, bi2, seqD, intD, Res.bind, Res.rs, RS.seq, Res.nox, c_is_tuple, tyD, isTy, g, twoV]
/-- a tuple of two -/
theorem two_cases (v : V) : (∃ a b, v = .tup [a, b]) ∨ twoV v = false := by
  cases v with
  | tup l =>
    by_cases hl : l.length = 2
    · match l, hl with
      | [a, b], _ => exact .inl ⟨a, b, rfl⟩
    · exact .inr (by simp [twoV, hl])
  | _ => exact .inr rfl
theorem isFrV_two {a b : V} : isFrV (.tup [a, b]) = (isIntV a && isIntV b && isFrV (.tup [a, b])) := by
  cases a <;> cases b <;> simp [isFrV, isIntV]
theorem is_fraction_V (h : TJ T) {v : V} {d : D} (hr : Rep S v d) : ∃ S', call T w (k + 2) "is_fraction" [d] S = .ok (.bl (isFrV v)) S' ∧ Ext S S' := by
  have h1 := is_tuple_V (w := w) (k := k) h hr
  rcases two_cases v with ⟨a, b, rfl⟩ | hf
  · obtain ⟨ds, rfl, d1, ds1, rfl, r1, d2, ds2, rfl, r2, rfl⟩ := hr
    have i1 := fun (S' : Sto) (x : Ext S S') => is_integer_V (w := w) (k := k) h (r1.ext x)
    have i2 := fun (S' : Sto) (x : Ext S S') => is_integer_V (w := w) (k := k) h (r2.ext x)
    have i1' := i1 S (Ext.refl S)
    have i2' := i2 S (Ext.refl S)
    refine ⟨S ++ [.lst [.bl (isIntV a), .bl (isIntV b)]], ?_, Ext.app _ _⟩
    rw [call_eq h.is_fraction rfl]
    have cl : ∀ b1 b2 : Bool, mapO blD [.bl b1, .bl b2] = some [b1, b2] := fun _ _ => rfl
    have h1 : call T w (k + 1) "is_tuple" [.tup [d1, d2], .int 2] S = .ok (.bl true) S := h1
    simp [runD, exB, exS, evE, evT, evB, evEs, evAnd, evOr, evAny, evAll, evIfs, evO, Ev.of, startR, Res.of, truR, truD, asgT, asgTs, newT, newL, newR, ixD, ixL, atD, ixN', binD, cmpD, cmpO, biD, bi1, bi2, seqD, intD, Res.bind, Res.rs, RS.seq, Res.nox, c_is_fraction, h1, i1', i2', lcD, dictAt, lcA, evI, seqIt, lcL, It.ok, asgP, wipeR, lstAt, cl]
    cases ha : isIntV a with
    | false =>
      rw [isFrV_two, ha]; simp
    | true =>
      cases hb : isIntV b with
      | false => rw [isFrV_two, hb]; simp
      | true =>
        cases a <;> simp [isIntV] at ha
        cases b <;> simp [isIntV] at hb
        rename_i x y
        rw [show d1 = .int x from r1, show d2 = .int y from r2]
        simp [isFrV, eqD_int]
        by_cases hy : 0 < y
        · simp [hy]
          omega
        · simp [hy]
  · rw [hf] at h1
    refine ⟨S, ?_, Ext.refl S⟩
    rw [call_eq h.is_fraction rfl]
    have : isFrV v = false := by
      cases v with
      | tup l => match l with
        | [] => simp [isFrV]
        | [_] => simp [isFrV]
        | [_, _] => simp [twoV] at hf
        | _ :: _ :: _ :: _ => simp [isFrV]
      | _ => simp [isFrV]
    rw [this]
    simp [runD, exB, exS, evE, evT, evB, evEs, evAnd, evOr, evAny, evAll, evIfs, evO, Ev.of, startR, Res.of, truR, truD, asgT, asgTs, newT, newL, newR, ixD, ixL, atD, ixN', binD, cmpD, cmpO, biD, bi1, bi2, seqD, intD, Res.bind, Res.rs, RS.seq, Res.nox, c_is_fraction, h1]
theorem isFr_form {v : V} (h : isFrV v = true) : ∃ a b, v = .tup [.int a, .int b] := by
  unfold isFrV at h
  split at h
  · exact ⟨_, _, rfl⟩
  · simp at h
theorem isAm_form {v : V} (h : isAmV v = true) : ∃ a b, v = .tup [.int a, .int b] := by
  unfold isAmV at h
  split at h
  · exact ⟨_, _, rfl⟩
  · simp at h
theorem isAm_not {v : V} (h : isFrV v = false) : isAmV v = false := by
  unfold isAmV
  split
  · simp [h]
  · rfl
theorem is_amount_V (h : TJ T) {v : V} {d : D} (hr : Rep S v d) : ∃ S', call T w (k + 3) "is_amount" [d] S = .ok (.bl (isAmV v)) S' ∧ Ext S S' := by
  obtain ⟨S', e, x⟩ := is_fraction_V (w := w) (k := k) h hr
  refine ⟨S', ?_, x⟩
  rw [call_eq h.is_amount rfl]
  cases hf : isFrV v with
  | false =>
    rw [hf] at e
    rw [isAm_not hf]
    simp [runD, exB, exS, evE, evT, evB, evEs, evAnd, evOr, evAny, evAll, evIfs, evO, Ev.of, startR, Res.of, truR, truD, asgT, asgTs, newT, newL, newR, ixD, ixL, atD, ixN', binD, cmpD, cmpO, biD, bi1, bi2, seqD, intD, Res.bind, Res.rs, RS.seq, Res.nox, c_is_amount, e]
  | true =>
    obtain ⟨a, b, rfl⟩ := isFr_form hf
    rw [hf] at e
    obtain ⟨ds, rfl, d1, ds1, rfl, r1, d2, ds2, rfl, r2, rfl⟩ := hr
    rw [show d1 = .int a from r1, show d2 = .int b from r2] at e ⊢
    simp [runD, exB, exS, evE, evT, evB, evEs, evAnd, evOr, evAny, evAll, evIfs, evO, Ev.of, startR, Res.of, truR, truD, asgT, asgTs, newT, newL, newR, ixD, ixL, atD, ixN', binD, cmpD, cmpO, biD, bi1, bi2, seqD, intD, Res.bind, Res.rs, RS.seq, Res.nox, c_is_amount, e, isAmV, hf]
theorem isJob_not {x y : V} (h : (isAmV x && isAmV y) = false) : isJobV (.tup [x, y]) = false := by
  unfold isJobV
  split
  · rename_i heq
    simp at heq
    obtain ⟨rfl, rfl⟩ := heq
    simp [h]
  · rfl
theorem isJob_two {v : V} (h : twoV v = false) : isJobV v = false := by
  unfold isJobV
  split
  · simp [twoV] at h
  · rfl
theorem is_job_V (h : TJ T) {v : V} {d : D} (hr : Rep S v d) : ∃ S', call T w (k + 4) "is_job" [d] S = .ok (.bl (isJobV v)) S' ∧ Ext S S' := by
  have h1 := is_tuple_V (w := w) (k := k + 2) h hr
  rcases two_cases v with ⟨a, b, rfl⟩ | hf
  · obtain ⟨ds, rfl, d1, ds1, rfl, r1, d2, ds2, rfl, r2, rfl⟩ := hr
    have t0 : call T w (k + 3) "is_tuple" [.tup [d1, d2], .int 2] S = .ok (.bl true) S := h1
    clear h1
    obtain ⟨S1, e1, x1⟩ := is_amount_V (w := w) (k := k) h r1
    obtain ⟨S2, e2, x2⟩ := is_amount_V (w := w) (k := k) h (r2.ext x1)
    rw [call_eq h.is_job rfl]
    cases ha : isAmV a with
    | false =>
      rw [ha] at e1
      refine ⟨S1, ?_, x1⟩
      rw [isJob_not (by rw [ha]; rfl)]
      simp [runD, exB, exS, evE, evT, evB, evEs, evAnd, evOr, evAny, evAll, evIfs, evO, Ev.of, startR, Res.of, truR, truD, asgT, asgTs, newT, newL, newR, ixD, ixL, atD, ixN', binD, cmpD, cmpO, biD, bi1, bi2, seqD, intD, Res.bind, Res.rs, RS.seq, Res.nox, c_is_job, t0, e1]
    | true =>
      rw [ha] at e1
      cases hb : isAmV b with
      | false =>
        rw [hb] at e2
        refine ⟨S2, ?_, x1.trans x2⟩
        rw [isJob_not (by rw [hb]; simp)]
        simp [runD, exB, exS, evE, evT, evB, evEs, evAnd, evOr, evAny, evAll, evIfs, evO, Ev.of, startR, Res.of, truR, truD, asgT, asgTs, newT, newL, newR, ixD, ixL, atD, ixN', binD, cmpD, cmpO, biD, bi1, bi2, seqD, intD, Res.bind, Res.rs, RS.seq, Res.nox, c_is_job, t0, e1, e2]
      | true =>
        rw [hb] at e2
        refine ⟨S2, ?_, x1.trans x2⟩
        obtain ⟨p, q, rfl⟩ := isAm_form ha
        obtain ⟨p', q', rfl⟩ := isAm_form hb
        obtain ⟨ds, rfl, u1, us1, rfl, s1, u2, us2, rfl, s2, rfl⟩ := r1
        obtain ⟨ds, rfl, w1, ws1, rfl, t1, w2, ws2, rfl, t2, rfl⟩ := r2
        rw [show u1 = .int p from s1, show u2 = .int q from s2] at t0 e1 ⊢
        rw [show w1 = .int p' from t1, show w2 = .int q' from t2] at t0 e2 ⊢
        simp [runD, exB, exS, evE, evT, evB, evEs, evAnd, evOr, evAny, evAll, evIfs, evO, Ev.of, startR, Res.of, truR, truD, asgT, asgTs, newT, newL, newR, ixD, ixL, atD, ixN', binD, cmpD, cmpO, biD, bi1, bi2, seqD, intD, Res.bind, Res.rs, RS.seq, Res.nox, c_is_job, t0, e1, e2, h.zero, eqD_22, isJobV, ha, hb]
        by_cases z1 : p = 0 <;> by_cases z2 : q = 1 <;> by_cases z3 : p' = 0 <;> by_cases z4 : q' = 1 <;> simp_all
  · rw [hf] at h1
    rw [isJob_two hf]
    refine ⟨S, ?_, Ext.refl S⟩
    rw [call_eq h.is_job rfl]
    simp [runD, exB, exS, evE, evT, evB, evEs, evAnd, evOr, evAny, evAll, evIfs, evO, Ev.of, startR, Res.of, truR, truD, asgT, asgTs, newT, newL, newR, ixD, ixL, atD, ixN', binD, cmpD, cmpO, biD, bi1, bi2, seqD, intD, Res.bind, Res.rs, RS.seq, Res.nox, c_is_job, h1]
/-- whether a value is a list of at most 30 jobs -/
def freeV : V → Bool
  | .tup l => decide (l.length ≤ 30) && l.all isJobV
  | .lst l => decide (l.length ≤ 30) && l.all isJobV
  | _ => false
theorem job_lc (h : TJ T) {l : List V} {d : D} {ds : List D} (hd : Seq S d ds) (hr : Reps S l ds) (hl : l.length ≤ 30) : ∃ n S', (evB (PA T w (k + 4)).toPar (.lc (.nm 1) (.seq (.var 0)) .nil [1] (.call "is_job" (.cons false (.var 1) .nil)))).v [some d, none] S = .ok (.ref n) S' ∧ S'[n]? = some (.lst (l.map fun v => .bl (isJobV v))) ∧ Ext S S' := by
  obtain ⟨chk, hs, hok⟩ := hd.it
  have := lc_cps (P := (PA T w (k + 4)).toPar) (g := .nm 1) (it := .seq (.var 0)) (vs := [1]) (elt := .call "is_job" (.cons false (.var 1) .nil)) (ρ := [some d, none]) (S := S) (Q := fun v S' => ∃ n, v = .ref n ∧ S'[n]? = some (.lst (l.map fun v => .bl (isJobV v))) ∧ Ext S S') (fun xs acc S' => ∃ l1 l2 : List V, l = l1 ++ l2 ∧ Reps S l2 xs ∧ acc = l1.map (fun v => .bl (isJobV v)) ∧ Ext S S') ⟨chk, ds⟩ S (hd.nd rfl) (evI_seq (by rfl) hs) ⟨[], l, rfl, hr, rfl, Ext.refl S⟩ (by have := hr.len; simp; omega) (fun _ _ S' ⟨_, _, _, _, _, e⟩ => hok _ _ e) ?_ ?_
  · obtain ⟨v, S', e, n, rfl, h1, h2⟩ := this.get
    exact ⟨n, S', e, h1, h2⟩
  · rintro x xs acc S' ⟨l1, l2, e0, r2, rfl, x1⟩
    cases l2 with
    | nil => simp [Reps] at r2
    | cons v l2 =>
      obtain ⟨d0, ds0, e1, r3, r4⟩ := r2
      simp at e1
      obtain ⟨rfl, rfl⟩ := e1
      obtain ⟨S2, e2, x2⟩ := is_job_V (w := w) (k := k) h (r3.ext x1 v)
      refine ⟨[some d, some x], by rfl, fun Q' hQ' => ?_⟩
      simp [exS_asg, exS_expr, exS_ret, exS_ife, evE, evT, evB, evEs, evAnd, evOr, evAny, evAll, evIfs, evO, Ev.of, startR, Res.of_some, truR, truD, asgT, asgTs, newT, ixD, ixL, atD, ixN', binD, cmpD, cmpO, biD, bi1, bi2, seqD, intD, negD, Res.post_ok, Res.post_bind, Res.post_rs, Res.post_nox, RS.post_fl, e2]
      exact hQ' _ _ ⟨l1 ++ [v], l2, by simp [e0], r4, by simp, x1.trans x2⟩
  · rintro ys S' S2 n ⟨l1, l2, e0, r2, rfl, x1⟩ x2 g hn
    cases l2 with
    | nil =>
      simp at e0; subst e0
      exact ⟨n, rfl, g, x1.trans x2⟩
    | cons v l2 =>
      obtain ⟨d0, ds0, e1, _⟩ := r2
      simp at e1
theorem bl_map : ∀ l : List V, mapO blD (l.map fun v => .bl (isJobV v)) = some (l.map isJobV)
  | [] => rfl
  | v :: l => by simp [mapO, blD, bl_map l]
theorem free_seq (h : TF T) {l : List V} {d : D} {ds : List D} (hd : Seq S d ds) (hr : Reps S l ds) : ∃ S', call T w (k + 5) "are_free" [d] S = .ok (.bl (decide (l.length ≤ 30) && l.all isJobV)) S' ∧ Ext S S' := by
  have c1 := is_list_ok (T := T) (w := w) (k := k + 3) (S := S) h.toTJ hd
  have hlen := hd.len
  rw [hr.len] at hlen
  by_cases hl : l.length ≤ 30
  · have hl' : (l.length : Int) ≤ 30 := by omega
    obtain ⟨n, S', e, g, x⟩ := job_lc (T := T) (w := w) (k := k) h.toTJ hd hr hl
    refine ⟨S', ?_, x⟩
    rw [call_eq h.are_free rfl]
    unfold c_are_free
    generalize CE.lc (.nm 1) (.seq (.var 0)) .nil [1] (.call "is_job" (.cons false (.var 1) .nil)) = lc at e ⊢
    have e' : (evB (PA T w (k + 4)).toPar lc).v [some d, none] S = .ok (.ref n) S' := e
    simp [runD, exB, exS, evE, evT, evB, evEs, evAnd, evOr, evAny, evAll, evIfs, evO, Ev.of, startR, Res.of, truR, truD, asgT, asgTs, newT, newL, newR, ixD, ixL, atD, ixN', binD, cmpD, cmpO, biD, bi1, bi2, seqD, intD, Res.bind, Res.rs, RS.seq, Res.nox, c1, hlen, h.most, hl', e', lstAt, g, bl_map, hl]
  · have hl' : ¬ (l.length : Int) ≤ 30 := by omega
    refine ⟨S, ?_, Ext.refl S⟩
    rw [call_eq h.are_free rfl]
    simp [runD, exB, exS, evE, evT, evB, evEs, evAnd, evOr, evAny, evAll, evIfs, evO, Ev.of, startR, Res.of, truR, truD, asgT, asgTs, newT, newL, newR, ixD, ixL, atD, ixN', binD, cmpD, cmpO, biD, bi1, bi2, seqD, intD, Res.bind, Res.rs, RS.seq, Res.nox, c_are_free, c1, hlen, h.most, hl', hl]
theorem are_free_V (h : TF T) {v : V} {d : D} (hr : Rep S v d) : ∃ S', call T w (k + 5) "are_free" [d] S = .ok (.bl (freeV v)) S' ∧ Ext S S' := by
  have no : call T w (k + 4) "is_list" [d] S = .ok (.bl false) S → freeV v = false → ∃ S', call T w (k + 5) "are_free" [d] S = .ok (.bl (freeV v)) S' ∧ Ext S S' := by
    intro e hf
    refine ⟨S, ?_, Ext.refl S⟩
    rw [hf, call_eq h.are_free rfl]
    simp [runD, exB, exS, evE, evT, evB, evEs, evAnd, evOr, evAny, evAll, evIfs, evO, Ev.of, startR, Res.of, truR, truD, asgT, asgTs, newT, newL, newR, ixD, ixL, atD, ixN', binD, cmpD, cmpO, biD, bi1, bi2, seqD, intD, Res.bind, Res.rs, RS.seq, Res.nox, c_are_free, e]
  cases v with
  | tup l => obtain ⟨ds, rfl, hr⟩ := hr; exact free_seq h (.inl rfl) hr
  | lst l => obtain ⟨n, ds, rfl, g, hr⟩ := hr; exact free_seq h (.inr ⟨n, rfl, g⟩) hr
  | non => refine no ?_ rfl; rw [hr, call_eq h.is_list rfl]; simp [runD, exB, exS, evE, evT, evB, evEs, evAnd, evOr, evAny, evAll, evIfs, evO, Ev.of, startR, Res.of, truR, truD, asgT, asgTs, newT, newL, newR, ixD, ixL, atD, ixN', binD, cmpD, cmpO, biD, bi1, bi2, seqD, intD, Res.bind, Res.rs, RS.seq, Res.nox, c_is_list, tyD, isTy]
  | bl b => refine no ?_ rfl; rw [hr, call_eq h.is_list rfl]; simp [runD, exB, exS, evE, evT, evB, evEs, evAnd, evOr, evAny, evAll, evIfs, evO, Ev.of, startR, Res.of, truR, truD, asgT, asgTs, newT, newL, newR, ixD, ixL, atD, ixN', binD, cmpD, cmpO, biD, bi1, bi2, seqD, intD, Res.bind, Res.rs, RS.seq, Res.nox, c_is_list, tyD, isTy]
  | int b => refine no ?_ rfl; rw [hr, call_eq h.is_list rfl]; simp [runD, exB, exS, evE, evT, evB, evEs, evAnd, evOr, evAny, evAll, evIfs, evO, Ev.of, startR, Res.of, truR, truD, asgT, asgTs, newT, newL, newR, ixD, ixL, atD, ixN', binD, cmpD, cmpO, biD, bi1, bi2, seqD, intD, Res.bind, Res.rs, RS.seq, Res.nox, c_is_list, tyD, isTy]
  | str b => refine no ?_ rfl; rw [hr, call_eq h.is_list rfl]; simp [runD, exB, exS, evE, evT, evB, evEs, evAnd, evOr, evAny, evAll, evIfs, evO, Ev.of, startR, Res.of, truR, truD, asgT, asgTs, newT, newL, newR, ixD, ixL, atD, ixN', binD, cmpD, cmpO, biD, bi1, bi2, seqD, intD, Res.bind, Res.rs, RS.seq, Res.nox, c_is_list, tyD, isTy]
  | dct => refine no ?_ rfl; obtain ⟨n, rfl, g⟩ := hr; rw [call_eq h.is_list rfl]; simp [runD, exB, exS, evE, evT, evB, evEs, evAnd, evOr, evAny, evAll, evIfs, evO, Ev.of, startR, Res.of, truR, truD, asgT, asgTs, newT, newL, newR, ixD, ixL, atD, ixN', binD, cmpD, cmpO, biD, bi1, bi2, seqD, intD, Res.bind, Res.rs, RS.seq, Res.nox, c_is_list, tyD, isTy, g]
/-- what the refusals lean on -/
structure TA (T : Tbl) : Prop extends TF T where
  asked : T.defs "_law_asked" = some c__law_asked
  ej : T.cls "InvalidJob" = some (some ("given" : Str))
  ejs : T.cls "InvalidJobs" = some (some ("given" : Str))
  s1 : T.sub "InvalidJob" "InvalidJob" = some true
  s2 : T.sub "InvalidJob" "WaitError" = some true
  s3 : T.sub "InvalidJob" "ValueError" = some true
  s4 : T.sub "InvalidJobs" "InvalidJob" = some false
  s5 : T.sub "InvalidJobs" "InvalidJobs" = some true
  s6 : T.sub "InvalidJobs" "WaitError" = some true
theorem pair_bad1 (h : TA T) {v1 : V} {d1 d2 : D} (r1 : Rep S v1 d1) (hv : isJobV v1 = false) : ∃ S', call T w (k + 5) "pair_wait" [d1, d2] S = .exc "InvalidJob" (some ("given", d1)) S' ∧ Ext S S' := by
  obtain ⟨S1, e1, x1⟩ := is_job_V (w := w) (k := k) h.toTJ r1
  rw [hv] at e1
  refine ⟨S1, ?_, x1⟩
  rw [call_eq h.pair_wait rfl]
  simp [runD, exB, exS, evE, evT, evB, evEs, evAnd, evOr, evAny, evAll, evIfs, evO, Ev.of, startR, Res.of, truR, truD, asgT, asgTs, newT, newL, newR, ixD, ixL, atD, ixN', binD, cmpD, cmpO, biD, bi1, bi2, seqD, intD, Res.bind, Res.rs, RS.seq, Res.nox, c_pair_wait, s_pair_wait_1, s_pair_wait_1_1, s_pair_wait_1_1_1, s_pair_wait_2, evI, seqIt, forL, It.ok, asgP, e1, h.ej]
theorem pair_bad2 (h : TA T) {v1 v2 : V} {d1 d2 : D} (r1 : Rep S v1 d1) (r2 : Rep S v2 d2) (hv1 : isJobV v1 = true) (hv : isJobV v2 = false) : ∃ S', call T w (k + 5) "pair_wait" [d1, d2] S = .exc "InvalidJob" (some ("given", d2)) S' ∧ Ext S S' := by
  obtain ⟨S1, e1, x1⟩ := is_job_V (w := w) (k := k) h.toTJ r1
  obtain ⟨S2, e2, x2⟩ := is_job_V (w := w) (k := k) h.toTJ (r2.ext x1)
  rw [hv1] at e1
  rw [hv] at e2
  refine ⟨S2, ?_, x1.trans x2⟩
  rw [call_eq h.pair_wait rfl]
  simp [runD, exB, exS, evE, evT, evB, evEs, evAnd, evOr, evAny, evAll, evIfs, evO, Ev.of, startR, Res.of, truR, truD, asgT, asgTs, newT, newL, newR, ixD, ixL, atD, ixN', binD, cmpD, cmpO, biD, bi1, bi2, seqD, intD, Res.bind, Res.rs, RS.seq, Res.nox, c_pair_wait, s_pair_wait_1, s_pair_wait_1_1, s_pair_wait_1_1_1, s_pair_wait_2, evI, seqIt, forL, It.ok, asgP, e1, e2, h.ej]
theorem free_bad (h : TA T) {v : V} {d : D} (r : Rep S v d) (hv : freeV v = false) : ∃ S', call T w (k + 7) "free_wait" [d] S = .exc "InvalidJobs" (some ("given", d)) S' ∧ Ext S S' := by
  obtain ⟨S1, e1, x1⟩ := are_free_V (w := w) (k := k) h.toTF r
  rw [hv] at e1
  have e2 : call T w (k + 6) "check_jobs" [d] S = .exc "InvalidJobs" (some ("given", d)) S1 := by
    rw [call_eq h.check_jobs rfl]
    simp [runD, exB, exS, evE, evT, evB, evEs, evAnd, evOr, evAny, evAll, evIfs, evO, Ev.of, startR, Res.of, truR, truD, asgT, asgTs, newT, newL, newR, ixD, ixL, atD, ixN', binD, cmpD, cmpO, biD, bi1, bi2, seqD, intD, Res.bind, Res.rs, RS.seq, Res.nox, c_check_jobs, e1, h.ejs]
  refine ⟨S1, ?_, x1⟩
  rw [call_eq h.free_wait rfl]
  simp [runD, exB, exS, evE, evT, evB, evEs, evAnd, evOr, evAny, evAll, evIfs, evO, Ev.of, startR, Res.of, truR, truD, asgT, asgTs, newT, newL, newR, ixD, ixL, atD, ixN', binD, cmpD, cmpO, biD, bi1, bi2, seqD, intD, Res.bind, Res.rs, RS.seq, Res.nox, c_free_wait, e2]
inductive AskK : Int → Str → Int → V → V → Prop
  | j0 {v1 v2 : V} (h : isJobV v1 = false) : AskK 0 "job" 0 v1 v2
  | j1 {v1 v2 : V} (h1 : isJobV v1 = true) (h : isJobV v2 = false) : AskK 1 "job" 1 v1 v2
  | j2 {v1 v2 : V} (h : freeV v1 = false) : AskK 2 "jobs" 0 v1 v2
end G

end

section
set_option Elab.async false
set_option linter.all false
set_option maxHeartbeats 0
set_option maxRecDepth 100000
set_option exponentiation.threshold 10000
/-! K13: the law's refusals. -/
namespace G
open PySem
variable {T : Tbl} {w k : Nat} {S : Sto}
theorem asked_ok (h : TA T) {kd at' : Int} {word : Str} {v1 v2 : V} (ha : AskK kd word at' v1 v2) {d1 d2 : D} (r1 : Rep S v1 d1) (r2 : Rep S v2 d2) : ∃ n S', call T w (k + 8) "_law_asked" [.int kd, d1, d2] S = .ok (.ref n) S' ∧ S'[n]? = some (.lst [.str word, if at' = 0 then d1 else d2, .bl true]) ∧ Ext S S' := by
  cases ha with
  | j0 hv =>
    obtain ⟨S1, e1, x1⟩ := pair_bad1 (w := w) (k := k + 2) (d2 := d2) h r1 hv
    obtain ⟨n, S2, e2, _, g2, x2⟩ := newL_get (S := S1) (xs := [.str "job", d1, .bl true]) (by simp)
    refine ⟨n, S2, ?_, by simpa using g2, x1.trans x2⟩
    rw [call_eq h.asked rfl]
    simp [runD, exB, exS, evE, evT, evB, evEs, evAnd, evOr, evAny, evAll, evIfs, evO, Ev.of, startR, Res.of, truR, truD, asgT, asgTs, newT, ixD, ixL, atD, ixN', binD, cmpD, cmpO, biD, bi1, bi2, seqD, intD, Res.bind, Res.rs, RS.seq, Res.nox, c__law_asked, s__law_asked_1, s__law_asked_1_1, s__law_asked_1_1_1, s__law_asked_2, eqD_int, e1, catchL, h.s1, h.s2, h.s3, evH, mapO, e2]
  | j1 h1 hv =>
    obtain ⟨S1, e1, x1⟩ := pair_bad2 (w := w) (k := k + 2) h r1 r2 h1 hv
    obtain ⟨n, S2, e2, _, g2, x2⟩ := newL_get (S := S1) (xs := [.str "job", d2, .bl true]) (by simp)
    refine ⟨n, S2, ?_, by simpa using g2, x1.trans x2⟩
    rw [call_eq h.asked rfl]
    have b := fun F S => @byK_pair T h.toTF F d1 d2 (S := S)
    simp [runD, exB, exS, evE, evT, evB, evEs, evAnd, evOr, evAny, evAll, evIfs, evO, Ev.of, startR, Res.of, truR, truD, asgT, asgTs, newT, ixD, ixL, atD, ixN', binD, cmpD, cmpO, biD, bi1, bi2, seqD, intD, Res.bind, Res.rs, RS.seq, Res.nox, c__law_asked, s__law_asked_1, s__law_asked_1_1, s__law_asked_1_1_1, s__law_asked_2, eqD_int, b, e1, catchL, h.s1, h.s2, h.s3, evH, mapO, e2]
  | j2 hv =>
    obtain ⟨S1, e1, x1⟩ := free_bad (w := w) (k := k) h r1 hv
    obtain ⟨n, S2, e2, _, g2, x2⟩ := newL_get (S := S1) (xs := [.str "jobs", d1, .bl true]) (by simp)
    refine ⟨n, S2, ?_, by simpa using g2, x1.trans x2⟩
    rw [call_eq h.asked rfl]
    simp [runD, exB, exS, evE, evT, evB, evEs, evAnd, evOr, evAny, evAll, evIfs, evO, Ev.of, startR, Res.of, truR, truD, asgT, asgTs, newT, ixD, ixL, atD, ixN', binD, cmpD, cmpO, biD, bi1, bi2, seqD, intD, Res.bind, Res.rs, RS.seq, Res.nox, c__law_asked, s__law_asked_1, s__law_asked_1_1, s__law_asked_1_1e_1, s__law_asked_2, eqD_int, e1, catchL, h.s4, h.s5, h.s6, evH, mapO, e2]
/-- a value that may stand in an ask -/
structure Nice (v : V) : Prop where
  ok : v.ok
  h : v.h ≤ 5
  short : ∀ l, v = .lst l → l.length < 1000
def AskOk (S : Sto) (d : D) : Prop := ∃ (n : Nat) (kd at' : Int) (f s val : D) (word : Str) (v1 v2 : V), d = .ref n ∧ S[n]? = some (.lst [.int kd, f, s, .str word, val, .int at']) ∧ AskK kd word at' v1 v2 ∧ Rep S v1 f ∧ Rep S v2 s ∧ Nice v1 ∧ Nice v2
theorem AskOk.ext {S S' : Sto} {d : D} (h : AskOk S d) (e : Ext S S') : AskOk S' d := by
  obtain ⟨n, kd, at', f, s, val, word, v1, v2, h1, h2, h3, h4, h5, h6, h7⟩ := h
  exact ⟨n, kd, at', f, s, val, word, v1, v2, h1, e _ _ h2, h3, h4.ext e, h5.ext e, h6, h7⟩
theorem Fresh.ext {Sb S S' : Sto} {v : V} {d : D} (h : Fresh Sb v d S) (e : Ext S S') : Fresh Sb v d S' := by
  cases v with
  | lst l =>
    obtain ⟨n, ds, S0, h1, h2, h3, h4, h5, h6⟩ := h
    exact ⟨n, ds, S0, h1, h2, h3, h4, h5.trans e, e _ _ h6⟩
  | _ => exact trivial
structure TX (T : Tbl) : Prop extends TA T where
  tr : TR T
  refusals : T.defs "_law_refusals_right" = some c__law_refusals_right
theorem shaped_job : SeqAt.shaped (PyData.str "job") = true := by
  rw [show ("job" : Str) = ⟨#[106, 111, 98]⟩ from rfl]
  simp [SeqAt.shaped, PyData.canLay0, PyData.strOk, PyData.depth]
theorem shaped_jobs : SeqAt.shaped (PyData.str "jobs") = true := by
  rw [show ("jobs" : Str) = ⟨#[106, 111, 98, 115]⟩ from rfl]
  simp [SeqAt.shaped, PyData.canLay0, PyData.strOk, PyData.depth]
/-- one ask is answered rightly -/
theorem ask_turn (h : TX T) {d : D} (hd : AskOk S d) {y0 y1 y2 y3 : D} {y4 y5 y6 y7 y8 y9 y10 y11 : Option D} {ρ1 : Rho} {Q : Fl → Rho → Sto → Prop} (hQ : ∀ S' z4 z5 z6 z7 z8 z9 z10 z11, Ext S S' → Q .next [some y0, some y1, some y2, some y3, z4, z5, z6, z7, z8, z9, z10, z11] S') (hp : asgP S (.tup [(.nm 5), (.nm 6), (.nm 7), (.nm 8), (.nm 4), (.nm 9)]) d [some y0, some y1, some y2, some y3, y4, y5, y6, y7, y8, y9, y10, y11] = some ρ1) : (exB (PA T w (k + 8)) (.cons s__law_refusals_right_7_1 (.cons s__law_refusals_right_7_2 (.cons s__law_refusals_right_7_3 .nil))) ρ1 S).post Q := by
  obtain ⟨n, kd, at', f, s, val, word, v1, v2, rfl, g, ak, r1, r2, n1, n2⟩ := hd
  simp [asgP, asgPs, seqD, lstAt, g] at hp
  subst hp
  obtain ⟨c1, S1, e1, x1, q1, f1⟩ := copy_ok (w := w) h.tr.ts v1 (k + 7) n1.ok (by have := n1.h; omega) S f r1
  obtain ⟨c2, S2, e2, x2, q2, f2⟩ := copy_ok (w := w) h.tr.ts v2 (k + 7) n2.ok (by have := n2.h; omega) S1 s (r2.ext x1)
  refine cons_post ?_
  unfold s__law_refusals_right_7_1
  simp [exS_asg, exS_expr, exS_ret, exS_ife, evE, evT, evB, evEs, evAnd, evOr, evAny, evAll, evIfs, evO, Ev.of, startR, Res.of_some, truR, truD, asgT, asgTs, newT, ixD, ixL, atD, ixN', binD, cmpD, cmpO, biD, bi1, bi2, seqD, intD, negD, Res.post_ok, Res.post_bind, Res.post_rs, Res.post_nox, RS.post_fl, e1, e2]
  refine newL_post (by simp) fun m S3 l3 g3 x3 => ?_
  refine thn_next (cons_post ?_)
  unfold s__law_refusals_right_7_2
  obtain ⟨p, S4, e4, g4, x4⟩ := asked_ok (w := w) (k := k) h.toTA ak (q1.ext (x2.trans x3)) (q2.ext x3)
  simp [exS_asg, exS_expr, exS_ret, exS_ife, evE, evT, evB, evEs, evAnd, evOr, evAny, evAll, evIfs, evO, Ev.of, startR, Res.of_some, truR, truD, asgT, asgTs, newT, ixD, ixL, atD, ixN', binD, cmpD, cmpO, biD, bi1, bi2, seqD, intD, negD, Res.post_ok, Res.post_bind, Res.post_rs, Res.post_nox, RS.post_fl, g3, e4]
  refine thn_next (cons_post ?_)
  unfold s__law_refusals_right_7_3
  have g3' := x4 _ _ g3
  have x14 := (x2.trans x3).trans x4
  have x24 := x3.trans x4
  -- what is kept
  have kp : ∃ (i : Nat) (S5 : Sto), at' = i ∧ i < 2 ∧ call T w (k + 8) "_law_kept" [if at' = 0 then c1 else c2, if at' = 0 then c1 else c2] S4 = .ok (.bl true) S5 ∧ Ext S S5 := by
    cases ak with
    | j0 hv =>
      obtain ⟨S5, e5, x5⟩ := kept_ok (w := w) (k := k + 6) h.tr.ts n1.ok n1.short (by have := n1.h; omega) (q1.ext x14) (f1.ext x14) (x1.trans x14)
      exact ⟨0, S5, rfl, by decide, by simpa using e5, x5⟩
    | j1 h1 hv =>
      obtain ⟨S5, e5, x5⟩ := kept_ok (w := w) (k := k + 6) h.tr.ts n2.ok n2.short (by have := n2.h; omega) (q2.ext x24) (f2.ext x24) (x2.trans x24)
      exact ⟨1, S5, rfl, by decide, by simpa using e5, x1.trans x5⟩
    | j2 hv =>
      obtain ⟨S5, e5, x5⟩ := kept_ok (w := w) (k := k + 6) h.tr.ts n1.ok n1.short (by have := n1.h; omega) (q1.ext x14) (f1.ext x14) (x1.trans x14)
      exact ⟨0, S5, rfl, by decide, by simpa using e5, x5⟩
  have ew : eqD S4 (.str word) (.str word) = some true := by
    refine eqD_str ?_
    cases ak with
    | j0 _ => exact shaped_job
    | j1 _ _ => exact shaped_job
    | j2 _ => exact shaped_jobs
  obtain ⟨i, S5, rfl, i2, e5, x5⟩ := kp
  have hi : i = 0 ∨ i = 1 := by omega
  rcases hi with rfl | rfl
  · simp at g4 e5
    simp [exS_asg, exS_expr, exS_ret, exS_ife, evE, evT, evB, evEs, evAnd, evOr, evAny, evAll, evIfs, evO, Ev.of, startR, Res.of_some, truR, truD, asgT, asgTs, newT, ixD, ixL, atD, ixN', binD, cmpD, cmpO, biD, bi1, bi2, seqD, intD, negD, Res.post_ok, Res.post_bind, Res.post_rs, Res.post_nox, RS.post_fl, g4, g3', ew, isD, e5]
    exact nil_post (thn_next (nil_post (hQ _ _ _ _ _ _ _ _ _ x5)))
  · simp at g4 e5
    simp [exS_asg, exS_expr, exS_ret, exS_ife, evE, evT, evB, evEs, evAnd, evOr, evAny, evAll, evIfs, evO, Ev.of, startR, Res.of_some, truR, truD, asgT, asgTs, newT, ixD, ixL, atD, ixN', binD, cmpD, cmpO, biD, bi1, bi2, seqD, intD, negD, Res.post_ok, Res.post_bind, Res.post_rs, Res.post_nox, RS.post_fl, g4, g3', ew, isD, e5]
    exact nil_post (thn_next (nil_post (hQ _ _ _ _ _ _ _ _ _ x5)))
end G

end

section
set_option Elab.async false
set_option linter.all false
set_option maxHeartbeats 0
set_option maxRecDepth 100000
set_option exponentiation.threshold 10000
/-! K14: all refusals. -/
namespace G
open PySem
variable {T : Tbl} {w k : Nat} {S : Sto}
abbrev i1 : V := .int 1
abbrev one1 : V := .tup [.int 1, .int 1]
abbrev zero1 : V := .tup [.int 0, .int 1]
def wrongV (f g : V) : List V := [.non, .int 0, .str "job", .dct, .lst [], .tup [], .tup [f, g, f], .lst [f, g], .tup [f], .tup [f, .int 1], .tup [zero1, zero1], .tup [.tup [.int (-1), .int 1], one1], .tup [one1, .tup [.int (-1), .int 2]],
  .tup [.tup [.int 2, .int 4], one1], .tup [.tup [.int 1, .int 0], one1], .tup [.lst [.int 1, .int 1], one1], .tup [.tup [.int 1, .bl true], one1], .tup [.tup [.bl true, .int 1], one1], .tup [.tup [.int 1, .int 1, .int 1], one1], .tup [.tup [.int 1, .int (-1)], one1]]
theorem wrong_bad {f g : V} : ∀ v ∈ wrongV f g, isJobV v = false := by
  intro v hv
  simp [wrongV] at hv
  rcases hv with rfl | rfl | rfl | rfl | rfl | rfl | rfl | rfl | rfl | rfl | rfl | rfl | rfl | rfl | rfl | rfl | rfl | rfl | rfl | rfl <;> simp [isJobV, isAmV, isFrV]
theorem nice_lst {l : List V} (h : ∀ v ∈ l, v.ok ∧ v.h ≤ 4) (hl : l.length < 1000) : Nice (.lst l) := by
  have key : V.oks l ∧ V.hs l ≤ 4 := by
    clear hl
    induction l with
    | nil => exact ⟨trivial, by simp [V.hs]⟩
    | cons v l ih =>
      have := ih fun u hu => h u (by simp [hu])
      have h1 := h v (by simp)
      exact ⟨⟨h1.1, this.1⟩, by simp only [V.hs]; omega⟩
  refine ⟨⟨key.1, by omega⟩, by unfold V.h; omega, ?_⟩
  rintro l' e
  simp at e; subst e; exact hl
theorem nice_flat {v : V} (h1 : v.ok) (h2 : v.h ≤ 4) (h3 : ∀ l, v = .lst l → l.length < 1000) : Nice v := ⟨h1, by omega, h3⟩
theorem wrong_nice {f g : V} (hf : f.ok ∧ f.h ≤ 1) (hg : g.ok ∧ g.h ≤ 1) : ∀ v ∈ wrongV f g, Nice v ∧ v.h ≤ 4 := by
  intro v hv
  have q : v.ok ∧ v.h ≤ 4 ∧ (∀ l, v = .lst l → l.length < 1000) := by
    have := hf.1; have := hg.1; have := hf.2; have := hg.2
    simp [wrongV] at hv
    rcases hv with rfl | rfl | rfl | rfl | rfl | rfl | rfl | rfl | rfl | rfl | rfl | rfl | rfl | rfl | rfl | rfl | rfl | rfl | rfl | rfl <;> simp [V.ok, V.oks, V.h, V.hs, *] <;> (first | omega | exact .inl rfl)
  exact ⟨nice_flat q.1 q.2.1 q.2.2, q.2.1⟩
def goodV (M : Int) (x : IJ) : V := .tup [frV x.1 M, frV x.2 M]
theorem goodV_rep {M : Int} {x : IJ} : Rep S (goodV M x) (jv M x) := ⟨_, rfl, _, _, rfl, frV_rep, _, _, rfl, frV_rep, rfl⟩
theorem goodV_ok {M : Int} {x : IJ} : (goodV M x).ok := ⟨⟨frV_ok, frV_ok, trivial⟩, by simp⟩
theorem goodV_h {M : Int} {x : IJ} : (goodV M x).h = 2 := rfl
theorem goodV_job (h : TJ T) {M : Int} (hM : 0 < M) {x : IJ} (hx : pos x) : isJobV (goodV M x) = true := by
  obtain ⟨S1, e1, _⟩ := is_job_ok (T := T) (w := 0) (k := 0) (S := []) h hM hx
  obtain ⟨S2, e2, _⟩ := is_job_V (T := T) (w := 0) (k := 0) (S := []) h (goodV_rep (M := M) (x := x))
  rw [e1] at e2
  simp at e2
  exact e2.1
theorem goodV_free {M : Int} {x : IJ} : freeV (goodV M x) = false := by
  simp [freeV, goodV, frV, isJobV]
theorem nice_good {M : Int} {x : IJ} : Nice (goodV M x) := ⟨goodV_ok, by rw [goodV_h]; omega, fun l e => by simp [goodV] at e⟩
theorem nice_non : Nice .non := ⟨trivial, by simp [V.h], fun l e => by simp at e⟩
/-- behind the first statements: the values, and the asks -/
theorem asks_post (h : TX T) {M : Int} {x : IJ} (hM : 0 < M) (hx : pos x) {b wn : Nat} {ws : List D} {y3 y4 : Option D} {Q : Fl → Rho → Sto → Prop} (gw : S[wn]? = some (.lst ws)) (rw' : Reps S (wrongV (frV x.1 M) (frV x.2 M)) ws) {an : Nat} (ga : S[an]? = some (.lst [])) (hQ : ∀ n as S' z4, S'[n]? = some (.lst as) → (∀ d ∈ as, AskOk S' d) → as.length ≤ 1000 → Ext S S' → Q .next [some (.ref b), some (jv M x), some (.ref wn), some (.ref n), z4, none, none, none, none, none, none, none] S') : (exS (PA T w (k + 8)) s__law_refusals_right_5 [some (.ref b), some (jv M x), some (.ref wn), some (.ref an), y4, none, none, none, none, none, none, none] S).post Q := by
  unfold s__law_refusals_right_5
  have hwl : ws.length = 20 := rw'.len
  refine for_cps (fun xs ρ S' => ∃ (rest : List V) (n : Nat) (as : List D) (z4 : Option D), Reps S' rest xs ∧ (∀ v ∈ rest, v ∈ wrongV (frV x.1 M) (frV x.2 M)) ∧ ρ = [some (.ref b), some (jv M x), some (.ref wn), some (.ref n), z4, none, none, none, none, none, none, none] ∧ S'[n]? = some (.lst as) ∧ (∀ d ∈ as, AskOk S' d) ∧ as.length + 3 * rest.length ≤ 60 ∧ Ext S S') ⟨[.seq wn ws], ws⟩ S (evI_seq (by rfl) (seqIt_lst gw)) ⟨_, an, [], y4, rw', fun _ h => h, rfl, ga, by simp, by simp [wrongV], Ext.refl S⟩ (fun _ _ S' ⟨_, _, _, _, _, _, _, _, _, _, e⟩ => ok_seq (e _ _ gw)) ?_ ?_
  · rintro d xs ρ S' ⟨rest, n, as, z4, rr, hr, rfl, gn, hA, hlen, ex⟩
    cases rest with
    | nil => simp [Reps] at rr
    | cons v rest =>
      obtain ⟨d0, ds0, e1, r1, r2⟩ := rr
      simp at e1
      obtain ⟨rfl, rfl⟩ := e1
      simp only [List.length_cons] at hlen
      have hv := hr v (by simp)
      have bad := wrong_bad v hv
      have nice := wrong_nice ⟨frV_ok, by rw [frV_h]; omega⟩ ⟨frV_ok, by rw [frV_h]; omega⟩ v hv
      refine ⟨[some (.ref b), some (jv M x), some (.ref wn), some (.ref n), some d, none, none, none, none, none, none, none], by rfl, fun Q' hQ' => ?_⟩
      refine cons_post ?_
      unfold s__law_refusals_right_5_1
      (try simp [exS_asg, exS_expr, exS_ret, exS_ife, evE, evT, evB, evEs, evAnd, evOr, evAny, evAll, evIfs, evO, Ev.of, startR, Res.of_some, truR, truD, asgT, asgTs, newT, ixD, ixL, atD, ixN', binD, cmpD, cmpO, biD, bi1, bi2, seqD, intD, negD, Res.post_ok, Res.post_bind, Res.post_rs, Res.post_nox, RS.post_fl])
      refine newL_post (by simp) fun n1 S1 l1 g1 x1 => ?_
      (try simp [exS_asg, exS_expr, exS_ret, exS_ife, evE, evT, evB, evEs, evAnd, evOr, evAny, evAll, evIfs, evO, Ev.of, startR, Res.of_some, truR, truD, asgT, asgTs, newT, ixD, ixL, atD, ixN', binD, cmpD, cmpO, biD, bi1, bi2, seqD, intD, negD, Res.post_ok, Res.post_bind, Res.post_rs, Res.post_nox, RS.post_fl])
      refine newL_post (by simp) fun n2 S2 l2 g2 x2 => ?_
      (try simp [exS_asg, exS_expr, exS_ret, exS_ife, evE, evT, evB, evEs, evAnd, evOr, evAny, evAll, evIfs, evO, Ev.of, startR, Res.of_some, truR, truD, asgT, asgTs, newT, ixD, ixL, atD, ixN', binD, cmpD, cmpO, biD, bi1, bi2, seqD, intD, negD, Res.post_ok, Res.post_bind, Res.post_rs, Res.post_nox, RS.post_fl])
      refine newL_post (by simp) fun n3 S3 l3 g3 x3 => ?_
      (try simp [exS_asg, exS_expr, exS_ret, exS_ife, evE, evT, evB, evEs, evAnd, evOr, evAny, evAll, evIfs, evO, Ev.of, startR, Res.of_some, truR, truD, asgT, asgTs, newT, ixD, ixL, atD, ixN', binD, cmpD, cmpO, biD, bi1, bi2, seqD, intD, negD, Res.post_ok, Res.post_bind, Res.post_rs, Res.post_nox, RS.post_fl])
      refine newL_post (by simp) fun n4 S4 l4 g4 x4 => ?_
      (try simp [exS_asg, exS_expr, exS_ret, exS_ife, evE, evT, evB, evEs, evAnd, evOr, evAny, evAll, evIfs, evO, Ev.of, startR, Res.of_some, truR, truD, asgT, asgTs, newT, ixD, ixL, atD, ixN', binD, cmpD, cmpO, biD, bi1, bi2, seqD, intD, negD, Res.post_ok, Res.post_bind, Res.post_rs, Res.post_nox, RS.post_fl])
      refine newL_post (by simp) fun n5 S5 l5 g5 x5 => ?_
      (try simp [exS_asg, exS_expr, exS_ret, exS_ife, evE, evT, evB, evEs, evAnd, evOr, evAny, evAll, evIfs, evO, Ev.of, startR, Res.of_some, truR, truD, asgT, asgTs, newT, ixD, ixL, atD, ixN', binD, cmpD, cmpO, biD, bi1, bi2, seqD, intD, negD, Res.post_ok, Res.post_bind, Res.post_rs, Res.post_nox, RS.post_fl])
      refine newL_post (by simp) fun n6 S6 l6 g6 x6 => ?_
      have x16 := ((((x1.trans x2).trans x3).trans x4).trans x5).trans x6
      have gn6 := x16 _ _ gn
      simp [exS_asg, exS_expr, exS_ret, exS_ife, evE, evT, evB, evEs, evAnd, evOr, evAny, evAll, evIfs, evO, Ev.of, startR, Res.of_some, truR, truD, asgT, asgTs, newT, ixD, ixL, atD, ixN', binD, cmpD, cmpO, biD, bi1, bi2, seqD, intD, negD, Res.post_ok, Res.post_bind, Res.post_rs, Res.post_nox, RS.post_fl, lstAt, gn6, g6]
      refine newL_post (by simp; omega) fun n7 S7 l7 g7 x7 => ?_
      have a1 : AskOk S7 (.ref n1) := by
        have e := (((((x2.trans x3).trans x4).trans x5).trans x6).trans x7)
        exact ⟨n1, 0, 0, d, .non, d, "job", v, .non, rfl, e _ _ g1, .j0 bad, r1.ext (x1.trans e), rfl, nice.1, nice_non⟩
      have a2 : AskOk S7 (.ref n2) := by
        have e := ((((x3.trans x4).trans x5).trans x6).trans x7)
        exact ⟨n2, 1, 1, jv M x, d, d, "job", goodV M x, v, rfl, e _ _ g2, .j1 (goodV_job h.toTJ hM hx) bad, goodV_rep, r1.ext ((x1.trans x2).trans e), nice_good, nice.1⟩
      have a3 : AskOk S7 (.ref n5) := by
        have e := x6.trans x7
        have e3 := (x4.trans x5).trans e
        refine ⟨n5, 2, 0, .ref n3, .non, .ref n4, "jobs", .lst [goodV M x, v], .non, rfl, e _ _ g5, .j2 ?_, ⟨n3, _, rfl, e3 _ _ g3, _, _, rfl, goodV_rep, _, _, rfl, r1.ext (((x1.trans x2).trans x3).trans e3), rfl⟩, rfl, nice_lst ?_ (by simp), nice_non⟩
        · simp [freeV, bad]
        · intro u hu
          simp at hu
          rcases hu with rfl | rfl
          · exact ⟨goodV_ok, by rw [goodV_h]; omega⟩
          · exact ⟨nice.1.ok, nice.2⟩
      have x17 := x16.trans x7
      refine thn_next (nil_post (hQ' _ _ ⟨rest, n7, _, _, r2.ext x17 rest, fun u hu => hr u (by simp [hu]), rfl, g7, ?_, by simp; omega, ex.trans x17⟩))
      intro u hu
      simp at hu
      rcases hu with hu | rfl | rfl | rfl
      · exact (hA u hu).ext x17
      · exact a1
      · exact a2
      · exact a3
  · rintro ρ S' ⟨rest, n, as, z4, rr, hr, rfl, gn, hA, hlen, ex⟩
    exact hQ n as S' z4 gn hA (by omega) ex
end G

end

section
set_option Elab.async false
set_option linter.all false
set_option maxHeartbeats 0
set_option maxRecDepth 100000
set_option exponentiation.threshold 10000
/-! K15: all refusals: the whole test. -/
namespace G
open PySem
variable {T : Tbl} {w k : Nat} {S : Sto}
def lastV (M : Int) (x : IJ) : List V := [.non, .int 0, .str "jobs", .dct, goodV M x, .lst (List.replicate 31 (goodV M x))]
theorem last_bad {M : Int} {x : IJ} : ∀ v ∈ lastV M x, freeV v = false ∧ Nice v := by
  intro v hv
  simp [lastV] at hv
  rcases hv with rfl | rfl | rfl | rfl | rfl | rfl
  · exact ⟨rfl, nice_non⟩
  · exact ⟨rfl, trivial, by simp [V.h], fun l e => by simp at e⟩
  · exact ⟨rfl, .inr (.inl rfl), by simp [V.h], fun l e => by simp at e⟩
  · exact ⟨rfl, trivial, by simp [V.h], fun l e => by simp at e⟩
  · exact ⟨goodV_free, nice_good⟩
  · refine ⟨by simp [freeV], nice_lst ?_ (by simp)⟩
    intro u hu
    simp at hu
    subst hu
    exact ⟨goodV_ok, by rw [goodV_h]; omega⟩
theorem reps_nil : Reps S [] [] := rfl
theorem reps_cons {v : V} {d : D} {l : List V} {ds : List D} (h : Rep S v d) (h' : Reps S l ds) : Reps S (v :: l) (d :: ds) := ⟨d, ds, rfl, h, h'⟩
theorem rep_tup {l : List V} {ds : List D} (h : Reps S l ds) : Rep S (.tup l) (.tup ds) := ⟨ds, rfl, h⟩
theorem rep_non : Rep S .non .non := rfl
theorem rep_int {i : Int} : Rep S (.int i) (.int i) := rfl
theorem rep_bl {i : Bool} : Rep S (.bl i) (.bl i) := rfl
theorem rep_str {i : Str} : Rep S (.str i) (.str i) := rfl
theorem reps_replicate {v : V} {d : D} (h : Rep S v d) : ∀ n, Reps S (List.replicate n v) (List.replicate n d)
  | 0 => rfl
  | n + 1 => ⟨d, _, by rw [List.replicate_succ], h, reps_replicate h n⟩
theorem refusals_post (h : TX T) (hw : Big w) {M q : Int} (hM : 0 < M) (hq : M = 12 * q) {b c : Nat} (hb : BoxOk S b c) (hc : c + 20 < 1000000000) {Q : D → Sto → Prop} (hQ : ∀ S', BU b (c + 10) S S' → Q (.bl true) S') : (call T w (k + 9) "_law_refusals_right" [.ref b] S).post Q := by
  refine call_post' h.refusals [some (.ref b), none, none, none, none, none, none, none, none, none, none, none] rfl rfl ?_
  unfold c__law_refusals_right
  refine cons_post ?_
  unfold s__law_refusals_right_1
  simp [exS_asg, exS_expr, exS_ret, exS_ife, evE, evT, evB, evEs, evAnd, evOr, evAny, evAll, evIfs, evO, Ev.of, startR, Res.of_some, truR, truD, asgT, asgTs, newT, ixD, ixL, atD, ixN', binD, cmpD, cmpO, biD, bi1, bi2, seqD, intD, negD, Res.post_ok, Res.post_bind, Res.post_rs, Res.post_nox, RS.post_fl]
  refine (job_post (k := k + 4) h.tr.tb hw hM hq hb (by omega)).imp ?_
  rintro v S1 ⟨⟨x, rfl, hx, _, _⟩, bu⟩
  refine thn_next (cons_post ?_)
  unfold s__law_refusals_right_2
  -- behind the making of the wrong values
  have rest : ∀ (wn : Nat) (ws : List D) (S2 : Sto), Ext S1 S2 → S2[wn]? = some (.lst ws) → Reps S2 (wrongV (frV x.1 M) (frV x.2 M)) ws → (exB (PA T w (k + 8)) (CB.cons s__law_refusals_right_4 (CB.cons s__law_refusals_right_5 (CB.cons s__law_refusals_right_6 (CB.cons s__law_refusals_right_7 (CB.cons s__law_refusals_right_8 CB.nil))))) [some (.ref b), some (jv M x), some (.ref wn), none, none, none, none, none, none, none, none, none] S2).post (back Q) := by
    intro wn ws S2 x2 gw rw'
    refine cons_post ?_
    unfold s__law_refusals_right_4
    (try simp [exS_asg, exS_expr, exS_ret, exS_ife, evE, evT, evB, evEs, evAnd, evOr, evAny, evAll, evIfs, evO, Ev.of, startR, Res.of_some, truR, truD, asgT, asgTs, newT, ixD, ixL, atD, ixN', binD, cmpD, cmpO, biD, bi1, bi2, seqD, intD, negD, Res.post_ok, Res.post_bind, Res.post_rs, Res.post_nox, RS.post_fl])
    refine newL_post (by simp) fun an S3 l3 ga x3 => ?_
    refine thn_next (cons_post ?_)
    refine asks_post (y3 := none) h hM hx (x3 _ _ gw) (rw'.ext x3 _) ga fun n as S4 z4 gn hA hlen x4 => ?_
    refine thn_next (cons_post ?_)
    unfold s__law_refusals_right_6
    -- the list of the last wrong ones
    have xd := Ext.app S4 [MO.dK []]
    have gd : (S4 ++ [MO.dK []])[S4.length]? = some (.dK []) := getE
    generalize hS5 : S4 ++ [MO.dK []] = S5 at *
    obtain ⟨m1, S6, e6, l6, g6, x6⟩ := newL_get (S := S5) (xs := [jv M x]) (by simp)
    obtain ⟨m2, S7, e7, l7, g7, x7⟩ := newL_get (S := S6) (xs := List.replicate 31 (jv M x)) (by simp)
    obtain ⟨m3, S8, e8, l8, g8, x8⟩ := newL_get (S := S7) (xs := [.non, .int 0, .str "jobs", .ref S4.length, jv M x, .ref m2]) (by simp)
    have x68 := (x6.trans x7).trans x8
    have x48 := xd.trans x68
    have key := lc_cps (P := (PA T w (k + 8)).toPar) (g := .nm 4) (it := (.seq (.lst (.cons false (.cst .non) (.cons false (.cst (.int (0))) (.cons false (.cst (.str "jobs")) (.cons false (.dct .nil) (.cons false (.var 1) (.cons false (.bin .Mult (.lst (.cons false (.var 1) .nil)) (.cst (.int (31)))) .nil))))))))) (vs := [4]) (elt := (.lst (.cons false (.cst (.int (2))) (.cons false (.var 4) (.cons false (.cst .non) (.cons false (.cst (.str "jobs")) (.cons false (.var 4) (.cons false (.cst (.int (0))) .nil)))))))) (ρ := [some (.ref b), some (jv M x), some (.ref wn), some (.ref n), z4, none, none, none, none, none, none, none]) (S := S4) (Q := fun v S' => ∃ m as2, v = .ref m ∧ S'[m]? = some (.lst as2) ∧ (∀ d ∈ as2, AskOk S' d) ∧ as2.length ≤ 6 ∧ Ext S4 S') (fun xs acc S' => ∃ rs : List V, Reps S' rs xs ∧ (∀ v ∈ rs, freeV v = false ∧ Nice v) ∧ (∀ d ∈ acc, AskOk S' d) ∧ acc.length + rs.length ≤ 6 ∧ Ext S8 S') ⟨[.seq m3 [.non, .int 0, .str "jobs", .ref S4.length, jv M x, .ref m2]], [.non, .int 0, .str "jobs", .ref S4.length, jv M x, .ref m2]⟩ S8 rfl (evI_seq (x := .ref m3) ?_ (seqIt_lst g8)) ⟨lastV M x, ?_, last_bad, by simp, by simp [lastV], Ext.refl S8⟩ (by simp) (fun _ _ S' ⟨_, _, _, _, _, e⟩ => ok_seq (e _ _ g8)) ?_ ?_
    · obtain ⟨v, S9, e9, m, as2, rfl, g9, hA2, hl2, x9⟩ := key.get
      generalize CE.lc _ _ _ _ _ = lc at e9 ⊢
      have e9' : (evB (PA T w (k + 8)).toPar lc).v [some (.ref b), some (jv M x), some (.ref wn), some (.ref n), z4, none, none, none, none, none, none, none] S4 = .ok (.ref m) S9 := e9
      have gn9 := x9 _ _ gn
      simp [exS_asg, exS_expr, exS_ret, exS_ife, evE, evT, evB, evEs, evAnd, evOr, evAny, evAll, evIfs, evO, Ev.of, startR, Res.of_some, truR, truD, asgT, asgTs, newT, ixD, ixL, atD, ixN', binD, cmpD, cmpO, biD, bi1, bi2, seqD, intD, negD, Res.post_ok, Res.post_bind, Res.post_rs, Res.post_nox, RS.post_fl, e9', lstAt, gn9, g9]
      refine newL_post (by simp; omega) fun n2 Sa l2 g2 xa => ?_
      refine thn_next (cons_post ?_)
      unfold s__law_refusals_right_7
      have hAll : ∀ d ∈ as ++ as2, AskOk Sa d := by
        intro d hd
        rcases List.mem_append.mp hd with hd | hd
        · exact (hA d hd).ext (x9.trans xa)
        · exact (hA2 d hd).ext xa
      have xall := (((x2.trans x3).trans x4).trans x9).trans xa
      refine for_cps (fun xs ρ S' => ∃ (z4 z5 z6 z7 z8 z9 z10 z11 : Option D), (∀ d ∈ xs, AskOk S' d) ∧ ρ = [some (.ref b), some (jv M x), some (.ref wn), some (.ref n2), z4, z5, z6, z7, z8, z9, z10, z11] ∧ Ext Sa S') ⟨[.seq n2 (as ++ as2)], as ++ as2⟩ Sa (evI_seq (by rfl) (seqIt_lst g2)) ⟨_, _, _, _, _, _, _, _, hAll, rfl, Ext.refl Sa⟩ (fun _ _ S' ⟨_, _, _, _, _, _, _, _, _, _, e⟩ => ok_seq (e _ _ g2)) ?_ ?_
      · rintro d xs ρ S' ⟨z4, z5, z6, z7, z8, z9, z10, z11, hd, rfl, e⟩
        have hd1 := hd d (by simp)
        have hp : ∃ ρ1, asgP S' (.tup [(.nm 5), (.nm 6), (.nm 7), (.nm 8), (.nm 4), (.nm 9)]) d [some (.ref b), some (jv M x), some (.ref wn), some (.ref n2), z4, z5, z6, z7, z8, z9, z10, z11] = some ρ1 := by
          obtain ⟨n, kd, at', f, s, val, word, v1, v2, rfl, g, _⟩ := hd1
          simp [asgP, asgPs, seqD, lstAt, g]
        obtain ⟨ρ1, hp⟩ := hp
        refine ⟨ρ1, hp, fun Q' hQ' => ask_turn h hd1 (fun S2 z4 z5 z6 z7 z8 z9 z10 z11 e2 => hQ' _ _ ⟨z4, z5, z6, z7, z8, z9, z10, z11, fun u hu => (hd u (by simp [hu])).ext e2, rfl, e.trans e2⟩) hp⟩
      · rintro ρ S' ⟨z4, z5, z6, z7, z8, z9, z10, z11, hd, rfl, e⟩
        refine thn_next (cons_post ?_)
        unfold s__law_refusals_right_8
        simp [exS_asg, exS_expr, exS_ret, exS_ife, evE, evT, evB, evEs, evAnd, evOr, evAny, evAll, evIfs, evO, Ev.of, startR, Res.of_some, truR, truD, asgT, asgTs, newT, ixD, ixL, atD, ixN', binD, cmpD, cmpO, biD, bi1, bi2, seqD, intD, negD, Res.post_ok, Res.post_bind, Res.post_rs, Res.post_nox, RS.post_fl, thn_ret, back_ret]
        exact hQ _ ((bu.ext (xall.trans e)).mono (by omega))
    · have e7' := e7
      simp at e7'
      simp [runD, exB, exS, evE, evT, evB, evEs, evAnd, evOr, evAny, evAll, evIfs, evO, Ev.of, startR, Res.of, truR, truD, asgT, asgTs, newT, ixD, ixL, atD, ixN', binD, cmpD, cmpO, biD, bi1, bi2, seqD, intD, Res.bind, Res.rs, RS.seq, Res.nox, pairsD, mergeD, hS5, e6, lstAt, g6, e7', e8]
    · refine ⟨_, _, rfl, rfl, _, _, rfl, rfl, _, _, rfl, rfl, _, _, rfl, ⟨_, rfl, x68 _ _ gd⟩, _, _, rfl, goodV_rep, _, _, rfl, ⟨m2, _, rfl, x8 _ _ g7, reps_replicate goodV_rep 31⟩, rfl⟩
    · rintro d xs acc S' ⟨rs, rr, hr, ha, hlen', e⟩
      cases rs with
      | nil => simp [Reps] at rr
      | cons v rs =>
        obtain ⟨d0, ds0, e1, r1, r2⟩ := rr
        simp at e1
        obtain ⟨rfl, rfl⟩ := e1
        have hv := hr v (by simp)
        simp only [List.length_cons] at hlen'
        refine ⟨[some (.ref b), some (jv M x), some (.ref wn), some (.ref n), some d, none, none, none, none, none, none, none], by rfl, fun Q' hQ' => ?_⟩
        (try simp [exS_asg, exS_expr, exS_ret, exS_ife, evE, evT, evB, evEs, evAnd, evOr, evAny, evAll, evIfs, evO, Ev.of, startR, Res.of_some, truR, truD, asgT, asgTs, newT, ixD, ixL, atD, ixN', binD, cmpD, cmpO, biD, bi1, bi2, seqD, intD, negD, Res.post_ok, Res.post_bind, Res.post_rs, Res.post_nox, RS.post_fl])
        refine newL_post (by simp) fun m S9 l9 g9 x9 => ?_
        refine hQ' _ _ ⟨rs, r2.ext x9 rs, fun u hu => hr u (by simp [hu]), ?_, by simp; omega, e.trans x9⟩
        intro u hu
        rcases List.mem_append.mp hu with hu | hu
        · exact (ha u hu).ext x9
        · simp at hu; subst hu
          exact ⟨m, 2, 0, d, .non, d, "jobs", v, .non, rfl, g9, .j2 hv.1, r1.ext x9, rfl, hv.2, nice_non⟩
    · rintro ys S' S9 m ⟨rs, rr, hr, ha, hlen', e⟩ e2 g9 _
      exact ⟨m, ys, rfl, g9, fun d hd => (ha d hd).ext e2, by omega, (x48.trans e).trans e2⟩
  simp [exS_asg, exS_expr, exS_ret, exS_ife, evE, evT, evB, evEs, evAnd, evOr, evAny, evAll, evIfs, evO, Ev.of, startR, Res.of_some, truR, truD, asgT, asgTs, newT, ixD, ixL, atD, ixN', binD, cmpD, cmpO, biD, bi1, bi2, seqD, intD, negD, Res.post_ok, Res.post_bind, Res.post_rs, Res.post_nox, RS.post_fl, jv, jb, pairsD, mergeD]
  have xd := Ext.app S1 [MO.dK []]
  have gd : (S1 ++ [MO.dK []])[S1.length]? = some (.dK []) := getE
  generalize S1 ++ [MO.dK []] = S2 at *
  refine newL_post (by simp) fun m1 S3 l3 g3 x3 => ?_
  (try simp [exS_asg, exS_expr, exS_ret, exS_ife, evE, evT, evB, evEs, evAnd, evOr, evAny, evAll, evIfs, evO, Ev.of, startR, Res.of_some, truR, truD, asgT, asgTs, newT, ixD, ixL, atD, ixN', binD, cmpD, cmpO, biD, bi1, bi2, seqD, intD, negD, Res.post_ok, Res.post_bind, Res.post_rs, Res.post_nox, RS.post_fl])
  refine newL_post (by simp) fun m2 S4 l4 g4 x4 => ?_
  (try simp [exS_asg, exS_expr, exS_ret, exS_ife, evE, evT, evB, evEs, evAnd, evOr, evAny, evAll, evIfs, evO, Ev.of, startR, Res.of_some, truR, truD, asgT, asgTs, newT, ixD, ixL, atD, ixN', binD, cmpD, cmpO, biD, bi1, bi2, seqD, intD, negD, Res.post_ok, Res.post_bind, Res.post_rs, Res.post_nox, RS.post_fl])
  refine newL_post (by simp) fun m3 S5 l5 g5 x5 => ?_
  refine thn_next (cons_post ?_)
  unfold s__law_refusals_right_3
  (try simp [exS_asg, exS_expr, exS_ret, exS_ife, evE, evT, evB, evEs, evAnd, evOr, evAny, evAll, evIfs, evO, Ev.of, startR, Res.of_some, truR, truD, asgT, asgTs, newT, ixD, ixL, atD, ixN', binD, cmpD, cmpO, biD, bi1, bi2, seqD, intD, negD, Res.post_ok, Res.post_bind, Res.post_rs, Res.post_nox, RS.post_fl])
  refine newL_post (by simp) fun m4 S6 l6 g6 x6 => ?_
  (try simp [exS_asg, exS_expr, exS_ret, exS_ife, evE, evT, evB, evEs, evAnd, evOr, evAny, evAll, evIfs, evO, Ev.of, startR, Res.of_some, truR, truD, asgT, asgTs, newT, ixD, ixL, atD, ixN', binD, cmpD, cmpO, biD, bi1, bi2, seqD, intD, negD, Res.post_ok, Res.post_bind, Res.post_rs, Res.post_nox, RS.post_fl])
  refine newL_post (by simp) fun m5 S7 l7 g7 x7 => ?_
  have g57 := x7 _ _ (x6 _ _ g5)
  simp [exS_asg, exS_expr, exS_ret, exS_ife, evE, evT, evB, evEs, evAnd, evOr, evAny, evAll, evIfs, evO, Ev.of, startR, Res.of_some, truR, truD, asgT, asgTs, newT, ixD, ixL, atD, ixN', binD, cmpD, cmpO, biD, bi1, bi2, seqD, intD, negD, Res.post_ok, Res.post_bind, Res.post_rs, Res.post_nox, RS.post_fl, lstAt, g57, g7]
  refine newL_post (by simp) fun m6 S8 l8 g8 x8 => ?_
  have x48 := ((x5.trans x6).trans x7).trans x8
  have xA := (x3.trans x4).trans x48
  refine thn_next (rest m6 _ S8 (xd.trans xA) g8 ?_)
  have r4 : Rep S8 .dct (.ref S1.length) := ⟨_, rfl, xA _ _ gd⟩
  have r5 : Rep S8 (.lst []) (.ref m1) := ⟨m1, _, rfl, x48 _ _ (x4 _ _ g3), rfl⟩
  have r8 : Rep S8 (.lst [frV x.1 M, frV x.2 M]) (.ref m2) := ⟨m2, _, rfl, x48 _ _ g4, reps_cons frV_rep (reps_cons frV_rep reps_nil)⟩
  have r16 : Rep S8 (.lst [.int 1, .int 1]) (.ref m4) := ⟨m4, _, rfl, x8 _ _ (x7 _ _ g6), reps_cons rep_int (reps_cons rep_int reps_nil)⟩
  unfold wrongV
  repeat' first
    | with_reducible exact rep_non
    | with_reducible exact rep_int
    | with_reducible exact rep_str
    | with_reducible exact rep_bl
    | with_reducible exact reps_nil
    | with_reducible exact frV_rep
    | with_reducible refine reps_cons ?_ ?_
    | with_reducible refine rep_tup ?_
    | exact r4
    | exact r5
    | exact r8
    | exact r16
end G

end

section
set_option Elab.async false
set_option linter.all false
set_option maxHeartbeats 0
set_option maxRecDepth 100000
set_option exponentiation.threshold 10000
/-! K16: the law of free jobs, k03. -/
namespace G
open PySem
variable {T : Tbl} {w k : Nat} {S : Sto}
structure TBox (T : Tbl) : Prop where
  cell : T.defs "_law_cell" = some c__law_cell
  box : T.defs "_law_box" = some c__law_box
theorem sum_ints : ∀ l : List Int, mapO intD (l.map D.int) = some l
  | [] => rfl
  | i :: l => by simp [mapO, intD, sum_ints l]
theorem cell_ok (h : TBox T) {ns : List Int} {j : Nat} (hj : j < 100) (hl : ns.length ≤ 63) : ∃ (i : Int) (S' : Sto), call T w (k + 1) "_law_cell" [.fl (ns.map .int), .int j] S = .ok (.int i) S' ∧ Ext S S' := by
  by_cases hlt : j < ns.length
  · refine ⟨ns[j], S, ?_, Ext.refl S⟩
    have hlt' : (j : Int) < ns.length := by omega
    rw [call_eq h.cell rfl]
    simp [runD, exB, exS, evE, evT, evB, evEs, evAnd, evOr, evAny, evAll, evIfs, evO, Ev.of, startR, Res.of, truR, truD, asgT, asgTs, newT, newL, newR, ixD, ixL, atD, ixN', binD, cmpD, cmpO, biD, bi1, bi2, seqD, intD, Res.bind, Res.rs, RS.seq, Res.nox, c__law_cell, lenD, hlt', hlt]
  · have hlt' : ¬ (j : Int) < ns.length := by omega
    have hc : cutD (ns.map D.int) none (some 1) = (ns.map D.int).take 1 := by
      have : ¬ (1 : Int) < 0 := by decide
      simp [cutD, sIx']
    have hsum : mapO intD ((ns.map D.int).take 1) = some (ns.take 1) := by rw [← List.map_take]; exact sum_ints _
    obtain ⟨n, S1, e1, _, g1, x1⟩ := newL_get (S := S) (xs := (ns.map D.int).take 1) (by simp; omega)
    have mk : mulOk 6569 (j : Int) = true := mulOk_of (p := 13) (q := 7) (by decide) (by omega) (by decide)
    refine ⟨6569 * j + (ns.take 1).sum.fmod 1000033, S1, ?_, x1⟩
    rw [call_eq h.cell rfl]
    simp [runD, exB, exS, evE, evT, evB, evEs, evAnd, evOr, evAny, evAll, evIfs, evO, Ev.of, startR, Res.of, truR, truD, asgT, asgTs, newT, ixD, ixL, atD, ixN', binD, cmpD, cmpO, biD, bi1, bi2, seqD, intD, Res.bind, Res.rs, RS.seq, Res.nox, c__law_cell, lenD, slD, hc, hlt', mk, e1, lstAt, g1, hsum]
theorem box_ok (h : TBox T) {i : Int} : ∃ b S', call T w (k + 1) "_law_box" [.int i] S = .ok (.ref b) S' ∧ BoxOk S' b 0 ∧ Ext S S' := by
  have nn : ∃ q : Nat, ((if i < 0 then -i else i) : Int).fmod 2147483629 = q ∧ q < 2147483629 := by
    refine ⟨(((if i < 0 then -i else i) : Int).fmod 2147483629).toNat, ?_, ?_⟩ <;> rw [Int.fmod_eq_emod_of_nonneg _ (by decide)] <;> omega
  obtain ⟨q, e, hq⟩ := nn
  obtain ⟨b, S1, e1, _, g1, x1⟩ := newL_get (S := S) (xs := [.int (if i < 0 then -i else i), .bl (decide ((10 : Int) ^ 18 ≤ (if i < 0 then -i else i))), .int q, .int (0 : Nat)]) (by simp)
  refine ⟨b, S1, ?_, ⟨_, _, q, 0, g1, hq, by omega⟩, x1⟩
  have pw : powOk 10 18 = true := by decide
  rw [call_eq h.box rfl]
  simp [runD, exB, exS, evE, evT, evB, evEs, evAnd, evOr, evAny, evAll, evIfs, evO, Ev.of, startR, Res.of, truR, truD, asgT, asgTs, newT, ixD, ixL, atD, ixN', binD, cmpD, cmpO, biD, bi1, bi2, seqD, intD, Res.bind, Res.rs, RS.seq, Res.nox, c__law_box, pw, e]
  simp at e1
  simp [e1]
def M0 : Int := 12 * ((10 ^ 38 + 7) * (10 ^ 39 + 3))
theorem M0_ok : MB M0 := by
  refine ⟨⟨by decide, ?_⟩, ⟨_, rfl⟩, ⟨24 * (10 ^ 39 + 3), by decide⟩, ⟨24 * (10 ^ 38 + 7), by decide⟩⟩
  refine Nat.lt_of_lt_of_le (m := 2 ^ 400) (by decide) (Nat.pow_le_pow_right (by decide) (by decide))
structure TK3 (T : Tbl) : Prop extends TX T where
  bx : TBox T
  law : T.defs "law" = some c_law
theorem jobs_of {M m : Int} : ∀ {l : List D}, (∀ v ∈ l, JobM M m v) → ∃ L : List IJ, l = L.map (jv M) ∧ ∀ x ∈ L, pos x ∧ x.1 ≤ m * M ∧ x.2 ≤ m * M
  | [], _ => ⟨[], rfl, by simp⟩
  | v :: l, h => by
    obtain ⟨x, e, p⟩ := h v (by simp)
    obtain ⟨L, e2, p2⟩ := jobs_of (l := l) fun u hu => h u (by simp [hu])
    refine ⟨x :: L, by rw [e, e2]; rfl, ?_⟩
    intro y hy
    rcases List.mem_cons.mp hy with rfl | hy
    · exact p
    · exact p2 y hy
theorem k03_post (h : TK3 T) (hw : Big w) (hw2 : 1000 < w) {ns : List Int} (hl : ns.length ≤ 63) : (call T w (k + 10) "law" [.fl (ns.map .int)] S).post fun v _ => v = .bl true := by
  generalize hQe : (fun (v : D) (_ : Sto) => v = .bl true) = Q
  have hQ : ∀ S', Q (.bl true) S' := by subst hQe; exact fun _ => rfl
  clear hQe
  have hB := M0_ok
  have hMp := hB.sm.pos
  have hM0 : 0 < M0 := by omega
  generalize M0 = M0 at *
  refine call_post' h.law [some (.fl (ns.map .int)), none, none, none, none] rfl rfl ?_
  unfold c_law
  refine cons_post ?_
  unfold s_law_1
  have hz : ∃ z : Int, evE (PA T w (k + 9)).toPar (.bi "max" (.cons false (.cst (.int (3))) (.cons false (.bi "min" (.cons false (.cst (.int (6))) (.cons false (.bi "len" (.cons false (.var 0) .nil)) .nil))) .nil))) [some (.fl (ns.map .int)), none, none, none, none] S = .ok (.int z) S ∧ 0 ≤ z ∧ z ≤ 6 := by
    refine ⟨_, by simp [runD, exB, exS, evE, evT, evB, evEs, evAnd, evOr, evAny, evAll, evIfs, evO, Ev.of, startR, Res.of, truR, truD, asgT, asgTs, newT, newL, newR, ixD, ixL, atD, ixN', binD, cmpD, cmpO, biD, bi1, bi2, seqD, intD, Res.bind, Res.rs, RS.seq, Res.nox, lenD]; rfl, ?_, ?_⟩
    · split <;> omega
    · split <;> omega
  obtain ⟨z, ez, z0, z6⟩ := hz
  obtain ⟨m, rfl⟩ : ∃ m : Nat, z = m := ⟨z.toNat, by omega⟩
  refine for_cps (fun xs ρ S' => (∀ v ∈ xs, ∃ j : Nat, v = .int j ∧ j < 100) ∧ ∃ x1 x2 x3 x4, ρ = [some (.fl (ns.map .int)), x1, x2, x3, x4]) ⟨[], rngD 0 (m : Int)⟩ S (evI_rng1 ez (rngOk_of (by omega))) ⟨?_, _, _, _, _, rfl⟩ (fun _ _ _ _ => rfl) ?_ ?_
  · intro v hv
    simp [rngD] at hv
    obtain ⟨i, hi, rfl⟩ := hv
    exact ⟨i, rfl, by omega⟩
  · rintro v xs ρ S1 ⟨hj, x1, x2, x3, x4, rfl⟩
    obtain ⟨j, rfl, j100⟩ := hj v (by simp)
    refine ⟨[some (.fl (ns.map .int)), some (.int j), x2, x3, x4], by rfl, fun Q' hQ' => ?_⟩
    have hQ' := fun S' y1 y2 y3 y4 => hQ' [some (.fl (ns.map .int)), y1, y2, y3, y4] S' ⟨fun u hu => hj u (by simp [hu]), _, _, _, _, rfl⟩
    refine cons_post ?_
    unfold s_law_1_1
    obtain ⟨i, S2, e2, x2'⟩ := cell_ok (T := T) (w := w) (k := k + 8) (S := S1) h.bx j100 hl
    obtain ⟨b, S3, e3, hb, x3'⟩ := box_ok (T := T) (w := w) (k := k + 8) (S := S2) h.bx (i := i)
    simp [exS_asg, exS_expr, exS_ret, exS_ife, evE, evT, evB, evEs, evAnd, evOr, evAny, evAll, evIfs, evO, Ev.of, startR, Res.of_some, truR, truD, asgT, asgTs, newT, ixD, ixL, atD, ixN', binD, cmpD, cmpO, biD, bi1, bi2, seqD, intD, negD, Res.post_ok, Res.post_bind, Res.post_rs, Res.post_nox, RS.post_fl, e2, e3]
    refine thn_next (cons_post ?_)
    unfold s_law_1_2
    simp [exS_asg, exS_expr, exS_ret, exS_ife, evE, evT, evB, evEs, evAnd, evOr, evAny, evAll, evIfs, evO, Ev.of, startR, Res.of_some, truR, truD, asgT, asgTs, newT, ixD, ixL, atD, ixN', binD, cmpD, cmpO, biD, bi1, bi2, seqD, intD, negD, Res.post_ok, Res.post_bind, Res.post_rs, Res.post_nox, RS.post_fl]
    refine (take_eq (k := k + 8) h.tr.tb.take hb (by omega) (by decide) (by decide)).imp ?_
    rintro v S4 ⟨⟨d, rfl, d0, d2⟩, bu4⟩
    simp [exS_asg, exS_expr, exS_ret, exS_ife, evE, evT, evB, evEs, evAnd, evOr, evAny, evAll, evIfs, evO, Ev.of, startR, Res.of_some, truR, truD, asgT, asgTs, newT, ixD, ixL, atD, ixN', binD, cmpD, cmpO, biD, bi1, bi2, seqD, intD, negD, Res.post_ok, Res.post_bind, Res.post_rs, Res.post_nox, RS.post_fl, eqD_int]
    refine thn_next (cons_post ?_)
    generalize decide (d = 1) = bn
    unfold s_law_1_3
    simp [exS_asg, exS_expr, exS_ret, exS_ife, evE, evT, evB, evEs, evAnd, evOr, evAny, evAll, evIfs, evO, Ev.of, startR, Res.of_some, truR, truD, asgT, asgTs, newT, ixD, ixL, atD, ixN', binD, cmpD, cmpO, biD, bi1, bi2, seqD, intD, negD, Res.post_ok, Res.post_bind, Res.post_rs, Res.post_nox, RS.post_fl]
    refine (take_eq (k := k + 8) h.tr.tb.take bu4.box (by omega) (by decide) (by decide)).imp ?_
    rintro v S5 ⟨⟨d', rfl, d0', d2'⟩, bu5⟩
    have bu5 := bu4.trans bu5
    -- the jobs, however many
    have part : ∀ (mz : Int) (mm : Nat) (S6 : Sto), mz = mm → mm ≤ 30 → BoxOk S6 b 3 → (call T w (k + 9) "_law_jobs" [.ref b, .int mz] S6).post fun a S => thn (PA T w (k + 9)) (CB.cons s_law_1_4 CB.nil) Q' Fl.next [some (.fl (ns.map .int)), some (.int j), some (.ref b), some (.bl bn), some a] S := by
      intro mz mm S6 hmz hm hb6
      refine jobs_post (k := k + 4) h.tr.tb hw hB hb6 (by omega) hm hmz fun n l S7 ln g7 ll hl7 bu7 => ?_
      obtain ⟨L, rfl, hL⟩ := jobs_of hl7
      refine thn_next (cons_post ?_)
      unfold s_law_1_4
      simp [exS_asg, exS_expr, exS_ret, exS_ife, evE, evT, evB, evEs, evAnd, evOr, evAny, evAll, evIfs, evO, Ev.of, startR, Res.of_some, truR, truD, asgT, asgTs, newT, ixD, ixL, atD, ixN', binD, cmpD, cmpO, biD, bi1, bi2, seqD, intD, negD, Res.post_ok, Res.post_bind, Res.post_rs, Res.post_nox, RS.post_fl]
      refine list_right_post (k := k) h.tr hw hw2 hB.sm bu7.box (by omega) g7 (by have := hb6.lt; omega) (fun x hx => ⟨(hL x hx).1, (hL x hx).2.1, (hL x hx).2.2⟩) (by simp at ll; omega) fun S8 bu8 => ?_
      simp [exS_asg, exS_expr, exS_ret, exS_ife, evE, evT, evB, evEs, evAnd, evOr, evAny, evAll, evIfs, evO, Ev.of, startR, Res.of_some, truR, truD, asgT, asgTs, newT, ixD, ixL, atD, ixN', binD, cmpD, cmpO, biD, bi1, bi2, seqD, intD, negD, Res.post_ok, Res.post_bind, Res.post_rs, Res.post_nox, RS.post_fl]
      refine refusals_post (k := k) h.toTX hw hM0 hB.q.choose_spec bu8.box (by omega) fun S9 bu9 => ?_
      simp [exS_asg, exS_expr, exS_ret, exS_ife, evE, evT, evB, evEs, evAnd, evOr, evAny, evAll, evIfs, evO, Ev.of, startR, Res.of_some, truR, truD, asgT, asgTs, newT, ixD, ixL, atD, ixN', binD, cmpD, cmpO, biD, bi1, bi2, seqD, intD, negD, Res.post_ok, Res.post_bind, Res.post_rs, Res.post_nox, RS.post_fl]
      exact nil_post (thn_next (nil_post (hQ' S9 _ _ _ _)))
    simp [exS_asg, exS_expr, exS_ret, exS_ife, evE, evT, evB, evEs, evAnd, evOr, evAny, evAll, evIfs, evO, Ev.of, startR, Res.of_some, truR, truD, asgT, asgTs, newT, ixD, ixL, atD, ixN', binD, cmpD, cmpO, biD, bi1, bi2, seqD, intD, negD, Res.post_ok, Res.post_bind, Res.post_rs, Res.post_nox, RS.post_fl, eqD_int]
    by_cases e0 : d' = 0
    · subst e0
      simp [exS_asg, exS_expr, exS_ret, exS_ife, evE, evT, evB, evEs, evAnd, evOr, evAny, evAll, evIfs, evO, Ev.of, startR, Res.of_some, truR, truD, asgT, asgTs, newT, ixD, ixL, atD, ixN', binD, cmpD, cmpO, biD, bi1, bi2, seqD, intD, negD, Res.post_ok, Res.post_bind, Res.post_rs, Res.post_nox, RS.post_fl]
      refine (take_eq (k := k + 8) h.tr.tb.take bu5.box (by omega) (by decide) (by decide)).imp ?_
      rintro v S6 ⟨⟨u, rfl, u0, u4⟩, bu6⟩
      (try simp [exS_asg, exS_expr, exS_ret, exS_ife, evE, evT, evB, evEs, evAnd, evOr, evAny, evAll, evIfs, evO, Ev.of, startR, Res.of_some, truR, truD, asgT, asgTs, newT, ixD, ixL, atD, ixN', binD, cmpD, cmpO, biD, bi1, bi2, seqD, intD, negD, Res.post_ok, Res.post_bind, Res.post_rs, Res.post_nox, RS.post_fl])
      exact part (30 - u) (30 - u).toNat S6 (by omega) (by omega) bu6.box
    · simp [exS_asg, exS_expr, exS_ret, exS_ife, evE, evT, evB, evEs, evAnd, evOr, evAny, evAll, evIfs, evO, Ev.of, startR, Res.of_some, truR, truD, asgT, asgTs, newT, ixD, ixL, atD, ixN', binD, cmpD, cmpO, biD, bi1, bi2, seqD, intD, negD, Res.post_ok, Res.post_bind, Res.post_rs, Res.post_nox, RS.post_fl, e0]
      refine (take_eq (k := k + 8) h.tr.tb.take bu5.box (by omega) (by decide) (by decide)).imp ?_
      rintro v S6 ⟨⟨u, rfl, u0, u4⟩, bu6⟩
      (try simp [exS_asg, exS_expr, exS_ret, exS_ife, evE, evT, evB, evEs, evAnd, evOr, evAny, evAll, evIfs, evO, Ev.of, startR, Res.of_some, truR, truD, asgT, asgTs, newT, ixD, ixL, atD, ixN', binD, cmpD, cmpO, biD, bi1, bi2, seqD, intD, negD, Res.post_ok, Res.post_bind, Res.post_rs, Res.post_nox, RS.post_fl])
      exact part u u.toNat S6 (by omega) (by omega) bu6.box
  · rintro ρ S1 ⟨_, x1, x2, x3, x4, rfl⟩
    refine thn_next (cons_post ?_)
    unfold s_law_2
    (try simp [exS_asg, exS_expr, exS_ret, exS_ife, evE, evT, evB, evEs, evAnd, evOr, evAny, evAll, evIfs, evO, Ev.of, startR, Res.of_some, truR, truD, asgT, asgTs, newT, ixD, ixL, atD, ixN', binD, cmpD, cmpO, biD, bi1, bi2, seqD, intD, negD, Res.post_ok, Res.post_bind, Res.post_rs, Res.post_nox, RS.post_fl])
    refine newL_post (by simp) fun n S2 l2 g2 x2' => ?_
    obtain ⟨S3, e3, x3'⟩ := free_wait_ok (T := T) (w := w) (k := k + 2) (S := S2) h.toTF hB.sm (d := .ref n) (L := []) (.inr ⟨n, rfl, g2⟩) (by simp) (by simp)
    have hMM := Int.mul_pos hMp hMp
    obtain ⟨S4, e4, x4'⟩ := same_fr (T := T) (w := w) (k := k + 7) (S := S3) h.tr.ts (a := 0) (M := 2 * M0 * (2 * M0))
    simp [exS_asg, exS_expr, exS_ret, exS_ife, evE, evT, evB, evEs, evAnd, evOr, evAny, evAll, evIfs, evO, Ev.of, startR, Res.of_some, truR, truD, asgT, asgTs, newT, ixD, ixL, atD, ixN', binD, cmpD, cmpO, biD, bi1, bi2, seqD, intD, negD, Res.post_ok, Res.post_bind, Res.post_rs, Res.post_nox, RS.post_fl, e3, PW, fr_zero hMM, e4, thn_ret, back_ret]
    exact hQ _
end G

end

set_option maxRecDepth 100000
set_option maxHeartbeats 0
section
namespace LW
open PySem PySem.Spec PyProof.Rows L2 G
def prog : Program := PySem.Challenge.pw_waitwide_k03_free_jobs
def defOfS : Stmt → List He.DefD
  | .FunctionDef n a b _ _ _ sc _ _ _ => [⟨(n, none), n, n, a, b, sc, [], []⟩]
  | _ => []
def initOfS : Stmt → List He.DefD
  | .ClassDef n _ _ body _ _ _ _ _ _ _ => body.flatMap fun
    | .FunctionDef m a b _ _ _ sc _ _ _ => [⟨(n, some m), m, n ++ "." ++ m, a, b, sc, [], []⟩]
    | _ => []
  | _ => []
def tp : Top := ⟨(["is_integer", "is_list", "is_tuple", "reduced", "is_fraction", "is_amount", "add", "multiply", "is_below", "least_of", "is_job", "pair_of", "pair_wait", "are_free", "check_jobs", "free_of", "free_wait", "_law_cell", "_law_box", "_law_take", "_law_same", "_law_mixed", "_law_kept", "_law_copy", "_law_part", "_law_fraction", "_law_add", "_law_times", "_law_minus", "_law_over"] : List PySem.Str) ++ (["_law_less", "_law_sum", "_law_lesser", "_law_amount", "_law_job", "_law_whole_jobs", "_law_least", "_law_by_quotients", "_law_jobs", "_law_list_right", "_law_asked", "_law_refusals_right", "law"] : List PySem.Str), (["InvalidJob", "InvalidJobs"] : List PySem.Str), (["ZERO", "MOST_FREE"] : List PySem.Str), biNames⟩
def sp : G.Spec := ⟨tp, prog.main.body.flatMap defOfS, prog.main.body.flatMap initOfS, "WaitError", [("ZERO", .tup [.int 0, .int 1]), ("MOST_FREE", .int 30)]⟩
def fn : List He.DefD := sp.defs ++ sp.inits
abbrev R : PySem.W.OpenRow := PySem.W.OpenLaw.row PySem.Challenge.rw_waitwide_k03_free_jobs
abbrev hk : PySem.W.Hook := hookC 4 sp.fa fn sp.exB
def ob (s : PySem.W.SharedT) : He.AlD × Bool := obsC 4 sp.fa fn sp.exB (HandSHeadRun.getT s)
theorem ob_eq (s : PySem.W.SharedT) : ob s = hk.obs s.abs := obsC_eq (HandSHeadRun.getT_eq s)
def loose : List Str := (["WaitError", "InvalidJob", "InvalidJobs", "is_integer", "is_list", "is_tuple", "ZERO", "reduced", "is_fraction", "is_amount", "add", "multiply", "is_below", "least_of", "is_job", "MOST_FREE", "pair_of", "pair_wait", "are_free", "check_jobs", "free_of", "free_wait", "_law_cell", "_law_box", "_law_take", "_law_same", "_law_mixed", "_law_kept", "_law_copy", "_law_part"] : List PySem.Str) ++ (["_law_fraction", "_law_add", "_law_times", "_law_minus", "_law_over", "_law_less", "_law_sum", "_law_lesser", "_law_amount", "_law_job", "_law_whole_jobs", "_law_least", "_law_by_quotients", "_law_jobs", "_law_list_right", "_law_asked", "_law_refusals_right"] : List PySem.Str)
theorem run (w : World) : HandSHeadRun.RunEqI R (PySem.W.view R.prog [0, 54]) hk ob 8000 loose w := by
  unfold HandSHeadRun.RunEqI
  kernel_rfl
theorem good : sp.good = true := by kernel_rfl
theorem law_in : ("law" : Str) ∈ sp.t.fns := by
  have : sp.t.fns.contains ("law" : Str) = true := by kernel_rfl
  simpa using this
theorem law_some : (sp.code "law").isSome = true := by kernel_rfl
theorem law_code : sp.code "law" = some ((sp.code "law").get law_some) := (Option.some_get law_some).symm
theorem law_ps : ((sp.code "law").get law_some).ps = [("script" : Str)] := by kernel_rfl
end LW
end


namespace LW
open PySem G
theorem tf : TF sp.tbl where
  reduced := by kernel_rfl
  add := by kernel_rfl
  multiply := by kernel_rfl
  is_below := by kernel_rfl
  least_of := by kernel_rfl
  pair_of := by kernel_rfl
  is_integer := by kernel_rfl
  is_list := by kernel_rfl
  is_tuple := by kernel_rfl
  is_fraction := by kernel_rfl
  is_amount := by kernel_rfl
  is_job := by kernel_rfl
  zero := by kernel_rfl
  are_free := by kernel_rfl
  check_jobs := by kernel_rfl
  free_of := by kernel_rfl
  free_wait := by kernel_rfl
  pair_wait := by kernel_rfl
  most := by kernel_rfl
theorem tl : TL sp.tbl where
  part := by kernel_rfl
  fraction := by kernel_rfl
  add := by kernel_rfl
  times := by kernel_rfl
  less := by kernel_rfl
  lesser := by kernel_rfl
  sum := by kernel_rfl
theorem tr : TR sp.tbl where
  toTF := tf
  tb := { toTL := tl, take := by kernel_rfl, amount := by kernel_rfl, job := by kernel_rfl, jobs := by kernel_rfl }
  tw := { toTL := tl, by_quotients := by kernel_rfl, whole_jobs := by kernel_rfl, least := by kernel_rfl }
  ts := ⟨by kernel_rfl, by kernel_rfl, by kernel_rfl⟩
  mixed := by kernel_rfl
  sum := by kernel_rfl
  list_right := by kernel_rfl
theorem tk : TK3 sp.tbl where
  toTF := tf
  asked := by kernel_rfl
  ej := by kernel_rfl
  ejs := by kernel_rfl
  s1 := by kernel_rfl
  s2 := by kernel_rfl
  s3 := by kernel_rfl
  s4 := by kernel_rfl
  s5 := by kernel_rfl
  s6 := by kernel_rfl
  tr := tr
  refusals := by kernel_rfl
  bx := ⟨by kernel_rfl, by kernel_rfl⟩
  law := by kernel_rfl
abbrev wn : Nat := 2 ^ 9000
theorem wn_big : Big wn := fun n h => h
theorem wn_big2 : 1000 < wn := Nat.lt_of_lt_of_le (m := 2 ^ 10) (by decide) (Nat.pow_le_pow_right (by decide) (by decide))
theorem plain : ∀ ns : List Int, ns.length ≤ 63 → ∃ S2, call sp.tbl wn 60 "law" [.fl (ns.map .int)] [] = .ok (.bl true) S2 := by
  intro ns hn
  obtain ⟨v, S2, e, hv⟩ := (k03_post (k := 50) (S := []) tk wn_big wn_big2 hn).get
  rw [hv] at e
  exact ⟨S2, e⟩
end LW

open PySem PySem.W PySem.Calls PyProof.Rows in
theorem PySem.Challenge.cw_waitwide_k03_free_jobs_holds : PySem.Challenge.rw_waitwide_k03_free_jobs.Holds := by
  w_on; o_law
  refine HandSHeadRun.head_imp (r := OpenLaw.row PySem.Challenge.rw_waitwide_k03_free_jobs) (q := view (OpenLaw.row PySem.Challenge.rw_waitwide_k03_free_jobs).prog [0, 54]) (H := LW.hk) (ob := LW.ob) (M := 8000) (loose := LW.loose) (d := HandSHeadRun.topDef (OpenLaw.row PySem.Challenge.rw_waitwide_k03_free_jobs).prog 54) (kwd := []) LW.ob_eq
    LW.run (by kernel_rfl) (by kernel_rfl) (by kernel_rfl) (by rfl) (by first | assumption | decide +kernel) (by decide +kernel) ⟨rfl, rfl, rfl, rfl, rfl, by decide +kernel⟩ ?hw ?hc
  case hw => w_witness2
  case hc =>
    refine L2.walk_ofE (l := PySem.Challenge.rw_waitwide_k03_free_jobs) (n := 63) (k := 60+2) (x := "script") (CX := L2.CX0) rfl (by decide) (by kernel_rfl) ⟨rfl, by decide, by decide⟩ ?F (fun _ _ _ _ z => z)
    intro w mg fa h Y Gm hmg0
    obtain ⟨K, KX, c⟩ := Y
    have hmg : mg ("law" : PySem.Str) = some (.ref fa) := by
      have e : (HandSHeadRun.topDef (OpenLaw.row PySem.Challenge.rw_waitwide_k03_free_jobs).prog 54).name = ("law" : PySem.Str) := by kernel_rfl
      rw [← e]
      exact hmg0
    obtain ⟨fd, sp, h1, h2, h3⟩ := G.law_F (P := (PySem.Challenge.rw_waitwide_k03_free_jobs).prog) (w := w) (s := LW.sp) (k := 60) LW.good rfl LW.law_in LW.law_code LW.law_ps LW.plain KX Gm c.1 c.2 hmg
    exact ⟨K, fd, sp, KX, h1, h2, h3⟩

