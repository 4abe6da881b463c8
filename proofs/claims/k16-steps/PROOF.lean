import PyProof.Rows.All
import Wide.All
import OpenK.AllK
import Wide.FinOn
import HandS.ForMost
import HandS.Wide
import HandS.Gcd
import HandS.IsInst
import HandS.TupAny
import HandS.Flow
import HandS.More
import HandS.Zip
import KE.GoesMore
import KE.GoesEnum
import HandS.Conv
import HandS.SortInts
import PySem.Challenge.RW_wishpanes_k16_steps
set_option Elab.async false
set_option linter.all false
set_option autoImplicit false
set_option maxRecDepth 100000
set_option maxHeartbeats 4000000
/-! AL0: pure transformers over plain data (values as trees, lists and dicts by number). No program in sight. -/
namespace AL
open PySem

inductive AV where
  | non
  | bl (b : Bool)
  | int (i : Int)
  | str (x : Str)
  | tup (xs : List AV)
  | ref (n : Nat)
  | ty (n : String)
  /-- a list that nobody may change -/
  | rol (xs : List AV)

inductive AO where
  | lst (xs : List AV)
  | dct (kvs : List (Sum Int Str × AV))

abbrev AH := List AO
abbrev ASt := List (Option AV)
abbrev AK := AV → AH → Prop
abbrev ATE := ASt → AH → AK → Prop
abbrev ATT := ASt → AH → (Bool → AH → Prop) → Prop
abbrev ATA := ASt → AH → (List AV → AH → Prop) → Prop
abbrev AR2 := AV → AV → AH → AK → Prop
abbrev AR1 := AV → AH → AK → Prop
abbrev ARL := List AV → AH → AK → Prop
abbrev ARM := AV → List AV → AH → AK → Prop
/-- a contract: arguments, heap, what is wanted of the value, of an error -/
abbrev ASp := List AV → AH → AK → AK → Prop
structure AEnds where
  nx : ASt → AH → Prop
  rt : AK
  bk : ASt → AH → Prop := fun _ _ => False
  ct : ASt → AH → Prop := fun _ _ => False
abbrev ATS := AEnds → ASt → AH → Prop
abbrev ATG := AV → ASt → AH → (ASt → AH → Prop) → Prop
abbrev ATGs := List AV → ASt → AH → (ASt → AH → Prop) → Prop
/-- what is walked: the items, what must stand at each turn -/
abbrev ATI := ASt → AH → (List AV → (AH → Prop) → AH → Prop) → Prop

/-! ### slots -/
def gv : ASt → Nat → Option AV
  | [], _ => none
  | x :: _, 0 => x
  | _ :: r, n + 1 => gv r n
def sv : ASt → Nat → Option AV → ASt
  | [], _, _ => []
  | _ :: r, 0, v => v :: r
  | x :: r, n + 1, v => x :: sv r n v
def wipeA (a : ASt) : List Nat → ASt
  | [] => a
  | v :: vs => sv (wipeA a vs) v none

def lenLe : List AV → Nat → Bool
  | [], _ => true
  | _ :: _, 0 => false
  | _ :: r, n + 1 => lenLe r n

/-! ### expressions -/
def varT (i : Nat) : ATE := fun a h Q => match gv a i with
  | some v => Q v h
  | none => False
def cT (v : AV) : ATE := fun _ h Q => Q v h
def opT (r : AR2) (ta tb : ATE) : ATE := fun a h Q => ta a h fun x h1 => tb a h1 fun y h2 => r x y h2 Q
def unT (r : AR1) (ta : ATE) : ATE := fun a h Q => ta a h fun x h1 => r x h1 Q
def nilT : ATA := fun _ h Q => Q [] h
def consT (te : ATE) (ta : ATA) : ATA := fun a h Q => te a h fun x h1 => ta a h1 fun xs h2 => Q (x :: xs) h2
def tupT (ta : ATA) : ATE := fun a h Q => ta a h fun xs h1 => lenLe xs 64 = true ∧ Q (.tup xs) h1
def lstT (ta : ATA) : ATE := fun a h Q => ta a h fun xs h1 => lenLe xs 64 = true ∧ Q (.ref h1.length) (h1 ++ [.lst xs])
/-- a call of a def of the text -/
def callT (sp : ASp) (E : AK) (ta : ATA) : ATE := fun a h Q => ta a h fun xs h1 => sp xs h1 Q E
/-- a call of a built-in -/
def cbT (r : ARL) (ta : ATA) : ATE := fun a h Q => ta a h fun xs h1 => r xs h1 Q
/-- a method: what the receiver must be, what is asked of receiver and arguments -/
def mtT (ok : AV → AH → Prop) (r : ARM) (to : ATE) (ta : ATA) : ATE := fun a h Q => to a h fun x h1 => ok x h1 ∧ ta a h1 fun xs h2 => r x xs h2 Q

/-! ### tests -/
def truR : AV → AH → (Bool → AH → Prop) → Prop
  | .non, h, Q => Q false h
  | .bl b, h, Q => Q b h
  | .int i, h, Q => Q (i != 0) h
  | .str x, h, Q => x.length ≤ 16777216 ∧ Q (x.length != 0) h
  | .tup xs, h, Q => Q (!xs.isEmpty) h
  | .ref n, h, Q => match h[n]? with
    | some (.lst xs) => Q (!xs.isEmpty) h
    | some (.dct kvs) => Q (!kvs.isEmpty) h
    | none => False
  | .rol xs, h, Q => Q (!xs.isEmpty) h
  | .ty _, _, _ => False
def truT (te : ATE) : ATT := fun a h Q => te a h fun x h1 => truR x h1 Q
def blR : AV → AH → (Bool → AH → Prop) → Prop
  | .bl b, h, Q => Q b h
  | _, _, _ => False
/-- a comparison as a test -/
def cmpT (te : ATE) : ATT := fun a h Q => te a h fun x h1 => blR x h1 Q
def andT (t u : ATT) : ATT := fun a h Q => t a h fun c h1 => if c = true then u a h1 Q else Q false h1
def orT (t u : ATT) : ATT := fun a h Q => t a h fun c h1 => if c = true then Q true h1 else u a h1 Q
def notT (t : ATT) : ATT := fun a h Q => t a h fun c h1 => Q (!c) h1
def andV (ta tb : ATE) : ATE := fun a h Q => ta a h fun x h1 => blR x h1 fun c h2 => if c = true then tb a h2 Q else Q (.bl false) h2
def orV (ta tb : ATE) : ATE := fun a h Q => ta a h fun x h1 => blR x h1 fun c h2 => if c = true then Q (.bl true) h2 else tb a h2 Q
def notV (ta : ATE) : ATE := fun a h Q => ta a h fun x h1 => blR x h1 fun c h2 => Q (.bl (!c)) h2
def ifT (t : ATT) (ta tb : ATE) : ATE := fun a h Q => t a h fun c h1 => if c = true then ta a h1 Q else tb a h1 Q
/-- a < b < c -/
def chainT (r r' : AR2) (ta tb tc : ATE) : ATE := fun a h Q => ta a h fun x h1 => tb a h1 fun y h2 => r x y h2 fun z h3 => blR z h3 fun c h4 =>
  if c = true then tc a h4 fun w h5 => r' y w h5 Q else Q (.bl false) h4

/-! ### operators -/
def sized (i : Int) (n : Nat) : Prop := i.natAbs < 2 ^ n
def small64 (i : Int) : Prop := -(2 ^ 64) < i ∧ i < 2 ^ 64
def mulOk (i j : Int) : Prop := (small64 i ∨ small64 j) ∨ i.natAbs.log2 + j.natAbs.log2 < 1000000
def divOk (j : Int) : Prop := 0 < j ∧ j.natAbs.log2 < 9000
def addR : AR2
  | .int i, .int j, h, Q => Q (.int (i + j)) h
  | .int i, .bl j, h, Q => Q (.int (i + (if j then 1 else 0))) h
  | .str x, .str y, h, Q => x.length + y.length ≤ 16777216 ∧ Q (.str (x ++ y)) h
  | .tup xs, .tup ys, h, Q => xs.length + ys.length ≤ 16777216 ∧ Q (.tup (xs ++ ys)) h
  | .ref m, .ref n, h, Q => match h[m]?, h[n]? with
    | some (.lst xs), some (.lst ys) => xs.length + ys.length ≤ 16777216 ∧ Q (.ref h.length) (h ++ [.lst (xs ++ ys)])
    | _, _ => False
  | _, _, _, _ => False
def subR : AR2
  | .int i, .int j, h, Q => Q (.int (i - j)) h
  | _, _, _, _ => False
def mulR : AR2
  | .int i, .int j, h, Q => mulOk i j ∧ Q (.int (i * j)) h
  | _, _, _, _ => False
def fdivR : AR2
  | .int i, .int j, h, Q => divOk j ∧ Q (.int (i / j)) h
  | _, _, _, _ => False
def modR : AR2
  | .int i, .int j, h, Q => 0 < j ∧ Q (.int (i % j)) h
  | _, _, _, _ => False
def powR : AR2
  | .int i, .int j, h, Q => (0 ≤ j ∧ j ≤ 1000000 ∧ i.natAbs < 2 ^ 64) ∧ Q (.int (i ^ j.toNat)) h
  | _, _, _, _ => False
def shlR : AR2
  | .int i, .int j, h, Q => (0 ≤ j ∧ j ≤ 1000000 ∧ i.natAbs < 2 ^ 64) ∧ Q (.int (i * 2 ^ j.toNat)) h
  | _, _, _, _ => False
def negR : AR1
  | .int i, h, Q => Q (.int (-i)) h
  | _, _, _ => False

/-! ### comparisons -/
mutual
def aeq : AV → AV → Bool
  | .non, .non => true
  | .bl a, .bl b => a == b
  | .bl a, .int j => (if a then 1 else 0) == j
  | .int i, .bl b => i == (if b then 1 else 0)
  | .int i, .int j => i == j
  | .str x, .str y => x == y
  | .tup xs, .tup ys => aeqs xs ys
  | .ty a, .ty b => a == b
  | _, _ => false
def aeqs : List AV → List AV → Bool
  | [], [] => true
  | x :: xs, y :: ys => aeq x y && aeqs xs ys
  | _, _ => false
end
/-- data without lists, written signs, of depth below n -/
def plainN : Nat → AV → Bool
  | _, .non => true
  | _, .bl _ => true
  | _, .int _ => true
  | _, .str x => x.cps.all (· < 0x110000)
  | 0, .tup _ => false
  | n + 1, .tup xs => xs.all (plainN n)
  | _, _ => false
def eqR : AR2 := fun x y h Q => plainN 40 x = true ∧ plainN 40 y = true ∧ Q (.bl (aeq x y)) h
def neR : AR2 := fun x y h Q => plainN 40 x = true ∧ plainN 40 y = true ∧ Q (.bl (!aeq x y)) h
def ltR : AR2
  | .int i, .int j, h, Q => Q (.bl (decide (i < j))) h
  | .str x, .str y, h, Q => Q (.bl (decide (x.cps.toList < y.cps.toList))) h
  | _, _, _, _ => False
def leR : AR2
  | .int i, .int j, h, Q => Q (.bl (decide (i ≤ j))) h
  | _, _, _, _ => False
def gtR : AR2
  | .int i, .int j, h, Q => Q (.bl (decide (j < i))) h
  | _, _, _, _ => False
def geR : AR2
  | .int i, .int j, h, Q => Q (.bl (decide (j ≤ i))) h
  | _, _, _, _ => False
def isNon : AV → Bool
  | .non => true
  | _ => false
/-- is None -/
def isNR : AR2
  | x, .non, h, Q => Q (.bl (isNon x)) h
  | _, _, _, _ => False
def notNR : AR2
  | x, .non, h, Q => Q (.bl (!isNon x)) h
  | _, _, _, _ => False

/-! ### items -/
def atA {α : Type} (xs : List α) (i : Int) : Option α := match i with
  | .ofNat k => xs[k]?
  | .negSucc k => if k < xs.length then xs[xs.length - 1 - k]? else none
def keyOf : AV → Option (Sum Int Str)
  | .int i => some (.inl i)
  | .str x => some (.inr x)
  | _ => none
def kvGet (kvs : List (Sum Int Str × AV)) (k : Sum Int Str) : Option AV := (kvs.find? fun kv => decide (kv.1 = k)).map (·.2)
def kvPut (kvs : List (Sum Int Str × AV)) (k : Sum Int Str) (v : AV) : List (Sum Int Str × AV) :=
  if (kvs.any fun kv => decide (kv.1 = k)) = true then kvs.map (fun kv => if kv.1 = k then (kv.1, v) else kv) else kvs ++ [(k, v)]
def ixR : AR2
  | .tup xs, .int i, h, Q => match atA xs i with
    | some v => Q v h
    | none => False
  | .str x, .int i, h, Q => x.length ≤ 16777216 ∧ match atA x.cps.toList i with
    | some c => Q (.str ⟨#[c]⟩) h
    | none => False
  | .rol xs, .int i, h, Q => match atA xs i with
    | some v => Q v h
    | none => False
  | .ref n, k, h, Q => match h[n]? with
    | some (.lst xs) => (match k with
      | .int i => (match atA xs i with
        | some v => Q v h
        | none => False)
      | _ => False)
    | some (.dct kvs) => (match keyOf k with
      | some key => (match kvGet kvs key with
        | some v => Q v h
        | none => False)
      | none => False)
    | none => False
  | _, _, _, _ => False
/-- o[i] = v -/
def setR : AV → AV → AV → AH → (AH → Prop) → Prop
  | .ref n, k, v, h, Q => match h[n]? with
    | some (.lst xs) => (match k with
      | .int (.ofNat j) => j < xs.length ∧ Q (h.set n (.lst (xs.set j v)))
      | _ => False)
    | some (.dct kvs) => (match keyOf k with
      | some key => kvs.length < 16777216 ∧ Q (h.set n (.dct (kvPut kvs key v)))
      | none => False)
    | _ => False
  | _, _, _, _, _ => False

/-! ### built-ins -/
def lenR : ARL
  | [.tup xs], h, Q => Q (.int xs.length) h
  | [.str x], h, Q => x.length ≤ 16777216 ∧ Q (.int x.length) h
  | [.ref n], h, Q => match h[n]? with
    | some (.lst xs) => Q (.int xs.length) h
    | some (.dct kvs) => Q (.int kvs.length) h
    | _ => False
  | [.rol xs], h, Q => Q (.int xs.length) h
  | _, _, _ => False
def absR : ARL
  | [.int i], h, Q => Q (.int (if i < 0 then -i else i)) h
  | _, _, _ => False
def intR : ARL
  | [.int i], h, Q => Q (.int i) h
  | [.bl b], h, Q => Q (.int (if b then 1 else 0)) h
  | _, _, _ => False
def strR : ARL
  | [.int i], h, Q => i.natAbs.log2 < 1920 ∧ Q (.str (toString i : String)) h
  | _, _, _ => False
def gcdR : ARL
  | [.int a, .int b], h, Q => Q (.int ((Nat.gcd a.natAbs b.natAbs : Nat) : Int)) h
  | _, _, _ => False
def tupleR : ARL
  | [.tup xs], h, Q => Q (.tup xs) h
  | [.ref n], h, Q => match h[n]? with
    | some (.lst xs) => Q (.tup xs) h
    | _ => False
  | [.rol xs], h, Q => Q (.tup xs) h
  | _, _, _ => False
def listR : ARL
  | [.tup xs], h, Q => Q (.ref h.length) (h ++ [.lst xs])
  | [.ref n], h, Q => match h[n]? with
    | some (.lst xs) => Q (.ref h.length) (h ++ [.lst xs])
    | _ => False
  | [.rol xs], h, Q => Q (.ref h.length) (h ++ [.lst xs])
  | _, _, _ => False
def tyName : AV → AH → Option String
  | .non, _ => some "NoneType"
  | .bl _, _ => some "bool"
  | .int _, _ => some "int"
  | .str _, _ => some "str"
  | .tup _, _ => some "tuple"
  | .ref n, h => match h[n]? with
    | some (.lst _) => some "list"
    | some (.dct _) => some "dict"
    | none => none
  | .rol _, _ => some "list"
  | .ty _, _ => none
/-- isinstance of plain kinds -/
def isInst : String → String → Option Bool
  | "NoneType", t => if t = "int" ∨ t = "bool" ∨ t = "str" ∨ t = "tuple" ∨ t = "list" ∨ t = "dict" then some false else none
  | "bool", t => if t = "int" ∨ t = "bool" then some true else if t = "str" ∨ t = "tuple" ∨ t = "list" ∨ t = "dict" then some false else none
  | "int", t => if t = "int" then some true else if t = "bool" ∨ t = "str" ∨ t = "tuple" ∨ t = "list" ∨ t = "dict" then some false else none
  | "str", t => if t = "str" then some true else if t = "bool" ∨ t = "int" ∨ t = "tuple" ∨ t = "list" ∨ t = "dict" then some false else none
  | "tuple", t => if t = "tuple" then some true else if t = "bool" ∨ t = "str" ∨ t = "int" ∨ t = "list" ∨ t = "dict" then some false else none
  | "list", t => if t = "list" then some true else if t = "bool" ∨ t = "str" ∨ t = "tuple" ∨ t = "int" ∨ t = "dict" then some false else none
  | "dict", t => if t = "dict" then some true else if t = "bool" ∨ t = "str" ∨ t = "tuple" ∨ t = "list" ∨ t = "int" then some false else none
  | _, _ => none
def instR : ARL
  | [x, .ty t], h, Q => match tyName x h with
    | some n => (match isInst n t with
      | some b => Q (.bl b) h
      | none => False)
    | none => False
  | _, _, _ => False
def blsOf : List AV → Option (List Bool)
  | [] => some []
  | .bl b :: r => (blsOf r).map (b :: ·)
  | _ :: _ => none
def allR : ARL
  | [.ref n], h, Q => match h[n]? with
    | some (.lst xs) => (match blsOf xs with
      | some bs => Q (.bl (bs.all id)) h
      | none => False)
    | _ => False
  | _, _, _ => False
def anyR : ARL
  | [.ref n], h, Q => match h[n]? with
    | some (.lst xs) => (match blsOf xs with
      | some bs => Q (.bl (bs.any id)) h
      | none => False)
    | _ => False
  | _, _, _ => False
/-! ### methods -/
def isLst : AV → AH → Prop
  | .ref n, h => match h[n]? with
    | some (.lst _) => True
    | _ => False
  | _, _ => False
def appendR : ARM
  | .ref n, [y], h, Q => match h[n]? with
    | some (.lst xs) => xs.length < 16777216 ∧ Q .non (h.set n (.lst (xs ++ [y])))
    | _ => False
  | _, _, _, _ => False

def insertR : ARM
  | .ref n, [.int i, y], h, Q => match h[n]? with
    | some (.lst xs) => xs.length < 16777216 ∧ 0 ≤ i ∧ i < 2 ^ 63 ∧ Q .non (h.set n (.lst (xs.take i.toNat ++ [y] ++ xs.drop i.toNat)))
    | _ => False
  | _, _, _, _ => False
def iaddR : AR2
  | .int i, .int j, h, Q => Q (.int (i + j)) h
  | .str x, .str y, h, Q => x.length + y.length ≤ 16777216 ∧ Q (.str (x ++ y)) h
  | _, _, _, _ => False
def isubR : AR2
  | .int i, .int j, h, Q => Q (.int (i - j)) h
  | _, _, _, _ => False

/-! ### statements -/
def nextT : ATS := fun D a h => D.nx a h
def seqT (t u : ATS) : ATS := fun D a h => t { D with nx := u D } a h
def brkT : ATS := fun D a h => D.bk a h
def contT : ATS := fun D a h => D.ct a h
def dropT (te : ATE) : ATS := fun D a h => te a h fun _ h1 => D.nx a h1
def retT (te : ATE) : ATS := fun D a h => te a h D.rt
def retNT : ATS := fun D _ h => D.rt .non h
def ifS (c : ATT) (t u : ATS) : ATS := fun D a h => c a h fun b h1 => if b = true then t D a h1 else u D a h1
def gNameT (i : Nat) : ATG := fun v a h Q => Q (sv a i (some v)) h
def gNilT : ATGs := fun vs a h Q => match vs with
  | [] => Q a h
  | _ :: _ => False
def gConsT (t : ATG) (u : ATGs) : ATGs := fun vs a h Q => match vs with
  | v :: r => t v a h fun a' h' => u r a' h' Q
  | [] => False
def gTupT (n : Nat) (t : ATGs) : ATG := fun v a h Q => match v with
  | .tup xs => xs.length = n ∧ t xs a h Q
  | _ => False
/-- names only: one, or a tuple of names -/
def gNmsT : List Nat → ATGs
  | [] => gNilT
  | i :: r => gConsT (gNameT i) (gNmsT r)
def gSubT (to ti : ATE) : ATG := fun v a h Q => to a h fun o h1 => ti a h1 fun i h2 => setR o i v h2 fun h3 => Q a h3
def asgT (te : ATE) (g : ATG) : ATS := fun D a h => te a h fun x h1 => g x a h1 D.nx
/-- a, b = x, y -/
def parT (i j : Nat) (ta : ATA) : ATS := fun D a h => ta a h fun xs h1 => match xs with
  | [v, w] => D.nx (sv (sv a i (some v)) j (some w)) h1
  | _ => False
def augT (i : Nat) (te : ATE) (r : AR2) : ATS := fun D a h => match gv a i with
  | some x => te a h fun y h1 => r x y h1 fun z h2 => D.nx (sv a i (some z)) h2
  | none => False
/-- o[i] op= e -/
def augST (to ti te : ATE) (r : AR2) : ATS := fun D a h => to a h fun o h1 => ti a h1 fun i h2 => ixR o i h2 fun x h3 => te a h3 fun y h4 => r x y h4 fun z h5 => setR o i z h5 fun h6 => D.nx a h6

/-! ### loops -/
def forT (it : ATI) (g : ATG) (tb : ATS) : ATS := fun D a h => it a h fun items guard h1 => ∃ I : Nat → ASt → AH → Prop, I 0 a h1 ∧
  (∀ i x a h, items[i]? = some x → I i a h → guard h ∧ g x a h fun a2 h2 => tb { D with nx := I (i + 1), ct := I (i + 1), bk := D.nx } a2 h2) ∧
  ∀ a h, I items.length a h → guard h ∧ D.nx a h
def whileT (c : ATT) (tb : ATS) : ATS := fun D a h => ∃ W : Nat → ASt → AH → Prop, (∃ m, W m a h) ∧ ∀ m a h, W m a h →
  c a h fun b h1 => if b = true then ∃ N : ASt → AH → Prop, (∀ a' h', N a' h' → ∃ m', m' < m ∧ W m' a' h') ∧ tb { D with nx := N, ct := N, bk := D.nx } a h1 else D.nx a h1
def lcT (it : ATI) (g : ATG) (tt : ATT) (te : ATE) (vs : List Nat) : ATE := fun a h Q => it a h fun items guard h1 => ∃ I : Nat → List AV → AH → Prop, I 0 [] (h1 ++ [.lst []]) ∧
  (∀ i x acc h, items[i]? = some x → I i acc h → guard h ∧ g x (wipeA a vs) h fun a2 h2 => tt a2 h2 fun b h3 =>
    if b = true then te a2 h3 fun y h4 => h4[h1.length]? = some (.lst acc) ∧ acc.length < 16777216 ∧ I (i + 1) (acc ++ [y]) (h4.set h1.length (.lst (acc ++ [y]))) else I (i + 1) acc h3) ∧
  ∀ acc h, I items.length acc h → guard h ∧ h[h1.length]? = some (.lst acc) ∧ Q (.ref h1.length) h
def yesT : ATT := fun _ h Q => Q true h
/-- a list, a tuple (by its kind) -/
def iSeqT (te : ATE) : ATI := fun a h R => te a h fun x h1 => match x with
  | .tup xs => R xs (fun _ => True) h1
  | .rol xs => R xs (fun _ => True) h1
  | .ref n => (match h1[n]? with
    | some (.lst xs) => R xs (fun h => h[n]? = some (.lst xs)) h1
    | _ => False)
  | _ => False
def zrange (lo : Int) (n : Nat) : List AV := (List.range n).map fun (i : Nat) => .int (lo + (i : Int))
def iRng1T (ta : ATA) : ATI := fun a h R => ta a h fun xs h1 => match xs with
  | [.int n] => n < 2 ^ 62 ∧ -(2 ^ 62) ≤ n ∧ R (zrange 0 n.toNat) (fun _ => True) h1
  | _ => False
def iRng2T (ta : ATA) : ATI := fun a h R => ta a h fun xs h1 => match xs with
  | [.int i, .int n] => (-(2 ^ 62) ≤ i ∧ i < 2 ^ 62 ∧ -(2 ^ 62) ≤ n ∧ n < 2 ^ 62) ∧ R (zrange i (n - i).toNat) (fun _ => True) h1
  | _ => False
def zip2 : List AV → List AV → List AV
  | x :: xs, y :: ys => .tup [x, y] :: zip2 xs ys
  | _, _ => []
def seqOf : AV → AH → Option (List AV)
  | .tup xs, _ => some xs
  | .ref n, h => match h[n]? with
    | some (.lst xs) => some xs
    | _ => none
  | .rol xs, _ => some xs
  | _, _ => none
def lstOf : AV → AH → Option (List AV)
  | .ref n, h => match h[n]? with
    | some (.lst xs) => some xs
    | _ => none
  | .rol xs, _ => some xs
  | _, _ => none
def iZipT (ta : ATA) : ATI := fun a h R => ta a h fun vs h1 => match vs with
  | [.tup xs, .tup ys] => R (zip2 xs ys) (fun _ => True) h1
  | [x, y] => (match lstOf x h1, lstOf y h1 with
    | some xs, some ys => R (zip2 xs ys) (fun h => lstOf x h = some xs ∧ lstOf y h = some ys) h1
    | _, _ => False)
  | _ => False
def enumV (k : Nat) : List AV → List AV
  | [] => []
  | x :: r => .tup [.int (k : Int), x] :: enumV (k + 1) r
def iEnumT (ta : ATA) : ATI := fun a h R => ta a h fun vs h1 => match vs with
  | [.tup xs] => R (enumV 0 xs) (fun _ => True) h1
  | [x] => (match lstOf x h1 with
    | some xs => R (enumV 0 xs) (fun h => lstOf x h = some xs) h1
    | none => False)
  | _ => False
def signs (x : Str) : List AV := x.cps.toList.map fun c => .str ⟨#[c]⟩
def iStrT (te : ATE) : ATI := fun a h R => te a h fun x h1 => match x with
  | .str z => R (signs z) (fun _ => True) h1
  | _ => False
/-- what a def's body is to end with -/
def ends (R : AK) : AEnds := { nx := fun _ h => R .non h, rt := R }
def startA (n : Nat) (xs : List AV) : ASt := xs.map some ++ List.replicate (n - xs.length) none

/-! ### numbers of objects within a bound; what a def gives back, its own objects forgotten -/
mutual
def clB (n : Nat) : AV → Bool
  | .ref k => decide (k < n)
  | .tup xs => clBs n xs
  | .rol xs => clBs n xs
  | _ => true
def clBs (n : Nat) : List AV → Bool
  | [] => true
  | x :: r => clB n x && clBs n r
end
def clO (n : Nat) : AO → Bool
  | .lst xs => clBs n xs
  | .dct kvs => clBs n (kvs.map (·.2))
def clH (h : AH) : Prop := ∀ o ∈ h, clO h.length o = true
def retG (h0 : AH) (R : AK) : AK := fun x h' => R x h' ∨ (∃ h1 j, h' = h1 ++ j ∧ h1.length = h0.length ∧ clH h1 ∧ clB h1.length x = true ∧ R x h1) ∨
  ∃ h1 j1 xs j2, h' = h1 ++ (j1 ++ .lst xs :: j2) ∧ x = .ref (h1.length + j1.length) ∧ h1.length = h0.length ∧ clH h1 ∧ clBs h1.length xs = true ∧ R (.ref h1.length) (h1 ++ [.lst xs])
/-- what the law's def is to keep -/
def lawSp : ASp := fun xs _ R _ => ∃ ns : List Int, xs = [.rol (ns.map AV.int)] ∧ ns.length ≤ 63 ∧ ∀ h', R (.bl true) h'

/-! ### contracts by the number of arguments -/
def A0 (p : AH → AK → AK → Prop) : ASp
  | [], h, R, E => p h R E
  | _, _, _, _ => False
def A1 (p : AV → AH → AK → AK → Prop) : ASp
  | [x], h, R, E => p x h R E
  | _, _, _, _ => False
def A2 (p : AV → AV → AH → AK → AK → Prop) : ASp
  | [x, y], h, R, E => p x y h R E
  | _, _, _, _ => False
def A3 (p : AV → AV → AV → AH → AK → AK → Prop) : ASp
  | [x, y, z], h, R, E => p x y z h R E
  | _, _, _, _ => False
def A4 (p : AV → AV → AV → AV → AH → AK → AK → Prop) : ASp
  | [x, y, z, u], h, R, E => p x y z u h R E
  | _, _, _, _ => False
def A5 (p : AV → AV → AV → AV → AV → AH → AK → AK → Prop) : ASp
  | [x, y, z, u, v], h, R, E => p x y z u v h R E
  | _, _, _, _ => False
def A6 (p : AV → AV → AV → AV → AV → AV → AH → AK → AK → Prop) : ASp
  | [x, y, z, u, v, w], h, R, E => p x y z u v w h R E
  | _, _, _, _ => False
theorem A0_len {p} : ∀ {xs : List AV} {h : AH} {R E : AK}, A0 p xs h R E → xs.length = 0
  | [], _, _, _, _ => rfl
theorem A1_len {p} : ∀ {xs : List AV} {h : AH} {R E : AK}, A1 p xs h R E → xs.length = 1
  | [_], _, _, _, _ => rfl
theorem A2_len {p} : ∀ {xs : List AV} {h : AH} {R E : AK}, A2 p xs h R E → xs.length = 2
  | [_, _], _, _, _, _ => rfl
theorem A3_len {p} : ∀ {xs : List AV} {h : AH} {R E : AK}, A3 p xs h R E → xs.length = 3
  | [_, _, _], _, _, _, _ => rfl
theorem A4_len {p} : ∀ {xs : List AV} {h : AH} {R E : AK}, A4 p xs h R E → xs.length = 4
  | [_, _, _, _], _, _, _, _ => rfl
theorem A5_len {p} : ∀ {xs : List AV} {h : AH} {R E : AK}, A5 p xs h R E → xs.length = 5
  | [_, _, _, _, _], _, _, _, _ => rfl
theorem A6_len {p} : ∀ {xs : List AV} {h : AH} {R E : AK}, A6 p xs h R E → xs.length = 6
  | [_, _, _, _, _, _], _, _, _, _ => rfl
end AL

/-! ALE: what the operations give at values of known kinds, as equations. -/
namespace AL
open PySem
section
variable {i j : Int} {b c : Bool} {x y z : Str} {xs ys : List AV} {n m k : Nat} {h : AH} {Q : AK} {B : Bool → AH → Prop} {v w u : AV} {a : ASt}
theorem e_tru_non : truR .non h B = B false h := rfl
theorem e_tru_bl : truR (.bl b) h B = B b h := rfl
theorem e_tru_int : truR (.int i) h B = B (i != 0) h := rfl
theorem e_tru_tup : truR (.tup xs) h B = B (!xs.isEmpty) h := rfl
theorem e_tru_rol : truR (.rol xs) h B = B (!xs.isEmpty) h := rfl
theorem e_bl_bl : blR (.bl b) h B = B b h := rfl
theorem e_add_int : addR (.int i) (.int j) h Q = Q (.int (i + j)) h := rfl
theorem e_add_ib : addR (.int i) (.bl b) h Q = Q (.int (i + (if b then 1 else 0))) h := rfl
theorem e_add_str : addR (.str x) (.str y) h Q = (x.length + y.length ≤ 16777216 ∧ Q (.str (x ++ y)) h) := rfl
theorem e_add_tup : addR (.tup xs) (.tup ys) h Q = (xs.length + ys.length ≤ 16777216 ∧ Q (.tup (xs ++ ys)) h) := rfl
theorem e_sub_int : subR (.int i) (.int j) h Q = Q (.int (i - j)) h := rfl
theorem e_mul_int : mulR (.int i) (.int j) h Q = (mulOk i j ∧ Q (.int (i * j)) h) := rfl
theorem e_fdiv_int : fdivR (.int i) (.int j) h Q = (divOk j ∧ Q (.int (i / j)) h) := rfl
theorem e_mod_int : modR (.int i) (.int j) h Q = (0 < j ∧ Q (.int (i % j)) h) := rfl
theorem e_pow_int : powR (.int i) (.int j) h Q = ((0 ≤ j ∧ j ≤ 1000000 ∧ i.natAbs < 2 ^ 64) ∧ Q (.int (i ^ j.toNat)) h) := rfl
theorem e_shl_int : shlR (.int i) (.int j) h Q = ((0 ≤ j ∧ j ≤ 1000000 ∧ i.natAbs < 2 ^ 64) ∧ Q (.int (i * 2 ^ j.toNat)) h) := rfl
theorem e_neg_int : negR (.int i) h Q = Q (.int (-i)) h := rfl
theorem e_iadd_int : iaddR (.int i) (.int j) h Q = Q (.int (i + j)) h := rfl
theorem e_iadd_str : iaddR (.str x) (.str y) h Q = (x.length + y.length ≤ 16777216 ∧ Q (.str (x ++ y)) h) := rfl
theorem e_isub_int : isubR (.int i) (.int j) h Q = Q (.int (i - j)) h := rfl
theorem e_aeq_int : aeq (.int i) (.int j) = (i == j) := by simp [aeq]
theorem e_aeq_str : aeq (.str x) (.str y) = (x == y) := by simp [aeq]
theorem e_aeq_bl : aeq (.bl b) (.bl c) = (b == c) := by simp [aeq]
theorem e_aeq_non : aeq .non .non = true := by simp [aeq]
theorem e_aeq_tup : aeq (.tup xs) (.tup ys) = aeqs xs ys := by simp [aeq]
theorem e_aeqs_nil : aeqs [] [] = true := by simp [aeqs]
theorem e_aeqs_cons : aeqs (v :: xs) (w :: ys) = (aeq v w && aeqs xs ys) := by simp [aeqs]
theorem e_aeqs_nc : aeqs [] (w :: ys) = false := by simp [aeqs]
theorem e_aeqs_cn : aeqs (v :: xs) [] = false := by simp [aeqs]
theorem e_plain_int : plainN n (.int i) = true := by cases n <;> rfl
theorem e_plain_bl : plainN n (.bl b) = true := by cases n <;> rfl
theorem e_plain_non : plainN n .non = true := by cases n <;> rfl
theorem e_plain_str : plainN n (.str x) = x.cps.all (· < 0x110000) := by cases n <;> rfl
theorem e_plain_tup : plainN (n + 1) (.tup xs) = xs.all (plainN n) := rfl
theorem e_eq : eqR v w h Q = (plainN 40 v = true ∧ plainN 40 w = true ∧ Q (.bl (aeq v w)) h) := rfl
theorem e_ne : neR v w h Q = (plainN 40 v = true ∧ plainN 40 w = true ∧ Q (.bl (!aeq v w)) h) := rfl
theorem e_lt_int : ltR (.int i) (.int j) h Q = Q (.bl (decide (i < j))) h := rfl
theorem e_lt_str : ltR (.str x) (.str y) h Q = Q (.bl (decide (x.cps.toList < y.cps.toList))) h := rfl
theorem e_le_int : leR (.int i) (.int j) h Q = Q (.bl (decide (i ≤ j))) h := rfl
theorem e_gt_int : gtR (.int i) (.int j) h Q = Q (.bl (decide (j < i))) h := rfl
theorem e_ge_int : geR (.int i) (.int j) h Q = Q (.bl (decide (j ≤ i))) h := rfl
theorem e_isN : isNR v .non h Q = Q (.bl (isNon v)) h := by cases v <;> rfl
theorem e_notN : notNR v .non h Q = Q (.bl (!isNon v)) h := by cases v <;> rfl
theorem e_isNon_int : isNon (.int i) = false := rfl
theorem e_isNon_str : isNon (.str x) = false := rfl
theorem e_isNon_tup : isNon (.tup xs) = false := rfl
theorem e_isNon_non : isNon .non = true := rfl
theorem e_isNon_ref : isNon (.ref n) = false := rfl
theorem e_isNon_bl : isNon (.bl b) = false := rfl
theorem e_ix_tup (e : atA xs i = some v) : ixR (.tup xs) (.int i) h Q = Q v h := by simp only [ixR, e]
theorem e_ix_rol (e : atA xs i = some v) : ixR (.rol xs) (.int i) h Q = Q v h := by simp only [ixR, e]
theorem e_ix_lst (e1 : h[n]? = some (.lst xs)) (e : atA xs i = some v) : ixR (.ref n) (.int i) h Q = Q v h := by simp only [ixR, e1, e]
theorem e_ix_str {c : Nat} (e : atA x.cps.toList i = some c) : ixR (.str x) (.int i) h Q = (x.length ≤ 16777216 ∧ Q (.str ⟨#[c]⟩) h) := by simp only [ixR, e]
theorem e_ix0 : ixR (.tup (v :: xs)) (.int 0) h Q = Q v h := rfl
theorem e_ix1 : ixR (.tup (v :: w :: xs)) (.int 1) h Q = Q w h := rfl
theorem e_ix2 {u : AV} : ixR (.tup (v :: w :: u :: xs)) (.int 2) h Q = Q u h := rfl
theorem e_ix3 {u z : AV} : ixR (.tup (v :: w :: u :: z :: xs)) (.int 3) h Q = Q z h := rfl
theorem e_ix4 {u z t : AV} : ixR (.tup (v :: w :: u :: z :: t :: xs)) (.int 4) h Q = Q t h := rfl
theorem e_set_lst {S : AH → Prop} {j : Nat} (e1 : h[n]? = some (.lst xs)) : setR (.ref n) (.int (j : Int)) v h S = (j < xs.length ∧ S (h.set n (.lst (xs.set j v)))) := by
  show setR (.ref n) (.int (.ofNat j)) v h S = _
  simp only [setR, e1]
theorem e_len_tup : lenR [.tup xs] h Q = Q (.int xs.length) h := rfl
theorem e_len_rol : lenR [.rol xs] h Q = Q (.int xs.length) h := rfl
theorem e_len_str : lenR [.str x] h Q = (x.length ≤ 16777216 ∧ Q (.int x.length) h) := rfl
theorem e_len_lst (e : h[n]? = some (.lst xs)) : lenR [.ref n] h Q = Q (.int xs.length) h := by simp only [lenR, e]
theorem e_abs : absR [.int i] h Q = Q (.int (if i < 0 then -i else i)) h := rfl
theorem e_int_int : intR [.int i] h Q = Q (.int i) h := rfl
theorem e_int_bl : intR [.bl b] h Q = Q (.int (if b then 1 else 0)) h := rfl
theorem e_str_int : strR [.int i] h Q = (i.natAbs.log2 < 1920 ∧ Q (.str (toString i : String)) h) := rfl
theorem e_gcd : gcdR [.int i, .int j] h Q = Q (.int ((Nat.gcd i.natAbs j.natAbs : Nat) : Int)) h := rfl
theorem e_tuple_tup : tupleR [.tup xs] h Q = Q (.tup xs) h := rfl
theorem e_tuple_lst (e : h[n]? = some (.lst xs)) : tupleR [.ref n] h Q = Q (.tup xs) h := by simp only [tupleR, e]
theorem e_list_tup : listR [.tup xs] h Q = Q (.ref h.length) (h ++ [.lst xs]) := rfl
theorem e_list_lst (e : h[n]? = some (.lst xs)) : listR [.ref n] h Q = Q (.ref h.length) (h ++ [.lst xs]) := by simp only [listR, e]
theorem e_inst_ii : instR [.int i, .ty "int"] h Q = Q (.bl true) h := rfl
theorem e_inst_ib : instR [.int i, .ty "bool"] h Q = Q (.bl false) h := rfl
theorem e_inst_tt : instR [.tup xs, .ty "tuple"] h Q = Q (.bl true) h := rfl
theorem e_inst_it : instR [.int i, .ty "tuple"] h Q = Q (.bl false) h := rfl
theorem e_inst_ti : instR [.tup xs, .ty "int"] h Q = Q (.bl false) h := rfl
theorem e_inst_tb : instR [.tup xs, .ty "bool"] h Q = Q (.bl false) h := rfl
theorem e_inst_bb : instR [.bl b, .ty "bool"] h Q = Q (.bl true) h := rfl
theorem e_inst_bi : instR [.bl b, .ty "int"] h Q = Q (.bl true) h := rfl
theorem e_inst_bt : instR [.bl b, .ty "tuple"] h Q = Q (.bl false) h := rfl
theorem e_inst_ss : instR [.str x, .ty "str"] h Q = Q (.bl true) h := rfl
theorem e_inst_st : instR [.str x, .ty "tuple"] h Q = Q (.bl false) h := rfl
theorem e_inst_si : instR [.str x, .ty "int"] h Q = Q (.bl false) h := rfl
theorem e_inst_nt : instR [.non, .ty "tuple"] h Q = Q (.bl false) h := rfl
theorem e_append (e : h[n]? = some (.lst xs)) : appendR (.ref n) [v] h Q = (xs.length < 16777216 ∧ Q .non (h.set n (.lst (xs ++ [v])))) := by simp only [appendR, e]
theorem e_isLst (e : h[n]? = some (.lst xs)) : isLst (.ref n) h = True := by simp only [isLst, e]
theorem e_insert (e : h[n]? = some (.lst xs)) : insertR (.ref n) [.int i, v] h Q = (xs.length < 16777216 ∧ 0 ≤ i ∧ i < 2 ^ 63 ∧ Q .non (h.set n (.lst (xs.take i.toNat ++ [v] ++ xs.drop i.toNat)))) := by simp only [insertR, e]
theorem e_tru_lst (e : h[n]? = some (.lst xs)) : truR (.ref n) h B = B (!xs.isEmpty) h := by simp only [truR, e]
theorem e_gTup {t : ATGs} {N : ASt → AH → Prop} : gTupT n t (.tup xs) a h N = (xs.length = n ∧ t xs a h N) := rfl
theorem e_gCons {t : ATG} {t2 : ATGs} {N : ASt → AH → Prop} : gConsT t t2 (v :: xs) a h N = t v a h fun a' h' => t2 xs a' h' N := rfl
theorem e_gNil {N : ASt → AH → Prop} : gNilT [] a h N = N a h := rfl
theorem e_gNms0 : gNmsT [] = gNilT := rfl
theorem e_gNms1 {r : List Nat} : gNmsT (n :: r) = gConsT (gNameT n) (gNmsT r) := rfl
theorem e_gName {N : ASt → AH → Prop} : gNameT n v a h N = N (sv a n (some v)) h := rfl
theorem atA_0 {α : Type} {x : α} {r : List α} : atA (x :: r) 0 = some x := rfl
theorem atA_1 {α : Type} {x y : α} {r : List α} : atA (x :: y :: r) 1 = some y := rfl
theorem atA_2 {α : Type} {x y z : α} {r : List α} : atA (x :: y :: z :: r) 2 = some z := rfl
theorem atA_3 {α : Type} {x y z u : α} {r : List α} : atA (x :: y :: z :: u :: r) 3 = some u := rfl
theorem atA_4 {α : Type} {x y z u v : α} {r : List α} : atA (x :: y :: z :: u :: v :: r) 4 = some v := rfl
theorem atA_nat {α : Type} {r : List α} {k : Nat} : atA r (k : Int) = r[k]? := rfl
/-! ### lists behind one another -/
theorem get_l0 {h : AH} {x : AO} {r : AH} : (h ++ x :: r)[h.length]? = some x := by
  rw [List.getElem?_append_right (Nat.le_refl _), Nat.sub_self]
  rfl
theorem get_l1 {h : AH} {x y : AO} {r : AH} : (h ++ x :: y :: r)[h.length + 1]? = some y := by
  rw [List.getElem?_append_right (by omega), Nat.add_sub_cancel_left]
  rfl
theorem get_l2 {h : AH} {x y z : AO} {r : AH} : (h ++ x :: y :: z :: r)[h.length + 2]? = some z := by
  rw [List.getElem?_append_right (by omega), Nat.add_sub_cancel_left]
  rfl
theorem get_l3 {h : AH} {x y z u : AO} {r : AH} : (h ++ x :: y :: z :: u :: r)[h.length + 3]? = some u := by
  rw [List.getElem?_append_right (by omega), Nat.add_sub_cancel_left]
  rfl
theorem set_l0 {h : AH} {x y : AO} {r : AH} : (h ++ x :: r).set h.length y = h ++ y :: r := by
  rw [List.set_append_right _ _ (Nat.le_refl _), Nat.sub_self]
  rfl
theorem set_l1 {h : AH} {x y z : AO} {r : AH} : (h ++ x :: y :: r).set (h.length + 1) z = h ++ x :: z :: r := by
  rw [List.set_append_right _ _ (by omega), Nat.add_sub_cancel_left]
  rfl
theorem set_l2 {h : AH} {x y z u : AO} {r : AH} : (h ++ x :: y :: z :: r).set (h.length + 2) u = h ++ x :: y :: u :: r := by
  rw [List.set_append_right _ _ (by omega), Nat.add_sub_cancel_left]
  rfl
theorem app_l {h r s : AH} : (h ++ r) ++ s = h ++ (r ++ s) := List.append_assoc _ _ _
theorem len_l0 {h : AH} {x : AO} : (h ++ [x]).length = h.length + 1 := by simp
theorem len_l1 {h : AH} {x y : AO} : (h ++ [x, y]).length = h.length + 2 := by simp
theorem len_l2 {h : AH} {x y z : AO} : (h ++ [x, y, z]).length = h.length + 3 := by simp
section
variable {te ta tb tc : ATE} {tl : ATA} {tt uu : ATT} {t u : ATS} {r r' : AR2} {r1 : AR1} {rl : ARL} {rm : ARM} {sp : ASp} {E Q : AK} {a : ASt} {h : AH} {v : AV} {i j : Nat} {D : AEnds} {g : ATG} {B : Bool → AH → Prop} {L : List AV → AH → Prop} {ok : AV → AH → Prop}
theorem x_c : cT v a h Q = Q v h := rfl
theorem x_var : varT i a h Q = match gv a i with
    | some v => Q v h
    | none => False := rfl
theorem x_op : opT r ta tb a h Q = ta a h fun x h1 => tb a h1 fun y h2 => r x y h2 Q := rfl
theorem x_un : unT r1 ta a h Q = ta a h fun x h1 => r1 x h1 Q := rfl
theorem x_nil : nilT a h L = L [] h := rfl
theorem x_cons : consT te tl a h L = te a h fun x h1 => tl a h1 fun xs h2 => L (x :: xs) h2 := rfl
theorem x_tup : tupT tl a h Q = tl a h fun xs h1 => lenLe xs 64 = true ∧ Q (.tup xs) h1 := rfl
theorem x_lst : lstT tl a h Q = tl a h fun xs h1 => lenLe xs 64 = true ∧ Q (.ref h1.length) (h1 ++ [.lst xs]) := rfl
theorem x_call : callT sp E tl a h Q = tl a h fun xs h1 => sp xs h1 Q E := rfl
theorem x_cb : cbT rl tl a h Q = tl a h fun xs h1 => rl xs h1 Q := rfl
theorem x_mt : mtT ok rm ta tl a h Q = ta a h fun x h1 => ok x h1 ∧ tl a h1 fun xs h2 => rm x xs h2 Q := rfl
theorem x_tru : truT te a h B = te a h fun x h1 => truR x h1 B := rfl
theorem x_cmp : cmpT te a h B = te a h fun x h1 => blR x h1 B := rfl
theorem x_and : andT tt uu a h B = tt a h fun c h1 => if c = true then uu a h1 B else B false h1 := rfl
theorem x_or : orT tt uu a h B = tt a h fun c h1 => if c = true then B true h1 else uu a h1 B := rfl
theorem x_not : notT tt a h B = tt a h fun c h1 => B (!c) h1 := rfl
theorem x_andV : andV ta tb a h Q = ta a h fun x h1 => blR x h1 fun c h2 => if c = true then tb a h2 Q else Q (.bl false) h2 := rfl
theorem x_orV : orV ta tb a h Q = ta a h fun x h1 => blR x h1 fun c h2 => if c = true then Q (.bl true) h2 else tb a h2 Q := rfl
theorem x_notV : notV ta a h Q = ta a h fun x h1 => blR x h1 fun c h2 => Q (.bl (!c)) h2 := rfl
theorem x_if : ifT tt ta tb a h Q = tt a h fun c h1 => if c = true then ta a h1 Q else tb a h1 Q := rfl
theorem x_chain : chainT r r' ta tb tc a h Q = ta a h fun x h1 => tb a h1 fun y h2 => r x y h2 fun z h3 => blR z h3 fun c h4 => if c = true then tc a h4 fun w h5 => r' y w h5 Q else Q (.bl false) h4 := rfl
theorem x_next : nextT D a h = D.nx a h := rfl
theorem x_seq : seqT t u D a h = t { D with nx := u D } a h := rfl
theorem x_brk : brkT D a h = D.bk a h := rfl
theorem x_cont : contT D a h = D.ct a h := rfl
theorem x_drop : dropT te D a h = te a h fun _ h1 => D.nx a h1 := rfl
theorem x_ret : retT te D a h = te a h D.rt := rfl
theorem x_retN : retNT D a h = D.rt .non h := rfl
theorem x_ifS : ifS tt t u D a h = tt a h fun b h1 => if b = true then t D a h1 else u D a h1 := rfl
theorem x_asg : asgT te g D a h = te a h fun x h1 => g x a h1 D.nx := rfl
theorem x_gSub {N : ASt → AH → Prop} : gSubT ta tb v a h N = ta a h fun o h1 => tb a h1 fun i h2 => setR o i v h2 fun h3 => N a h3 := rfl
theorem x_par : parT i j tl D a h = tl a h fun xs h1 => match xs with
    | [v, w] => D.nx (sv (sv a i (some v)) j (some w)) h1
    | _ => False := rfl
theorem x_aug : augT i te r D a h = match gv a i with
    | some x => te a h fun y h1 => r x y h1 fun z h2 => D.nx (sv a i (some z)) h2
    | none => False := rfl
theorem x_augS : augST ta tb te r D a h = ta a h fun o h1 => tb a h1 fun i h2 => ixR o i h2 fun x h3 => te a h3 fun y h4 => r x y h4 fun z h5 => setR o i z h5 fun h6 => D.nx a h6 := rfl
theorem x_gv0 {x : Option AV} {s : ASt} : gv (x :: s) 0 = x := rfl
theorem x_gvS {x : Option AV} {s : ASt} : gv (x :: s) (i + 1) = gv s i := rfl
theorem x_sv0 {x y : Option AV} {s : ASt} : sv (x :: s) 0 y = y :: s := rfl
theorem x_svS {x y : Option AV} {s : ASt} : sv (x :: s) (i + 1) y = x :: sv s i y := rfl
theorem x_rt {R : AK} : (ends R).rt = R := rfl
theorem x_nx {R : AK} : (ends R).nx a h = R .non h := rfl
theorem x_yes : yesT a h B = B true h := rfl
theorem x_for {it : ATI} : forT it g t D a h = it a h fun items guard h1 => ∃ I : Nat → ASt → AH → Prop, I 0 a h1 ∧
  (∀ i x a h, items[i]? = some x → I i a h → guard h ∧ g x a h fun a2 h2 => t { D with nx := I (i + 1), ct := I (i + 1), bk := D.nx } a2 h2) ∧
  ∀ a h, I items.length a h → guard h ∧ D.nx a h := rfl
theorem x_iseq_tup {R : List AV → (AH → Prop) → AH → Prop} {xs : List AV} (he : ∀ Q : AK, te a h Q = Q (.tup xs) h) : iSeqT te a h R = R xs (fun _ => True) h := by
  unfold iSeqT
  rw [he]
end
end
end AL

/-! CS: contracts of the defs that many laws share: ratios, draws. -/
namespace AL
open PySem
/-- a ratio as a value -/
def rat (q : Rat) : AV := .tup [.int q.num, .int (q.den : Int)]
/-- the size of a number, of a ratio, in bits -/
def isz (i : Int) : Nat := i.natAbs.log2 + 1
def sz (q : Rat) : Nat := max (isz q.num) (isz (q.den : Int))
/-! ### ratios.py -/
def sp_ratio : ASp := A2 fun x y h R _ => ∃ n d : Int, x = .int n ∧ y = .int d ∧ d ≠ 0 ∧ isz d ≤ 9000 ∧ R (rat (Rat.divInt n d)) h
/-- two ratios in, a value out -/
def rat2 (f : Rat → Rat → AV) : ASp := A2 fun x y h R _ => ∃ a b : Rat, x = rat a ∧ y = rat b ∧ sz a + sz b ≤ 8990 ∧ R (f a b) h
def sp_plus : ASp := rat2 fun a b => rat (a + b)
def sp_minus : ASp := rat2 fun a b => rat (a - b)
def sp_times : ASp := rat2 fun a b => rat (a * b)
def sp_over : ASp := A2 fun x y h R _ => ∃ a b : Rat, x = rat a ∧ y = rat b ∧ b ≠ 0 ∧ sz a + sz b ≤ 8990 ∧ R (rat (a / b)) h
def sp_between : ASp := rat2 fun a b => rat ((a + b) / 2)
def sp_less : ASp := rat2 fun a b => .bl (decide (a < b))
def sp_at_most : ASp := rat2 fun a b => .bl (decide (a ≤ b))
def rat1 (f : Rat → AV) : ASp := A1 fun x h R _ => ∃ a : Rat, x = rat a ∧ sz a ≤ 8990 ∧ R (f a) h
def sp_opposite : ASp := rat1 fun a => rat (-a)
def sp_sign_of : ASp := rat1 fun a => .int (if a.num < 0 then -1 else if a.num > 0 then 1 else 0)
def sp_floor_of : ASp := rat1 fun a => .int (a.num / (a.den : Int))
def sp_ceiling_of : ASp := rat1 fun a => .int (-((-a.num) / (a.den : Int)))
/-- a value that is an int, no bool -/
def isI : AV → Bool
  | .int _ => true
  | _ => false
/-- values of the kinds that are looked at: no type, and lists by number that are there -/
def seen (h : AH) : AV → Prop
  | .ref n => n < h.length
  | .ty _ => False
  | _ => True
def sp_whole_number : ASp := A1 fun x h R _ => seen h x ∧ R (.bl (isI x)) h
/-! ### the laws' draws -/
/-- the drawing list at n: the script's ints, the place, the rest, the seed, three -/
def DrawAt (h : AH) (n : Nat) : Prop := ∃ (k : Nat) (ns : List Int) (at_ : Nat) (rest seed : Int), h[n]? = some (.lst [.ref k, .int (at_ : Int), .int rest, .int seed, .int 3]) ∧ h[k]? = some (.lst (ns.map AV.int)) ∧ k < n
/-- nothing but the drawing list has changed -/
def Drawn (h : AH) (n : Nat) (h' : AH) : Prop := h'.length = h.length ∧ (∀ i, i ≠ n → h'[i]? = h[i]?) ∧ DrawAt h' n
def sp_law_begin : ASp := A1 fun x h R _ => ∃ ns : List Int, x = .rol (ns.map AV.int) ∧ ns.length ≤ 63 ∧ R (.ref (h.length + 1)) (h ++ [.lst (ns.map AV.int), .lst [.ref h.length, .int 0, .int 0, .int 7, .int 3]])
def sp_law_draw : ASp := A2 fun x y h R _ => ∃ (n : Nat) (many : Int), x = .ref n ∧ y = .int many ∧ 0 < many ∧ isz many ≤ 9000 ∧ DrawAt h n ∧ ∀ r h', 0 ≤ r → r < many → Drawn h n h' → R (.int r) h'
/-- the items of a list or tuple, the drawing list apart -/
def sp_law_pick : ASp := A2 fun x y h R _ => ∃ (n : Nat) (xs : List AV), x = .ref n ∧ seqOf y h = some xs ∧ xs ≠ [] ∧ xs.length ≤ 1000000 ∧ y ≠ .ref n ∧ DrawAt h n ∧ ∀ v h', v ∈ xs → Drawn h n h' → R v h'
def sp_law_rare : ASp := A2 fun x y h R _ => ∃ (n : Nat) (many : Int), x = .ref n ∧ y = .int many ∧ 0 < many ∧ isz many ≤ 9000 ∧ DrawAt h n ∧ ∀ r h', Drawn h n h' → R (.bl r) h'
def sp_law_gcd : ASp := A2 fun x y h R _ => ∃ a b : Int, x = .int a ∧ y = .int b ∧ isz a ≤ 20000 ∧ isz b ≤ 20000 ∧ R (.int ((a.natAbs.gcd b.natAbs : Nat) : Int)) h
def sp_law_r : ASp := A2 fun x y h R _ => ∃ n d : Int, x = .int n ∧ y = .int d ∧ d ≠ 0 ∧ isz n ≤ 20000 ∧ isz d ≤ 9000 ∧ R (rat (Rat.divInt n d)) h
def sp_law_add : ASp := rat2 fun a b => rat (a + b)
def sp_law_sub : ASp := rat2 fun a b => rat (a - b)
def sp_law_mul : ASp := rat2 fun a b => rat (a * b)
def sp_law_lt : ASp := rat2 fun a b => .bl (decide (a < b))
def sp_law_div : ASp := A2 fun x y h R _ => ∃ a b : Rat, x = rat a ∧ y = rat b ∧ b ≠ 0 ∧ sz a + sz b ≤ 8990 ∧ R (rat (a / b)) h
def sp_law_is_int : ASp := A1 fun x h R _ => seen h x ∧ R (.bl (isI x)) h
/-- a right ratio -/
def isR : AV → Bool
  | .tup [.int n, .int d] => decide (1 ≤ d) && decide (n.natAbs.gcd d.natAbs = 1)
  | _ => false
def isRsp : ASp := A1 fun x h R _ => seen h x ∧ (∀ xs, x = .tup xs → ∀ y ∈ xs, seen h y) ∧ (∀ n d, x = .tup [.int n, .int d] → isz n ≤ 20000 ∧ isz d ≤ 20000) ∧ R (.bl (isR x)) h
def sp_is_ratio : ASp := isRsp
def sp_law_is_r : ASp := isRsp
/-- what every law's def is to keep -/
def sp_law : ASp := A1 fun x h R _ => ∃ ns : List Int, x = .rol (ns.map AV.int) ∧ ns.length ≤ 63 ∧ ∀ h', R (.bl true) h'
/-- plain data of bounded depth, no list in it -/
def dat : Nat → AV → Bool
  | 0, _ => false
  | n + 1, .tup xs => decide (xs.length ≤ 1000000) && xs.all (dat n)
  | _ + 1, .non => true
  | _ + 1, .bl _ => true
  | _ + 1, .int _ => true
  | _ + 1, .str x => x.cps.all (· < 0x110000)
  | _ + 1, _ => false
def sp_law_same (dep : Nat) : ASp := A2 fun x y h R _ => x = y ∧ dat dep x = true ∧ R (.bl true) h
theorem sp_law_same_zero {xs : List AV} {h : AH} {R E : AK} (q : sp_law_same 0 xs h R E) : False := match xs, q with
  | [_, _], ⟨_, q, _⟩ => Bool.noConfusion q
end AL

/-! CB: the plain bodies of the shared defs (printed by gen.py). -/
namespace AL
open PySem
def b_ratio_r1 : ATS := (seqT (ifS (cmpT (opT eqR (varT 1) (cT (.int 1))))
    (retT (tupT (consT (varT 0) (consT (cT (.int 1)) nilT))))
    nextT)
    (seqT (asgT (cbT gcdR (consT (varT 0) (consT (varT 1) nilT))) (gNameT 2))
    (seqT (ifS (cmpT (opT eqR (varT 2) (cT (.int 1))))
    (retT (tupT (consT (varT 0) (consT (varT 1) nilT))))
    nextT)
    (retT (tupT (consT (opT fdivR (varT 0) (varT 2)) (consT (opT fdivR (varT 1) (varT 2)) nilT)))))))
def b_ratio : ATS := (seqT (ifS (cmpT (opT ltR (varT 1) (cT (.int 0))))
    (seqT (asgT (unT negR (varT 0)) (gNameT 0))
    (asgT (unT negR (varT 1)) (gNameT 1)))
    nextT)
    b_ratio_r1)
def b_whole_number : ATS := (retT (andV (cbT instR (consT (varT 0) (consT (cT (.ty "int")) nilT))) (notV (cbT instR (consT (varT 0) (consT (cT (.ty "bool")) nilT))))))
def b_is_ratio : ATS := (seqT (ifS (orT (notT (truT (cbT instR (consT (varT 0) (consT (cT (.ty "tuple")) nilT))))) (cmpT (opT neR (cbT lenR (consT (varT 0) nilT)) (cT (.int 2)))))
    (retT (cT (.bl false)))
    nextT)
    (seqT (asgT (varT 0) (gTupT 2 (gConsT (gNameT 1) (gConsT (gNameT 2) gNilT))))
    (seqT (ifS (orT (notT (truT (callT sp_whole_number (fun _ _ => False) (consT (varT 1) nilT)))) (notT (truT (callT sp_whole_number (fun _ _ => False) (consT (varT 2) nilT)))))
    (retT (cT (.bl false)))
    nextT)
    (retT (andV (opT geR (varT 2) (cT (.int 1))) (opT eqR (cbT gcdR (consT (varT 1) (consT (varT 2) nilT))) (cT (.int 1))))))))
def b_plus : ATS := (seqT (ifS (andT (cmpT (opT eqR (opT ixR (varT 0) (cT (.int 1))) (cT (.int 1)))) (cmpT (opT eqR (opT ixR (varT 1) (cT (.int 1))) (cT (.int 1)))))
    (retT (tupT (consT (opT addR (opT ixR (varT 0) (cT (.int 0))) (opT ixR (varT 1) (cT (.int 0)))) (consT (cT (.int 1)) nilT))))
    nextT)
    (retT (callT sp_ratio (fun _ _ => False) (consT (opT addR (opT mulR (opT ixR (varT 0) (cT (.int 0))) (opT ixR (varT 1) (cT (.int 1)))) (opT mulR (opT ixR (varT 1) (cT (.int 0))) (opT ixR (varT 0) (cT (.int 1))))) (consT (opT mulR (opT ixR (varT 0) (cT (.int 1))) (opT ixR (varT 1) (cT (.int 1)))) nilT)))))
def b_minus : ATS := (seqT (ifS (andT (cmpT (opT eqR (opT ixR (varT 0) (cT (.int 1))) (cT (.int 1)))) (cmpT (opT eqR (opT ixR (varT 1) (cT (.int 1))) (cT (.int 1)))))
    (retT (tupT (consT (opT subR (opT ixR (varT 0) (cT (.int 0))) (opT ixR (varT 1) (cT (.int 0)))) (consT (cT (.int 1)) nilT))))
    nextT)
    (retT (callT sp_ratio (fun _ _ => False) (consT (opT subR (opT mulR (opT ixR (varT 0) (cT (.int 0))) (opT ixR (varT 1) (cT (.int 1)))) (opT mulR (opT ixR (varT 1) (cT (.int 0))) (opT ixR (varT 0) (cT (.int 1))))) (consT (opT mulR (opT ixR (varT 0) (cT (.int 1))) (opT ixR (varT 1) (cT (.int 1)))) nilT)))))
def b_times : ATS := (seqT (ifS (andT (cmpT (opT eqR (opT ixR (varT 0) (cT (.int 1))) (cT (.int 1)))) (cmpT (opT eqR (opT ixR (varT 1) (cT (.int 1))) (cT (.int 1)))))
    (retT (tupT (consT (opT mulR (opT ixR (varT 0) (cT (.int 0))) (opT ixR (varT 1) (cT (.int 0)))) (consT (cT (.int 1)) nilT))))
    nextT)
    (retT (callT sp_ratio (fun _ _ => False) (consT (opT mulR (opT ixR (varT 0) (cT (.int 0))) (opT ixR (varT 1) (cT (.int 0)))) (consT (opT mulR (opT ixR (varT 0) (cT (.int 1))) (opT ixR (varT 1) (cT (.int 1)))) nilT)))))
def b_over : ATS := (retT (callT sp_ratio (fun _ _ => False) (consT (opT mulR (opT ixR (varT 0) (cT (.int 0))) (opT ixR (varT 1) (cT (.int 1)))) (consT (opT mulR (opT ixR (varT 0) (cT (.int 1))) (opT ixR (varT 1) (cT (.int 0)))) nilT))))
def b_opposite : ATS := (retT (tupT (consT (unT negR (opT ixR (varT 0) (cT (.int 0)))) (consT (opT ixR (varT 0) (cT (.int 1))) nilT))))
def b_less : ATS := (retT (opT ltR (opT mulR (opT ixR (varT 0) (cT (.int 0))) (opT ixR (varT 1) (cT (.int 1)))) (opT mulR (opT ixR (varT 1) (cT (.int 0))) (opT ixR (varT 0) (cT (.int 1))))))
def b_at_most : ATS := (retT (opT leR (opT mulR (opT ixR (varT 0) (cT (.int 0))) (opT ixR (varT 1) (cT (.int 1)))) (opT mulR (opT ixR (varT 1) (cT (.int 0))) (opT ixR (varT 0) (cT (.int 1))))))
def b_sign_of : ATS := (seqT (ifS (cmpT (opT ltR (opT ixR (varT 0) (cT (.int 0))) (cT (.int 0))))
    (retT (unT negR (cT (.int 1))))
    nextT)
    (seqT (ifS (cmpT (opT gtR (opT ixR (varT 0) (cT (.int 0))) (cT (.int 0))))
    (retT (cT (.int 1)))
    nextT)
    (retT (cT (.int 0)))))
def b_floor_of : ATS := (retT (opT fdivR (opT ixR (varT 0) (cT (.int 0))) (opT ixR (varT 0) (cT (.int 1)))))
def b_ceiling_of : ATS := (retT (unT negR (opT fdivR (unT negR (opT ixR (varT 0) (cT (.int 0)))) (opT ixR (varT 0) (cT (.int 1))))))
def b_between : ATS := (retT (callT sp_ratio (fun _ _ => False) (consT (opT addR (opT mulR (opT ixR (varT 0) (cT (.int 0))) (opT ixR (varT 1) (cT (.int 1)))) (opT mulR (opT ixR (varT 1) (cT (.int 0))) (opT ixR (varT 0) (cT (.int 1))))) (consT (opT mulR (opT mulR (cT (.int 2)) (opT ixR (varT 0) (cT (.int 1)))) (opT ixR (varT 1) (cT (.int 1)))) nilT))))
def b_law_begin : ATS := (retT (lstT (consT (lcT (iSeqT (varT 0)) (gNameT 1) yesT (cbT intR (consT (varT 1) nilT)) [1]) (consT (cT (.int 0)) (consT (cT (.int 0)) (consT (cT (.int 7)) (consT (cT (.int 3)) nilT)))))))
def b_law_draw_r1 : ATS := (seqT (augST (varT 0) (cT (.int 1)) (cT (.int 1)) iaddR)
    (seqT (ifS (cmpT (opT geR (varT 3) (opT mulR (cT (.int 2)) (opT powR (cT (.int 10)) (cT (.int 18))))))
    (seqT (asgT (opT modR (cbT intR (consT (opT fdivR (varT 3) (cT (.int 2))) nilT)) (opT shlR (cT (.int 1)) (cT (.int 6000)))) (gNameT 2))
    (seqT (asgT (opT fdivR (varT 2) (varT 1)) (gSubT (varT 0) (cT (.int 2))))
    (retT (opT modR (cbT intR (consT (varT 2) nilT)) (varT 1)))))
    nextT)
    (seqT (asgT (opT modR (cbT intR (consT (opT addR (opT addR (opT addR (opT mulR (opT ixR (varT 0) (cT (.int 3))) (cT (.int 48271))) (opT mulR (opT modR (cbT intR (consT (varT 3) nilT)) (cT (.int 2147483629))) (cT (.int 16807)))) (opT mulR (opT ixR (varT 0) (cT (.int 1))) (cT (.int 69621)))) (cT (.int 11))) nilT)) (cT (.int 2147483647))) (gSubT (varT 0) (cT (.int 3))))
    (retT (opT modR (cbT intR (consT (opT fdivR (opT ixR (varT 0) (cT (.int 3))) (cT (.int 16))) nilT)) (varT 1))))))
def b_law_draw : ATS := (seqT (ifS (cmpT (opT gtR (opT ixR (varT 0) (cT (.int 2))) (cT (.int 0))))
    (seqT (asgT (opT ixR (varT 0) (cT (.int 2))) (gNameT 2))
    (seqT (asgT (opT fdivR (varT 2) (varT 1)) (gSubT (varT 0) (cT (.int 2))))
    (retT (opT modR (cbT intR (consT (varT 2) nilT)) (varT 1)))))
    nextT)
    (seqT (asgT (cT (.int 0)) (gNameT 3))
    (seqT (ifS (cmpT (opT ltR (opT ixR (varT 0) (cT (.int 1))) (cbT lenR (consT (opT ixR (varT 0) (cT (.int 0))) nilT))))
    (seqT (asgT (opT ixR (opT ixR (varT 0) (cT (.int 0))) (opT ixR (varT 0) (cT (.int 1)))) (gNameT 4))
    (asgT (opT addR (opT mulR (cT (.int 2)) (cbT absR (consT (varT 4) nilT))) (cbT intR (consT (opT ltR (varT 4) (cT (.int 0))) nilT))) (gNameT 3)))
    nextT)
    b_law_draw_r1)))
def b_law_pick : ATS := (retT (opT ixR (varT 1) (callT sp_law_draw (fun _ _ => False) (consT (varT 0) (consT (cbT lenR (consT (varT 1) nilT)) nilT)))))
def b_law_rare : ATS := (retT (opT eqR (callT sp_law_draw (fun _ _ => False) (consT (varT 0) (consT (varT 1) nilT))) (opT fdivR (varT 1) (cT (.int 2)))))
def b_law_gcd_l1 : ATS := (seqT (ifS (cmpT (opT eqR (varT 1) (cT (.int 0))))
    brkT
    nextT)
    (parT 0 1 (consT (varT 1) (consT (opT modR (cbT intR (consT (varT 0) nilT)) (varT 1)) nilT))))
def b_law_gcd : ATS := (seqT (asgT (cbT absR (consT (varT 0) nilT)) (gNameT 0))
    (seqT (asgT (cbT absR (consT (varT 1) nilT)) (gNameT 1))
    (seqT (forT (iRng1T (consT (cT (.int 100000)) nilT)) (gNameT 2)
    b_law_gcd_l1)
    (retT (varT 0)))))
def b_law_r_r1 : ATS := (seqT (asgT (callT sp_law_gcd (fun _ _ => False) (consT (varT 0) (consT (varT 1) nilT))) (gNameT 2))
    (retT (tupT (consT (opT fdivR (varT 0) (varT 2)) (consT (opT fdivR (varT 1) (varT 2)) nilT)))))
def b_law_r : ATS := (seqT (ifS (cmpT (opT ltR (varT 1) (cT (.int 0))))
    (seqT (asgT (unT negR (varT 0)) (gNameT 0))
    (asgT (unT negR (varT 1)) (gNameT 1)))
    nextT)
    b_law_r_r1)
def b_law_add : ATS := (retT (callT sp_law_r (fun _ _ => False) (consT (opT addR (opT mulR (opT ixR (varT 0) (cT (.int 0))) (opT ixR (varT 1) (cT (.int 1)))) (opT mulR (opT ixR (varT 1) (cT (.int 0))) (opT ixR (varT 0) (cT (.int 1))))) (consT (opT mulR (opT ixR (varT 0) (cT (.int 1))) (opT ixR (varT 1) (cT (.int 1)))) nilT))))
def b_law_sub : ATS := (retT (callT sp_law_r (fun _ _ => False) (consT (opT subR (opT mulR (opT ixR (varT 0) (cT (.int 0))) (opT ixR (varT 1) (cT (.int 1)))) (opT mulR (opT ixR (varT 1) (cT (.int 0))) (opT ixR (varT 0) (cT (.int 1))))) (consT (opT mulR (opT ixR (varT 0) (cT (.int 1))) (opT ixR (varT 1) (cT (.int 1)))) nilT))))
def b_law_mul : ATS := (retT (callT sp_law_r (fun _ _ => False) (consT (opT mulR (opT ixR (varT 0) (cT (.int 0))) (opT ixR (varT 1) (cT (.int 0)))) (consT (opT mulR (opT ixR (varT 0) (cT (.int 1))) (opT ixR (varT 1) (cT (.int 1)))) nilT))))
def b_law_div : ATS := (retT (callT sp_law_r (fun _ _ => False) (consT (opT mulR (opT ixR (varT 0) (cT (.int 0))) (opT ixR (varT 1) (cT (.int 1)))) (consT (opT mulR (opT ixR (varT 0) (cT (.int 1))) (opT ixR (varT 1) (cT (.int 0)))) nilT))))
def b_law_is_int : ATS := (retT (andV (cbT instR (consT (varT 0) (consT (cT (.ty "int")) nilT))) (notV (cbT instR (consT (varT 0) (consT (cT (.ty "bool")) nilT))))))
def b_law_is_r : ATS := (seqT (ifS (orT (notT (truT (cbT instR (consT (varT 0) (consT (cT (.ty "tuple")) nilT))))) (cmpT (opT neR (cbT lenR (consT (varT 0) nilT)) (cT (.int 2)))))
    (retT (cT (.bl false)))
    nextT)
    (seqT (ifS (orT (notT (truT (callT sp_law_is_int (fun _ _ => False) (consT (opT ixR (varT 0) (cT (.int 0))) nilT)))) (orT (notT (truT (callT sp_law_is_int (fun _ _ => False) (consT (opT ixR (varT 0) (cT (.int 1))) nilT)))) (cmpT (opT ltR (opT ixR (varT 0) (cT (.int 1))) (cT (.int 1))))))
    (retT (cT (.bl false)))
    nextT)
    (retT (opT eqR (callT sp_law_gcd (fun _ _ => False) (consT (opT ixR (varT 0) (cT (.int 0))) (consT (opT ixR (varT 0) (cT (.int 1))) nilT))) (cT (.int 1))))))
end AL

/-! RM: ratios and their sizes. -/
namespace AL
open PySem
theorem isz_pos (i : Int) : 1 ≤ isz i := Nat.le_add_left _ _
theorem isz_lt {i : Int} {n : Nat} (h : isz i ≤ n) : i.natAbs < 2 ^ n := Nat.lt_of_lt_of_le Nat.lt_log2_self (Nat.pow_le_pow_right (by decide) h)
theorem isz_le {i : Int} {n : Nat} (hn : 1 ≤ n) (h : i.natAbs < 2 ^ n) : isz i ≤ n := by
  unfold isz
  by_cases h0 : i.natAbs = 0
  · rw [h0]
    exact hn
  · have := (Nat.log2_lt h0).mpr h
    omega
theorem isz_mono {i j : Int} (h : i.natAbs ≤ j.natAbs) : isz i ≤ isz j := isz_le (isz_pos j) (Nat.lt_of_le_of_lt h (isz_lt (Nat.le_refl _)))
theorem isz_neg (i : Int) : isz (-i) = isz i := by
  unfold isz
  rw [Int.natAbs_neg]
theorem isz_mul (i j : Int) : isz (i * j) ≤ isz i + isz j := by
  refine isz_le (by have := isz_pos i; omega) ?_
  rw [Int.natAbs_mul, Nat.pow_add]
  exact Nat.mul_lt_mul'' (isz_lt (Nat.le_refl _)) (isz_lt (Nat.le_refl _))
theorem isz_add {i j : Int} {n : Nat} (hi : isz i ≤ n) (hj : isz j ≤ n) : isz (i + j) ≤ n + 1 := by
  refine isz_le (by omega) ?_
  have h1 := isz_lt hi
  have h2 := isz_lt hj
  rw [Nat.pow_succ]
  omega
theorem isz_sub {i j : Int} {n : Nat} (hi : isz i ≤ n) (hj : isz j ≤ n) : isz (i - j) ≤ n + 1 := by
  rw [Int.sub_eq_add_neg]
  exact isz_add hi (by rw [isz_neg]; exact hj)
theorem natAbs_div_le (i : Int) (d : Nat) : (i / (d : Int)).natAbs ≤ i.natAbs := by
  rcases Nat.eq_zero_or_pos d with h | h
  · subst h
    simp
  · have h1 : (1 : Int) ≤ d := by omega
    have e := Int.mul_ediv_add_emod i d
    have r0 := Int.emod_nonneg i (show (d : Int) ≠ 0 by omega)
    have r1 := Int.emod_lt_of_pos i (show (0 : Int) < d by omega)
    by_cases hi : 0 ≤ i
    · have q0 := Int.ediv_nonneg hi (show (0 : Int) ≤ d by omega)
      have := Int.ediv_le_self (d : Int) hi
      omega
    · have q0 : i / (d : Int) < 0 := Int.ediv_neg_of_neg_of_pos (by omega) (by omega)
      have q1 : i ≤ i / (d : Int) := by
        rw [Int.le_ediv_iff_mul_le (by omega)]
        have : i * (d : Int) ≤ i * 1 := Int.mul_le_mul_of_nonpos_left (by omega) h1
        omega
      omega
theorem isz_div (i : Int) (d : Nat) : isz (i / (d : Int)) ≤ isz i := isz_mono (natAbs_div_le i d)
theorem sz_num (q : Rat) : isz q.num ≤ sz q := Nat.le_max_left _ _
theorem sz_den (q : Rat) : isz (q.den : Int) ≤ sz q := Nat.le_max_right _ _
theorem sz_pos (q : Rat) : 1 ≤ sz q := Nat.le_trans (isz_pos _) (sz_num q)
theorem den_pos (q : Rat) : (0 : Int) < q.den := by
  have := q.den_nz
  omega
theorem divInt_parts {n d : Int} (h : 0 < d) : (Rat.divInt n d).num = n / ((n.natAbs.gcd d.natAbs : Nat) : Int) ∧ ((Rat.divInt n d).den : Int) = d / ((n.natAbs.gcd d.natAbs : Nat) : Int) := by
  have g : (Int.gcd d n) = n.natAbs.gcd d.natAbs := by
    rw [Int.gcd_comm]
    rfl
  rw [Rat.num_divInt, Rat.den_divInt, g, Int.sign_eq_one_of_pos h, Int.one_mul, if_neg (by omega)]
  refine ⟨rfl, ?_⟩
  rw [Int.natCast_ediv]
  congr 1
  omega
theorem rat_divInt {n d : Int} (h : 0 < d) : rat (Rat.divInt n d) = .tup [.int (n / ((n.natAbs.gcd d.natAbs : Nat) : Int)), .int (d / ((n.natAbs.gcd d.natAbs : Nat) : Int))] := by
  obtain ⟨h1, h2⟩ := divInt_parts (n := n) h
  unfold rat
  rw [h1, h2]
theorem sz_divInt {n d : Int} (h : d ≠ 0) : sz (Rat.divInt n d) ≤ max (isz n) (isz d) := by
  have pos : ∀ {n d : Int}, 0 < d → sz (Rat.divInt n d) ≤ max (isz n) (isz d) := fun {n d} h => by
    obtain ⟨h1, h2⟩ := divInt_parts (n := n) h
    unfold sz
    rw [h1, h2]
    have a := isz_div n (n.natAbs.gcd d.natAbs)
    have b := isz_div d (n.natAbs.gcd d.natAbs)
    omega
  by_cases hd : 0 < d
  · exact pos hd
  · have := pos (n := -n) (d := -d) (by omega)
    rw [Rat.neg_divInt_neg, isz_neg, isz_neg] at this
    exact this
theorem add_eq (a b : Rat) : Rat.divInt (a.num * b.den + b.num * a.den) (a.den * b.den) = a + b := by
  have h := Rat.divInt_add_divInt a.num b.num (d₁ := a.den) (d₂ := b.den) (by have := den_pos a; omega) (by have := den_pos b; omega)
  rw [Rat.num_divInt_den, Rat.num_divInt_den] at h
  exact h.symm
theorem sub_eq (a b : Rat) : Rat.divInt (a.num * b.den - b.num * a.den) (a.den * b.den) = a - b := by
  have h := add_eq a (-b)
  rw [Rat.neg_num, Rat.neg_den, Int.neg_mul, ← Int.sub_eq_add_neg, ← Rat.sub_eq_add_neg] at h
  exact h
theorem mul_eq (a b : Rat) : Rat.divInt (a.num * b.num) (a.den * b.den) = a * b := by
  have h := Rat.divInt_mul_divInt a.num b.num (d₁ := a.den) (d₂ := b.den)
  rw [Rat.num_divInt_den, Rat.num_divInt_den] at h
  exact h.symm
theorem div_eq (a b : Rat) : Rat.divInt (a.num * b.den) (a.den * b.num) = a / b := by
  have h := Rat.divInt_mul_divInt a.num b.den (d₁ := a.den) (d₂ := b.num)
  rw [Rat.num_divInt_den] at h
  rw [Rat.div_def, ← h]
  congr 1
  rw [Rat.divInt_eq_div]
  have e : b = (b.num : Rat) / ((b.den : Int) : Rat) := by
    rw [← Rat.divInt_eq_div, Rat.num_divInt_den]
  conv => rhs; rw [e]
  rw [Rat.div_def, Rat.div_def, Rat.inv_mul_rev, Rat.inv_inv]
theorem sz_add (a b : Rat) : sz (a + b) ≤ sz a + sz b + 1 := by
  rw [← add_eq]
  have hd : (a.den : Int) * b.den ≠ 0 := by
    have := Int.mul_pos (den_pos a) (den_pos b)
    omega
  refine Nat.le_trans (sz_divInt hd) ?_
  have h1 := isz_mul a.num b.den
  have h2 := isz_mul b.num a.den
  have h3 := isz_mul a.den b.den
  have n1 := sz_num a
  have n2 := sz_num b
  have d1 := sz_den a
  have d2 := sz_den b
  have h4 := isz_add (i := a.num * b.den) (j := b.num * a.den) (n := sz a + sz b) (by omega) (by omega)
  omega
theorem sz_neg (a : Rat) : sz (-a) = sz a := by
  unfold sz
  rw [Rat.neg_num, Rat.neg_den, isz_neg]
theorem sz_sub (a b : Rat) : sz (a - b) ≤ sz a + sz b + 1 := by
  rw [Rat.sub_eq_add_neg]
  have := sz_add a (-b)
  rw [sz_neg] at this
  exact this
theorem sz_mul (a b : Rat) : sz (a * b) ≤ sz a + sz b := by
  rw [← mul_eq]
  have hd : (a.den : Int) * b.den ≠ 0 := by
    have := Int.mul_pos (den_pos a) (den_pos b)
    omega
  refine Nat.le_trans (sz_divInt hd) ?_
  have h1 := isz_mul a.num b.num
  have h3 := isz_mul a.den b.den
  have n1 := sz_num a
  have n2 := sz_num b
  have d1 := sz_den a
  have d2 := sz_den b
  omega
theorem num_ne {b : Rat} (h : b ≠ 0) : b.num ≠ 0 := fun z => h (Rat.num_eq_zero.mp z)
theorem sz_div (a b : Rat) (hb : b ≠ 0) : sz (a / b) ≤ sz a + sz b := by
  rw [← div_eq]
  have hd : (a.den : Int) * b.num ≠ 0 := Int.mul_ne_zero (by have := den_pos a; omega) (num_ne hb)
  refine Nat.le_trans (sz_divInt hd) ?_
  have h1 := isz_mul a.num b.den
  have h3 := isz_mul a.den b.num
  have n1 := sz_num a
  have n2 := sz_num b
  have d1 := sz_den a
  have d2 := sz_den b
  omega
theorem mulOk_of {i j : Int} {n : Nat} (h : isz i + isz j ≤ n) (hn : n ≤ 100000) : mulOk i j := by
  right
  unfold isz at h
  omega
theorem divOk_of {d : Int} (h0 : 0 < d) (h : isz d ≤ 9000) : divOk d := ⟨h0, by unfold isz at h; omega⟩
/-- a ratio of a whole number -/
theorem rat_int (n : Int) : rat (n : Rat) = .tup [.int n, .int 1] := rfl
theorem rat_whole {q : Rat} (h : (q.den : Int) = 1) : q = (q.num : Rat) := by
  have h2 : q.den = 1 := by omega
  exact Rat.ext rfl h2
theorem rat_inj {a b : Rat} (h : rat a = rat b) : a = b := by
  unfold rat at h
  simp only [AV.tup.injEq, List.cons.injEq, AV.int.injEq, and_true] at h
  exact Rat.ext h.1 (by omega)
theorem aeq_rat (a b : Rat) : aeq (rat a) (rat b) = decide (a = b) := by
  unfold rat
  simp only [aeq, aeqs, Bool.and_true]
  by_cases h : a = b
  · subst h
    simp
  · rw [decide_eq_false h]
    by_cases h1 : a.num = b.num
    · have h2 : ¬ ((a.den : Int) = (b.den : Int)) := fun z => h (Rat.ext h1 (by omega))
      simp [h1, h2]
    · simp [h1]
theorem plain_rat (n : Nat) (a : Rat) : plainN (n + 1) (rat a) = true := by
  cases n <;> rfl
end AL

/-! CP: that the shared defs' bodies keep their contracts. -/
namespace AL
open PySem
local macro_rules | `(tactic| get_elem_tactic_trivial) => `(tactic| simp only [e_tru_non, e_tru_bl, e_tru_int, e_tru_tup, e_tru_rol, e_bl_bl, e_add_int, e_add_ib, e_add_str, e_add_tup, e_sub_int, e_mul_int, e_fdiv_int, e_mod_int, e_pow_int, e_shl_int, e_neg_int, e_iadd_int, e_iadd_str, e_isub_int, e_aeq_int, e_aeq_str, e_aeq_bl, e_aeq_non, e_aeq_tup, e_aeqs_nil, e_aeqs_cons, e_aeqs_nc, e_aeqs_cn, e_plain_int, e_plain_bl, e_plain_non, e_plain_str, e_plain_tup, e_eq, e_ne, e_lt_int, e_lt_str, e_le_int, e_gt_int, e_ge_int, e_isN, e_notN, e_isNon_int, e_isNon_str, e_isNon_tup, e_isNon_non, e_isNon_ref, e_isNon_bl, e_ix0, e_ix1, e_ix2, e_ix3, e_ix4, e_len_tup, e_len_rol, e_len_str, e_abs, e_int_int, e_int_bl, e_str_int, e_gcd, e_tuple_tup, e_list_tup, e_inst_ii, e_inst_ib, e_inst_tt, e_inst_it, e_inst_ti, e_inst_tb, e_inst_bb, e_inst_bi, e_inst_bt, e_inst_ss, e_inst_st, e_inst_si, e_inst_nt, e_gTup, e_gCons, e_gNil, e_gNms0, e_gNms1, e_gName, atA_0, atA_1, atA_2, atA_3, atA_4, get_l0, get_l1, get_l2, get_l3, set_l0, set_l1, set_l2, app_l, len_l0, len_l1, len_l2, x_c, x_var, x_op, x_un, x_nil, x_cons, x_tup, x_lst, x_call, x_cb, x_mt, x_tru, x_cmp, x_and, x_or, x_not, x_andV, x_orV, x_notV, x_if, x_chain, x_next, x_seq, x_brk, x_cont, x_drop, x_ret, x_retN, x_ifS, x_asg, x_gSub, x_par, x_aug, x_augS, x_rt, x_nx, x_yes, gv, sv, wipeA, lenLe, true_and, and_true, if_true, if_false, ite_true, ite_false, beq_iff_eq, decide_eq_true_eq, Bool.false_eq_true, not_false_eq_true, Bool.not_eq_true', decide_eq_false_iff_not, Bool.not_true, Bool.not_false, List.isEmpty_cons, List.isEmpty_nil, List.cons_append, List.nil_append, List.length_cons, List.length_nil])
theorem retG_of {h0 h : AH} {R : AK} {x : AV} (q : R x h) : retG h0 R x h := .inl q
theorem gcd_bound {n d : Int} (hd : d ≠ 0) (hs : isz d ≤ 9000) : divOk ((n.natAbs.gcd d.natAbs : Nat) : Int) := by
  have hp : 0 < n.natAbs.gcd d.natAbs := Nat.gcd_pos_of_pos_right _ (by omega)
  refine divOk_of (by omega) (Nat.le_trans (isz_mono ?_) hs)
  rw [Int.natAbs_natCast]
  exact Nat.gcd_le_right _ (by omega)
theorem ratio_pos {n d : Int} {P : AV → Prop} (hd : 0 < d) (hs : isz d ≤ 9000) (q : P (rat (Rat.divInt n d))) :
    if d = 1 then P (.tup [.int n, .int 1]) else
      if ((n.natAbs.gcd d.natAbs : Nat) : Int) = 1 then P (.tup [.int n, .int d]) else
        divOk ((n.natAbs.gcd d.natAbs : Nat) : Int) ∧ divOk ((n.natAbs.gcd d.natAbs : Nat) : Int) ∧ P (.tup [.int (n / ((n.natAbs.gcd d.natAbs : Nat) : Int)), .int (d / ((n.natAbs.gcd d.natAbs : Nat) : Int))]) := by
  rw [rat_divInt hd] at q
  have g := gcd_bound (n := n) (by omega) hs
  by_cases h1 : d = 1
  · rw [if_pos h1]
    subst h1
    have e : n.natAbs.gcd (Int.natAbs 1) = 1 := Nat.gcd_one_right _
    rw [e] at q
    simpa using q
  · rw [if_neg h1]
    by_cases h2 : ((n.natAbs.gcd d.natAbs : Nat) : Int) = 1
    · rw [if_pos h2]
      rw [h2] at q
      simpa using q
    · rw [if_neg h2]
      exact ⟨g, g, q⟩
theorem pure_ratio (x y : AV) (h : AH) (R : AK) (c1 : clH h) (c2 : clBs h.length [x, y] = true) (q : sp_ratio [x, y] h R (fun _ _ => False)) : b_ratio (ends (retG h R)) [some x, some y, none] h := by
  obtain ⟨n, d, rfl, rfl, hd, hs, q⟩ := q
  unfold b_ratio
  get_elem_tactic_trivial
  unfold b_ratio_r1
  get_elem_tactic_trivial
  by_cases h0 : d < 0
  · rw [if_pos h0]
    exact ratio_pos (n := -n) (d := -d) (P := fun v => retG h R v h) (by omega) (by rw [isz_neg]; exact hs) (retG_of (by rw [Rat.neg_divInt_neg]; exact q))
  · rw [if_neg h0]
    exact ratio_pos (P := fun v => retG h R v h) (by omega) hs (retG_of q)
/-- what a body that takes two ratios asks of its products -/
structure Two (a b : Rat) : Prop where
  s : sz a + sz b ≤ 8990
theorem Two.nd {a b : Rat} (t : Two a b) : mulOk a.num b.den := mulOk_of (Nat.le_trans (Nat.add_le_add (sz_num a) (sz_den b)) t.s) (by decide)
theorem Two.dn {a b : Rat} (t : Two a b) : mulOk b.num a.den := mulOk_of (n := 8990) (by have := t.s; have := sz_num b; have := sz_den a; omega) (by decide)
theorem Two.dd {a b : Rat} (t : Two a b) : mulOk a.den b.den := mulOk_of (Nat.le_trans (Nat.add_le_add (sz_den a) (sz_den b)) t.s) (by decide)
theorem Two.nn {a b : Rat} (t : Two a b) : mulOk a.num b.num := mulOk_of (Nat.le_trans (Nat.add_le_add (sz_num a) (sz_num b)) t.s) (by decide)
theorem Two.dn' {a b : Rat} (t : Two a b) : mulOk a.den b.num := mulOk_of (Nat.le_trans (Nat.add_le_add (sz_den a) (sz_num b)) t.s) (by decide)
theorem Two.isz {a b : Rat} (t : Two a b) : isz ((a.den : Int) * b.den) ≤ 9000 := Nat.le_trans (isz_mul _ _) (Nat.le_trans (Nat.add_le_add (sz_den a) (sz_den b)) (Nat.le_trans t.s (by decide)))
theorem dd_ne (a b : Rat) : (a.den : Int) * b.den ≠ 0 := by
  have := Int.mul_pos (den_pos a) (den_pos b)
  omega
theorem whole_add {a b : Rat} (ha : (a.den : Int) = 1) (hb : (b.den : Int) = 1) : rat (a + b) = .tup [.int (a.num + b.num), .int 1] := by
  rw [rat_whole ha, rat_whole hb, ← Rat.intCast_add]
  rfl
theorem whole_sub {a b : Rat} (ha : (a.den : Int) = 1) (hb : (b.den : Int) = 1) : rat (a - b) = .tup [.int (a.num - b.num), .int 1] := by
  rw [rat_whole ha, rat_whole hb, ← Rat.intCast_sub]
  rfl
theorem whole_mul {a b : Rat} (ha : (a.den : Int) = 1) (hb : (b.den : Int) = 1) : rat (a * b) = .tup [.int (a.num * b.num), .int 1] := by
  rw [rat_whole ha, rat_whole hb, ← Rat.intCast_mul]
  rfl
theorem pure_plus (x y : AV) (h : AH) (R : AK) (c1 : clH h) (c2 : clBs h.length [x, y] = true) (q : sp_plus [x, y] h R (fun _ _ => False)) : b_plus (ends (retG h R)) [some x, some y] h := by
  obtain ⟨a, b, rfl, rfl, hs, q⟩ := q
  have t : Two a b := ⟨hs⟩
  have go : sp_ratio [.int (a.num * b.den + b.num * a.den), .int (a.den * b.den)] h (retG h R) (fun _ _ => False) := ⟨_, _, rfl, rfl, dd_ne a b, t.isz, retG_of (by rw [add_eq]; exact q)⟩
  unfold b_plus rat
  get_elem_tactic_trivial
  split
  · split
    · rename_i ha hb
      exact retG_of (by rw [← whole_add ha hb]; exact q)
    · exact ⟨t.nd, t.dn, t.dd, go⟩
  · exact ⟨t.nd, t.dn, t.dd, go⟩
theorem pure_minus (x y : AV) (h : AH) (R : AK) (c1 : clH h) (c2 : clBs h.length [x, y] = true) (q : sp_minus [x, y] h R (fun _ _ => False)) : b_minus (ends (retG h R)) [some x, some y] h := by
  obtain ⟨a, b, rfl, rfl, hs, q⟩ := q
  have t : Two a b := ⟨hs⟩
  have go : sp_ratio [.int (a.num * b.den - b.num * a.den), .int (a.den * b.den)] h (retG h R) (fun _ _ => False) := ⟨_, _, rfl, rfl, dd_ne a b, t.isz, retG_of (by rw [sub_eq]; exact q)⟩
  unfold b_minus rat
  get_elem_tactic_trivial
  split
  · split
    · rename_i ha hb
      exact retG_of (by rw [← whole_sub ha hb]; exact q)
    · exact ⟨t.nd, t.dn, t.dd, go⟩
  · exact ⟨t.nd, t.dn, t.dd, go⟩
theorem pure_times (x y : AV) (h : AH) (R : AK) (c1 : clH h) (c2 : clBs h.length [x, y] = true) (q : sp_times [x, y] h R (fun _ _ => False)) : b_times (ends (retG h R)) [some x, some y] h := by
  obtain ⟨a, b, rfl, rfl, hs, q⟩ := q
  have t : Two a b := ⟨hs⟩
  have go : sp_ratio [.int (a.num * b.num), .int (a.den * b.den)] h (retG h R) (fun _ _ => False) := ⟨_, _, rfl, rfl, dd_ne a b, t.isz, retG_of (by rw [mul_eq]; exact q)⟩
  unfold b_times rat
  get_elem_tactic_trivial
  split
  · split
    · rename_i ha hb
      exact ⟨t.nn, retG_of (by rw [← whole_mul ha hb]; exact q)⟩
    · exact ⟨t.nn, t.dd, go⟩
  · exact ⟨t.nn, t.dd, go⟩
theorem pure_over (x y : AV) (h : AH) (R : AK) (c1 : clH h) (c2 : clBs h.length [x, y] = true) (q : sp_over [x, y] h R (fun _ _ => False)) : b_over (ends (retG h R)) [some x, some y] h := by
  obtain ⟨a, b, rfl, rfl, hb, hs, q⟩ := q
  have t : Two a b := ⟨hs⟩
  unfold b_over rat
  get_elem_tactic_trivial
  refine ⟨t.nd, t.dn', _, _, rfl, rfl, Int.mul_ne_zero (by have := den_pos a; omega) (num_ne hb), ?_, retG_of (by rw [div_eq]; exact q)⟩
  exact Nat.le_trans (isz_mul _ _) (by have := sz_den a; have := sz_num b; omega)
theorem pure_opposite (x : AV) (h : AH) (R : AK) (c1 : clH h) (c2 : clBs h.length [x] = true) (q : sp_opposite [x] h R (fun _ _ => False)) : b_opposite (ends (retG h R)) [some x] h := by
  obtain ⟨a, rfl, hs, q⟩ := q
  unfold b_opposite rat
  get_elem_tactic_trivial
  exact retG_of q
theorem pure_less (x y : AV) (h : AH) (R : AK) (c1 : clH h) (c2 : clBs h.length [x, y] = true) (q : sp_less [x, y] h R (fun _ _ => False)) : b_less (ends (retG h R)) [some x, some y] h := by
  obtain ⟨a, b, rfl, rfl, hs, q⟩ := q
  have t : Two a b := ⟨hs⟩
  unfold b_less rat
  get_elem_tactic_trivial
  refine ⟨t.nd, t.dn, retG_of ?_⟩
  rw [show decide (a.num * (b.den : Int) < b.num * (a.den : Int)) = decide (a < b) from decide_eq_decide.mpr (Rat.lt_iff a b).symm]
  exact q
theorem pure_at_most (x y : AV) (h : AH) (R : AK) (c1 : clH h) (c2 : clBs h.length [x, y] = true) (q : sp_at_most [x, y] h R (fun _ _ => False)) : b_at_most (ends (retG h R)) [some x, some y] h := by
  obtain ⟨a, b, rfl, rfl, hs, q⟩ := q
  have t : Two a b := ⟨hs⟩
  unfold b_at_most rat
  get_elem_tactic_trivial
  refine ⟨t.nd, t.dn, retG_of ?_⟩
  rw [show decide (a.num * (b.den : Int) ≤ b.num * (a.den : Int)) = decide (a ≤ b) from decide_eq_decide.mpr (Rat.le_iff a b).symm]
  exact q
theorem pure_sign_of (x : AV) (h : AH) (R : AK) (c1 : clH h) (c2 : clBs h.length [x] = true) (q : sp_sign_of [x] h R (fun _ _ => False)) : b_sign_of (ends (retG h R)) [some x] h := by
  obtain ⟨a, rfl, hs, q⟩ := q
  have q : R (.int (if a.num < 0 then -1 else if a.num > 0 then 1 else 0)) h := q
  unfold b_sign_of rat
  get_elem_tactic_trivial
  split
  · rename_i h1
    rw [if_pos h1] at q
    exact retG_of q
  · rename_i h1
    rw [if_neg h1] at q
    split
    · rename_i h2
      rw [if_pos h2] at q
      exact retG_of q
    · rename_i h2
      rw [if_neg h2] at q
      exact retG_of q
theorem den_ok {a : Rat} (hs : sz a ≤ 8990) : divOk a.den := divOk_of (den_pos a) (by have := sz_den a; omega)
theorem pure_floor_of (x : AV) (h : AH) (R : AK) (c1 : clH h) (c2 : clBs h.length [x] = true) (q : sp_floor_of [x] h R (fun _ _ => False)) : b_floor_of (ends (retG h R)) [some x] h := by
  obtain ⟨a, rfl, hs, q⟩ := q
  unfold b_floor_of rat
  get_elem_tactic_trivial
  exact ⟨den_ok hs, retG_of q⟩
theorem pure_ceiling_of (x : AV) (h : AH) (R : AK) (c1 : clH h) (c2 : clBs h.length [x] = true) (q : sp_ceiling_of [x] h R (fun _ _ => False)) : b_ceiling_of (ends (retG h R)) [some x] h := by
  obtain ⟨a, rfl, hs, q⟩ := q
  unfold b_ceiling_of rat
  get_elem_tactic_trivial
  exact ⟨den_ok hs, retG_of q⟩
theorem half_eq (a b : Rat) : Rat.divInt (a.num * b.den + b.num * a.den) (2 * a.den * b.den) = (a + b) / 2 := by
  rw [← add_eq a b, Rat.divInt_eq_div, Rat.divInt_eq_div, Rat.div_def, Rat.div_def, Rat.div_def, Rat.mul_assoc, ← Rat.inv_mul_rev]
  congr 2
  rw [Int.mul_assoc, Rat.intCast_mul]
  rfl
theorem pure_between (x y : AV) (h : AH) (R : AK) (c1 : clH h) (c2 : clBs h.length [x, y] = true) (q : sp_between [x, y] h R (fun _ _ => False)) : b_between (ends (retG h R)) [some x, some y] h := by
  obtain ⟨a, b, rfl, rfl, hs, q⟩ := q
  have t : Two a b := ⟨hs⟩
  unfold b_between rat
  get_elem_tactic_trivial
  have i2 : isz (2 * (a.den : Int)) ≤ 2 + isz (a.den : Int) := isz_mul 2 _
  have i3 : isz (2 * (a.den : Int) * b.den) ≤ isz (2 * (a.den : Int)) + isz (b.den : Int) := isz_mul _ _
  have d1 := sz_den a
  have d2 := sz_den b
  refine ⟨t.nd, t.dn, .inl (.inl ⟨by decide, by decide⟩), mulOk_of (n := 9000) (by omega) (by decide), _, _, rfl, rfl, ?_, by omega, retG_of (by rw [half_eq]; exact q)⟩
  rw [Int.mul_assoc]
  exact Int.mul_ne_zero (by decide) (dd_ne a b)
/-! ### kinds -/
theorem kind_int (x : AV) (h : AH) (hx : seen h x) (R : AK) (q : R (.bl (isI x)) h) :
    instR [x, .ty "int"] h (fun v h1 => blR v h1 fun c h2 => if c = true then instR [x, .ty "bool"] h2 (fun v h3 => blR v h3 fun c h4 => R (.bl (!c)) h4) else R (.bl false) h2) := by
  cases x with
  | ref n =>
    have e : h[n]? = some h[n] := List.getElem?_eq_getElem hx
    simp only [instR, tyName, e]
    cases h[n] <;> exact q
  | ty n => exact hx.elim
  | _ => exact q
theorem pure_whole_number (x : AV) (h : AH) (R : AK) (c1 : clH h) (c2 : clBs h.length [x] = true) (q : sp_whole_number [x] h R (fun _ _ => False)) : b_whole_number (ends (retG h R)) [some x] h := by
  obtain ⟨hx, q⟩ := q
  unfold b_whole_number
  get_elem_tactic_trivial
  exact kind_int x h hx _ (retG_of q)
end AL

/-! CQ: draws, greatest common divisors, ratios by the laws' own way. -/
namespace AL
open PySem
local macro_rules | `(tactic| get_elem_tactic_trivial) => `(tactic| simp only [e_tru_non, e_tru_bl, e_tru_int, e_tru_tup, e_tru_rol, e_bl_bl, e_add_int, e_add_ib, e_add_str, e_add_tup, e_sub_int, e_mul_int, e_fdiv_int, e_mod_int, e_pow_int, e_shl_int, e_neg_int, e_iadd_int, e_iadd_str, e_isub_int, e_aeq_int, e_aeq_str, e_aeq_bl, e_aeq_non, e_aeq_tup, e_aeqs_nil, e_aeqs_cons, e_aeqs_nc, e_aeqs_cn, e_plain_int, e_plain_bl, e_plain_non, e_plain_str, e_plain_tup, e_eq, e_ne, e_lt_int, e_lt_str, e_le_int, e_gt_int, e_ge_int, e_isN, e_notN, e_isNon_int, e_isNon_str, e_isNon_tup, e_isNon_non, e_isNon_ref, e_isNon_bl, e_ix0, e_ix1, e_ix2, e_ix3, e_ix4, e_len_tup, e_len_rol, e_len_str, e_abs, e_int_int, e_int_bl, e_str_int, e_gcd, e_tuple_tup, e_list_tup, e_inst_ii, e_inst_ib, e_inst_tt, e_inst_it, e_inst_ti, e_inst_tb, e_inst_bb, e_inst_bi, e_inst_bt, e_inst_ss, e_inst_st, e_inst_si, e_inst_nt, e_gTup, e_gCons, e_gNil, e_gNms0, e_gNms1, e_gName, atA_0, atA_1, atA_2, atA_3, atA_4, get_l0, get_l1, get_l2, get_l3, set_l0, set_l1, set_l2, app_l, len_l0, len_l1, len_l2, x_c, x_var, x_op, x_un, x_nil, x_cons, x_tup, x_lst, x_call, x_cb, x_mt, x_tru, x_cmp, x_and, x_or, x_not, x_andV, x_orV, x_notV, x_if, x_chain, x_next, x_seq, x_brk, x_cont, x_drop, x_ret, x_retN, x_ifS, x_asg, x_gSub, x_par, x_aug, x_augS, x_rt, x_nx, x_yes, gv, sv, wipeA, lenLe, true_and, and_true, if_true, if_false, ite_true, ite_false, beq_iff_eq, decide_eq_true_eq, Bool.false_eq_true, not_false_eq_true, Bool.not_eq_true', decide_eq_false_iff_not, Bool.not_true, Bool.not_false, List.isEmpty_cons, List.isEmpty_nil, List.cons_append, List.nil_append, List.length_cons, List.length_nil])
/-- a comprehension whose items are taken as they are, one for one, the heap left -/
theorem lcT_map {it : ATI} {guard : AH → Prop} {g : ATG} {te : ATE} {vs : List Nat} {a : ASt} {items ys : List AV} {h0 h1 : AH} {R : AK} (hi : ∀ K, K items guard h1 → it a h0 K) (hl : items.length = ys.length) (hz : items.length ≤ 1000000)
    (hg : ∀ acc, guard (h1 ++ [.lst acc])) (hs : ∀ (i : Nat) x y acc (Q : AK), items[i]? = some x → ys[i]? = some y → Q y (h1 ++ [.lst acc]) → g x (wipeA a vs) (h1 ++ [.lst acc]) fun a2 h3 => te a2 h3 Q)
    (q : R (.ref h1.length) (h1 ++ [.lst ys])) : lcT it g yesT te vs a h0 R := by
  refine hi _ ⟨fun i acc h => acc = ys.take i ∧ h = h1 ++ [.lst acc], ⟨rfl, rfl⟩, fun i x acc h hx ⟨e1, e2⟩ => ?_, fun acc h ⟨e1, e2⟩ => ?_⟩
  · have hi : i < items.length := (List.getElem?_eq_some_iff.mp hx).1
    have hy : ys[i]? = some ys[i] := List.getElem?_eq_getElem (by omega)
    subst e2
    refine ⟨hg acc, ?_⟩
    have hlen : acc.length < 16777216 := by
      rw [e1, List.length_take]
      omega
    refine hs i x ys[i] acc _ hx hy ?_
    refine ⟨get_l0, hlen, ?_, ?_⟩
    · rw [e1, List.take_add_one, hy]
      rfl
    · rw [set_l0]
  · have e3 : acc = ys := by
      rw [e1, hl, List.take_length]
    subst e3
    subst e2
    exact ⟨hg _, get_l0, q⟩
theorem map_get {α β : Type} {f : α → β} {xs : List α} {i : Nat} {y : β} (h : (xs.map f)[i]? = some y) : ∃ x, xs[i]? = some x ∧ y = f x := by
  rw [List.getElem?_map] at h
  cases e : xs[i]? with
  | none =>
    rw [e] at h
    cases h
  | some x =>
    rw [e] at h
    cases h
    exact ⟨x, rfl, rfl⟩
theorem pure_law_begin (x : AV) (h : AH) (R : AK) (c1 : clH h) (c2 : clBs h.length [x] = true) (q : sp_law_begin [x] h R (fun _ _ => False)) : b_law_begin (ends (retG h R)) [some x, none] h := by
  obtain ⟨ns, rfl, hl, q⟩ := q
  unfold b_law_begin
  get_elem_tactic_trivial
  refine lcT_map (h1 := h) (items := ns.map AV.int) (ys := ns.map AV.int) (guard := fun _ => True) (fun K k => k) rfl (by rw [List.length_map]; omega) (fun _ => trivial) (fun i x y acc Q hx hy q => ?_) ?_
  · rw [hx] at hy
    cases hy
    obtain ⟨z, _, rfl⟩ := map_get hx
    exact q
  · refine .inl ?_
    rw [List.length_append, List.append_assoc]
    exact q
/-! ### a draw -/
theorem draw_set {h : AH} {n k : Nat} {ns : List Int} {at_ at2 : Nat} {rest seed rest2 seed2 : Int} (h1 : h[n]? = some (.lst [.ref k, .int (at_ : Int), .int rest, .int seed, .int 3])) (h2 : h[k]? = some (.lst (ns.map AV.int))) (hk : k < n) :
    Drawn h n (h.set n (.lst [.ref k, .int (at2 : Int), .int rest2, .int seed2, .int 3])) := by
  have hn : n < h.length := (List.getElem?_eq_some_iff.mp h1).1
  refine ⟨List.length_set .., fun i hi => List.getElem?_set_ne (Ne.symm hi), k, ns, at2, rest2, seed2, ?_, ?_, hk⟩
  · rw [List.getElem?_set_self hn]
  · rw [List.getElem?_set_ne (by omega)]
    exact h2
theorem isz_of {i : Int} {n : Nat} (hn : 1 ≤ n) (h0 : 0 ≤ i) (h : i < 2 ^ n) : isz i ≤ n := isz_le hn (by
  have : ((i.natAbs : Nat) : Int) < ((2 ^ n : Nat) : Int) := by
    rw [Int.natCast_pow]
    show ((i.natAbs : Nat) : Int) < (2 : Int) ^ n
    omega
  exact_mod_cast this)
theorem mod_draw {x many : Int} (h : 0 < many) : 0 ≤ x % many ∧ x % many < many := ⟨Int.emod_nonneg _ (by omega), Int.emod_lt_of_pos _ h⟩
theorem small_lit {n : Int} (h : -(2 ^ 64) < n ∧ n < 2 ^ 64) (x : Int) : mulOk n x := .inl (.inl h)
theorem small_lit' {n : Int} (h : -(2 ^ 64) < n ∧ n < 2 ^ 64) (x : Int) : mulOk x n := .inl (.inr h)
theorem div_lit {n : Int} (h0 : 0 < n) (h : n < 2 ^ 64) : divOk n := divOk_of h0 (Nat.le_trans (isz_of (n := 64) (by decide) (by omega) h) (by decide))
theorem atA_ints {ns : List Int} {i : Nat} {x : Int} (h : ns[i]? = some x) : atA (ns.map AV.int) (i : Int) = some (.int x) := by
  show (ns.map AV.int)[i]? = _
  rw [List.getElem?_map, h]
  rfl
/-- the drawing list changed -/
theorem set_at {h : AH} {n : Nat} {x y : AO} (e : h[n]? = some x) : (h.set n y)[n]? = some y := List.getElem?_set_self (List.getElem?_eq_some_iff.mp e).1
section
variable {n : Nat} {h1 : AH} {a b c d f v : AV} {Q : AK} {S : AH → Prop}
theorem d_ix (e : h1[n]? = some (.lst [a, b, c, d, f])) : ixR (.ref n) (.int 0) h1 Q = Q a h1 ∧ ixR (.ref n) (.int 1) h1 Q = Q b h1 ∧ ixR (.ref n) (.int 2) h1 Q = Q c h1 ∧ ixR (.ref n) (.int 3) h1 Q = Q d h1 :=
  ⟨e_ix_lst e rfl, e_ix_lst e rfl, e_ix_lst e rfl, e_ix_lst e rfl⟩
theorem d_st1 (e : h1[n]? = some (.lst [a, b, c, d, f])) : setR (.ref n) (.int 1) v h1 S = S (h1.set n (.lst [a, v, c, d, f])) := by
  rw [show (1 : Int) = ((1 : Nat) : Int) from rfl, e_set_lst e]
  simp
theorem d_st2 (e : h1[n]? = some (.lst [a, b, c, d, f])) : setR (.ref n) (.int 2) v h1 S = S (h1.set n (.lst [a, b, v, d, f])) := by
  rw [show (2 : Int) = ((2 : Nat) : Int) from rfl, e_set_lst e]
  simp
theorem d_st3 (e : h1[n]? = some (.lst [a, b, c, d, f])) : setR (.ref n) (.int 3) v h1 S = S (h1.set n (.lst [a, b, c, v, f])) := by
  rw [show (3 : Int) = ((3 : Nat) : Int) from rfl, e_set_lst e]
  simp
end
theorem lit64 : small64 2 ∧ small64 48271 ∧ small64 16807 ∧ small64 69621 := ⟨⟨by decide, by decide⟩, ⟨by decide, by decide⟩, ⟨by decide, by decide⟩, ⟨by decide, by decide⟩⟩
theorem draw_tail {n k at_ : Nat} {ns : List Int} {rest seed many size : Int} {h : AH} {R : AK} {w : Option AV} (hm : 0 < many) (dm : divOk many) (e1 : h[n]? = some (.lst [.ref k, .int (at_ : Int), .int rest, .int seed, .int 3])) (e2 : h[k]? = some (.lst (ns.map AV.int))) (hk : k < n)
    (q : ∀ (r : Int) (h' : AH), 0 ≤ r → r < many → Drawn h n h' → R (AV.int r) h') : b_law_draw_r1 (ends (retG h R)) [some (.ref n), some (.int many), none, some (.int size), w] h := by
  have md : ∀ z : Int, 0 ≤ z % many ∧ z % many < many := fun z => mod_draw hm
  obtain ⟨l1, l2, l3, l4⟩ := lit64
  unfold b_law_draw_r1
  get_elem_tactic_trivial
  rw [(d_ix e1).2.1]
  get_elem_tactic_trivial
  rw [d_st1 e1]
  have f1 := set_at (y := .lst [.ref k, .int ((at_ : Int) + 1), .int rest, .int seed, .int 3]) e1
  refine ⟨by decide, .inl (.inl l1), ?_⟩
  have dr : ∀ (r2 s2 : Int), Drawn h n (h.set n (.lst [.ref k, .int ((at_ : Int) + 1), .int r2, .int s2, .int 3])) := fun r2 s2 => by
    have := draw_set (at2 := at_ + 1) (rest2 := r2) (seed2 := s2) e1 e2 hk
    rwa [Int.natCast_add] at this
  by_cases hb : 2 * 10 ^ Int.toNat 18 ≤ size
  · rw [if_pos hb, d_st2 f1, List.set_set]
    refine ⟨div_lit (by decide) (by decide), by decide, ?_, dm, hm, retG_of (q _ _ (md _).1 (md _).2 (dr _ _))⟩
    rw [Int.one_mul]
    exact Int.pow_pos (by decide)
  · rw [if_neg hb, (d_ix f1).2.2.2]
    get_elem_tactic_trivial
    refine ⟨.inl (.inr l2), by decide, .inl (.inr l3), ?_⟩
    rw [(d_ix f1).2.1]
    get_elem_tactic_trivial
    refine ⟨.inl (.inr l4), by decide, ?_⟩
    rw [d_st3 f1, List.set_set]
    have f2 := set_at (y := .lst [.ref k, .int ((at_ : Int) + 1), .int rest, .int ((seed * 48271 + size % 2147483629 * 16807 + ((at_ : Int) + 1) * 69621 + 11) % 2147483647), .int 3]) e1
    rw [(d_ix f2).2.2.2]
    get_elem_tactic_trivial
    exact ⟨div_lit (by decide) (by decide), hm, retG_of (q _ _ (md _).1 (md _).2 (dr _ _))⟩
theorem pure_law_draw (x y : AV) (h : AH) (R : AK) (c1 : clH h) (c2 : clBs h.length [x, y] = true) (q : sp_law_draw [x, y] h R (fun _ _ => False)) : b_law_draw (ends (retG h R)) [some x, some y, none, none, none] h := by
  obtain ⟨n, many, rfl, rfl, hm, hs, ⟨k, ns, at_, rest, seed, e1, e2, hk⟩, q⟩ := q
  have dm := divOk_of hm hs
  have md : ∀ z : Int, 0 ≤ z % many ∧ z % many < many := fun z => mod_draw hm
  unfold b_law_draw
  get_elem_tactic_trivial
  rw [(d_ix e1).2.2.1]
  get_elem_tactic_trivial
  by_cases h0 : 0 < rest
  · rw [if_pos h0, (d_ix e1).2.2.1]
    get_elem_tactic_trivial
    rw [d_st2 e1]
    exact ⟨dm, hm, retG_of (q _ _ (md _).1 (md _).2 (draw_set e1 e2 hk))⟩
  · rw [if_neg h0, (d_ix e1).2.1, (d_ix e1).1, e_len_lst e2]
    get_elem_tactic_trivial
    by_cases hlt : (at_ : Int) < ((ns.map AV.int).length : Int)
    · rw [if_pos hlt, (d_ix e1).1, (d_ix e1).2.1]
      have hn : at_ < ns.length := by
        rw [List.length_map] at hlt
        omega
      rw [e_ix_lst e2 (atA_ints (List.getElem?_eq_getElem hn))]
      get_elem_tactic_trivial
      exact ⟨.inl (.inl lit64.1), draw_tail hm dm e1 e2 hk q⟩
    · rw [if_neg hlt]
      exact draw_tail hm dm e1 e2 hk q
/-- what a draw leaves as it was -/
theorem Drawn.seq {h h' : AH} {n : Nat} {y : AV} {xs : List AV} (d : Drawn h n h') (hy : y ≠ .ref n) (e : seqOf y h = some xs) : seqOf y h' = some xs := by
  cases y with
  | ref m =>
    have hm : m ≠ n := fun z => hy (by rw [z])
    simp only [seqOf] at e ⊢
    rw [d.2.1 m hm]
    exact e
  | _ => exact e
theorem ix_seq_of {y : AV} {xs : List AV} {h : AH} {i : Int} {v : AV} {Q : AK} (e : seqOf y h = some xs) (hv : atA xs i = some v) : ixR y (.int i) h Q = Q v h := by
  cases y with
  | tup ys =>
    cases e
    exact e_ix_tup hv
  | rol ys =>
    cases e
    exact e_ix_rol hv
  | ref m =>
    simp only [seqOf] at e
    split at e
    · rename_i zs e1
      cases e
      exact e_ix_lst e1 hv
    · cases e
  | _ => cases e
theorem len_seq_of {y : AV} {xs : List AV} {h : AH} {Q : AK} (e : seqOf y h = some xs) : lenR [y] h Q = Q (.int xs.length) h := by
  cases y with
  | tup ys =>
    cases e
    rfl
  | rol ys =>
    cases e
    rfl
  | ref m =>
    simp only [seqOf] at e
    split at e
    · rename_i zs e1
      cases e
      exact e_len_lst e1
    · cases e
  | _ => cases e
theorem pure_law_pick (x y : AV) (h : AH) (R : AK) (c1 : clH h) (c2 : clBs h.length [x, y] = true) (q : sp_law_pick [x, y] h R (fun _ _ => False)) : b_law_pick (ends (retG h R)) [some x, some y] h := by
  obtain ⟨n, xs, rfl, hy, hne, hl, hyn, hd, q⟩ := q
  unfold b_law_pick
  get_elem_tactic_trivial
  rw [len_seq_of hy]
  have hpos : 0 < xs.length := List.length_pos_iff.mpr hne
  refine ⟨n, xs.length, rfl, rfl, by omega, Nat.le_trans (isz_of (n := 64) (by decide) (by omega) (by omega)) (by decide), hd, fun r h' r0 r1 dr => ?_⟩
  obtain ⟨i, rfl⟩ := Int.eq_ofNat_of_zero_le r0
  have hi : i < xs.length := by omega
  rw [ix_seq_of (dr.seq hyn hy) (v := xs[i]) (show atA xs ((i : Nat) : Int) = some xs[i] from List.getElem?_eq_getElem hi)]
  exact retG_of (q _ _ (List.getElem_mem hi) dr)
theorem pure_law_rare (x y : AV) (h : AH) (R : AK) (c1 : clH h) (c2 : clBs h.length [x, y] = true) (q : sp_law_rare [x, y] h R (fun _ _ => False)) : b_law_rare (ends (retG h R)) [some x, some y] h := by
  obtain ⟨n, many, rfl, rfl, hm, hs, hd, q⟩ := q
  unfold b_law_rare
  get_elem_tactic_trivial
  refine ⟨n, many, rfl, rfl, hm, hs, hd, fun r h' r0 r1 dr => ?_⟩
  get_elem_tactic_trivial
  exact ⟨div_lit (by decide) (by decide), retG_of (q _ _ dr)⟩
/-! ### Euclid -/
/-- the pair at a turn: its divisor is the one sought, and its product has been halved at each turn but the first -/
def Eu (A B i : Nat) (a b : Nat) : Prop := a.gcd b = A.gcd B ∧ ((i = 0 ∧ a = A ∧ b = B) ∨ (1 ≤ i ∧ b < a ∧ a * b * 2 ^ (i - 1) ≤ A * B))
theorem eu_next {A B i a b : Nat} (h : Eu A B i a b) (hb : b ≠ 0) : Eu A B (i + 1) b (a % b) := by
  obtain ⟨hg, h⟩ := h
  have hlt : a % b < b := Nat.mod_lt _ (by omega)
  refine ⟨by rw [← hg, Nat.gcd_comm a b, Nat.gcd_rec b a, Nat.gcd_comm], .inr ⟨by omega, hlt, ?_⟩⟩
  rcases h with ⟨rfl, rfl, rfl⟩ | ⟨h1, h2, h3⟩
  · have : a % b ≤ a := Nat.mod_le _ _
    show b * (a % b) * 2 ^ 0 ≤ a * b
    rw [Nat.pow_zero, Nat.mul_one, Nat.mul_comm]
    exact Nat.mul_le_mul_right _ this
  · have hd := Nat.div_add_mod a b
    have hq : 1 ≤ a / b := Nat.div_pos (by omega) (by omega)
    have hq2 : b * 1 ≤ b * (a / b) := Nat.mul_le_mul_left _ hq
    have half : 2 * (a % b) ≤ a := by omega
    have e : i + 1 - 1 = (i - 1) + 1 := by omega
    rw [e, Nat.pow_succ]
    calc b * (a % b) * (2 ^ (i - 1) * 2) = (2 * (a % b)) * b * 2 ^ (i - 1) := by
          simp only [Nat.mul_comm, Nat.mul_left_comm, Nat.mul_assoc]
      _ ≤ a * b * 2 ^ (i - 1) := Nat.mul_le_mul_right _ (Nat.mul_le_mul_right _ half)
      _ ≤ A * B := h3
theorem eu_end {A B a b : Nat} (h : Eu A B 100000 a b) (hA : A < 2 ^ 20000) (hB : B < 2 ^ 20000) : b = 0 := by
  obtain ⟨_, h⟩ := h
  rcases h with ⟨h, _⟩ | ⟨_, h2, h3⟩
  · omega
  · apply Decidable.byContradiction
    intro hb
    have h4 : A * B < 2 ^ 20000 * 2 ^ 20000 := Nat.mul_lt_mul'' hA hB
    rw [← Nat.pow_add] at h4
    have h5 : 1 * 2 ^ 40000 ≤ a * b * 2 ^ (100000 - 1) := Nat.mul_le_mul (Nat.mul_pos (by omega) (by omega)) (Nat.pow_le_pow_right (by decide) (by decide))
    have e : (20000 + 20000 : Nat) = 40000 := rfl
    rw [e] at h4
    omega
theorem abs_if (i : Int) : (if i < 0 then -i else i) = (i.natAbs : Int) := by
  split <;> omega
theorem pure_law_gcd (x y : AV) (h : AH) (R : AK) (c1 : clH h) (c2 : clBs h.length [x, y] = true) (q : sp_law_gcd [x, y] h R (fun _ _ => False)) : b_law_gcd (ends (retG h R)) [some x, some y, none] h := by
  obtain ⟨a0, b0, rfl, rfl, ha, hb, q⟩ := q
  unfold b_law_gcd
  get_elem_tactic_trivial
  rw [abs_if, abs_if, x_for]
  refine ⟨by decide, by decide, ?_⟩
  refine ⟨fun i σ h' => h' = h ∧ ∃ (a b : Nat) (k : Option AV), σ = [some (.int a), some (.int b), k] ∧ Eu a0.natAbs b0.natAbs i a b, ⟨rfl, _, _, _, rfl, rfl, .inl ⟨rfl, rfl, rfl⟩⟩, fun i z σ h' hz ⟨eh, a, b, k, es, eu⟩ => ?_, fun σ h' ⟨eh, a, b, k, es, eu⟩ => ?_⟩
  · subst eh es
    refine ⟨trivial, ?_⟩
    unfold b_law_gcd_l1
    get_elem_tactic_trivial
    by_cases h0 : (b : Int) = 0
    · rw [if_pos h0]
      have : b = 0 := by omega
      subst this
      obtain ⟨hg, _⟩ := eu
      rw [Nat.gcd_zero_right] at hg
      exact retG_of (by rw [hg]; exact q)
    · rw [if_neg h0]
      exact ⟨by omega, b, a % b, _, rfl, eu_next eu (by omega)⟩
  · subst eh es
    refine ⟨trivial, ?_⟩
    have : b = 0 := eu_end (by simpa [zrange] using eu) (isz_lt ha) (isz_lt hb)
    subst this
    obtain ⟨hg, _⟩ := eu
    rw [Nat.gcd_zero_right] at hg
    get_elem_tactic_trivial
    exact retG_of (by rw [hg]; exact q)
/-! ### ratios by the laws' own way -/
theorem law_r_pos {n d : Int} {h : AH} {R : AK} {g : Option AV} (hd : 0 < d) (hn : isz n ≤ 20000) (hs : isz d ≤ 9000) (q : R (rat (Rat.divInt n d)) h) : b_law_r_r1 (ends R) [some (.int n), some (.int d), g] h := by
  unfold b_law_r_r1
  get_elem_tactic_trivial
  have dg := gcd_bound (n := n) (by omega) hs
  rw [rat_divInt hd] at q
  exact ⟨n, d, rfl, rfl, hn, by omega, dg, dg, q⟩
theorem pure_law_r (x y : AV) (h : AH) (R : AK) (c1 : clH h) (c2 : clBs h.length [x, y] = true) (q : sp_law_r [x, y] h R (fun _ _ => False)) : b_law_r (ends (retG h R)) [some x, some y, none] h := by
  obtain ⟨n, d, rfl, rfl, hd, hn, hs, q⟩ := q
  unfold b_law_r
  get_elem_tactic_trivial
  by_cases h0 : d < 0
  · rw [if_pos h0]
    exact law_r_pos (by omega) (by rw [isz_neg]; exact hn) (by rw [isz_neg]; exact hs) (retG_of (by rw [Rat.neg_divInt_neg]; exact q))
  · rw [if_neg h0]
    exact law_r_pos (by omega) hn hs (retG_of q)
theorem Two.isn {a b : Rat} (t : Two a b) : AL.isz (a.num * b.den + b.num * a.den) ≤ 20000 ∧ AL.isz (a.num * b.den - b.num * a.den) ≤ 20000 ∧ AL.isz (a.num * b.num) ≤ 20000 ∧ AL.isz (a.num * b.den) ≤ 20000 := by
  have h1 := isz_mul a.num b.den
  have h2 := isz_mul b.num a.den
  have h3 := isz_mul a.num b.num
  have n1 := sz_num a
  have n2 := sz_num b
  have d1 := sz_den a
  have d2 := sz_den b
  have s := t.s
  have h4 := isz_add (i := a.num * b.den) (j := b.num * a.den) (n := 8990) (by omega) (by omega)
  have h5 := isz_sub (i := a.num * b.den) (j := b.num * a.den) (n := 8990) (by omega) (by omega)
  omega
theorem pure_law_add (x y : AV) (h : AH) (R : AK) (c1 : clH h) (c2 : clBs h.length [x, y] = true) (q : sp_law_add [x, y] h R (fun _ _ => False)) : b_law_add (ends (retG h R)) [some x, some y] h := by
  obtain ⟨a, b, rfl, rfl, hs, q⟩ := q
  have t : Two a b := ⟨hs⟩
  unfold b_law_add rat
  get_elem_tactic_trivial
  exact ⟨t.nd, t.dn, t.dd, _, _, rfl, rfl, dd_ne a b, t.isn.1, t.isz, retG_of (by rw [add_eq]; exact q)⟩
theorem pure_law_sub (x y : AV) (h : AH) (R : AK) (c1 : clH h) (c2 : clBs h.length [x, y] = true) (q : sp_law_sub [x, y] h R (fun _ _ => False)) : b_law_sub (ends (retG h R)) [some x, some y] h := by
  obtain ⟨a, b, rfl, rfl, hs, q⟩ := q
  have t : Two a b := ⟨hs⟩
  unfold b_law_sub rat
  get_elem_tactic_trivial
  exact ⟨t.nd, t.dn, t.dd, _, _, rfl, rfl, dd_ne a b, t.isn.2.1, t.isz, retG_of (by rw [sub_eq]; exact q)⟩
theorem pure_law_mul (x y : AV) (h : AH) (R : AK) (c1 : clH h) (c2 : clBs h.length [x, y] = true) (q : sp_law_mul [x, y] h R (fun _ _ => False)) : b_law_mul (ends (retG h R)) [some x, some y] h := by
  obtain ⟨a, b, rfl, rfl, hs, q⟩ := q
  have t : Two a b := ⟨hs⟩
  unfold b_law_mul rat
  get_elem_tactic_trivial
  exact ⟨t.nn, t.dd, _, _, rfl, rfl, dd_ne a b, t.isn.2.2.1, t.isz, retG_of (by rw [mul_eq]; exact q)⟩
theorem pure_law_div (x y : AV) (h : AH) (R : AK) (c1 : clH h) (c2 : clBs h.length [x, y] = true) (q : sp_law_div [x, y] h R (fun _ _ => False)) : b_law_div (ends (retG h R)) [some x, some y] h := by
  obtain ⟨a, b, rfl, rfl, hb, hs, q⟩ := q
  have t : Two a b := ⟨hs⟩
  unfold b_law_div rat
  get_elem_tactic_trivial
  refine ⟨t.nd, t.dn', _, _, rfl, rfl, Int.mul_ne_zero (by have := den_pos a; omega) (num_ne hb), t.isn.2.2.2, ?_, retG_of (by rw [div_eq]; exact q)⟩
  exact Nat.le_trans (isz_mul _ _) (by have := sz_den a; have := sz_num b; omega)
theorem pure_law_is_int (x : AV) (h : AH) (R : AK) (c1 : clH h) (c2 : clBs h.length [x] = true) (q : sp_law_is_int [x] h R (fun _ _ => False)) : b_law_is_int (ends (retG h R)) [some x] h := by
  obtain ⟨hx, q⟩ := q
  unfold b_law_is_int
  get_elem_tactic_trivial
  exact kind_int x h hx _ (retG_of q)
theorem beq_dec (m : Nat) : (((m : Nat) : Int) == 1) = decide (m = 1) := by
  by_cases h1 : m = 1
  · subst h1
    rfl
  · rw [decide_eq_false h1]
    simpa using (by omega : ¬ ((m : Nat) : Int) = 1)
theorem isR_len : ∀ (xs : List AV), xs.length ≠ 2 → isR (.tup xs) = false
  | [], _ => rfl
  | [y], _ => by cases y <;> rfl
  | [_, _], e => (e rfl).elim
  | y :: z :: _ :: _, _ => by cases y <;> cases z <;> rfl
theorem pure_law_is_r (x : AV) (h : AH) (R : AK) (c1 : clH h) (c2 : clBs h.length [x] = true) (q : sp_law_is_r [x] h R (fun _ _ => False)) : b_law_is_r (ends (retG h R)) [some x] h := by
  obtain ⟨hx, hs, hb, q⟩ := q
  unfold b_law_is_r
  get_elem_tactic_trivial
  have no : isR x = false → retG h R (.bl false) h := fun e => retG_of (by rw [← e]; exact q)
  cases x with
  | tup xs =>
    get_elem_tactic_trivial
    match xs, hs, hb, q, no with
    | [], _, _, _, no => simpa using no (isR_len _ (by simp))
    | [_], _, _, _, no => simpa using no (isR_len _ (by simp))
    | _ :: _ :: _ :: r, _, _, _, no =>
      have e : ¬ ((r.length : Int) + 1 + 1 + 1 = 2) := by omega
      simpa [e] using no (isR_len _ (by simp))
    | [y, z], hs, hb, q, no =>
      have sy := hs _ rfl y (by simp)
      have sz := hs _ rfl z (by simp)
      get_elem_tactic_trivial
      refine ⟨sy, ?_⟩
      cases y with
      | int n =>
        simp only [isI]
        get_elem_tactic_trivial
        refine ⟨sz, ?_⟩
        cases z with
        | int d =>
          simp only [isI]
          get_elem_tactic_trivial
          obtain ⟨b1, b2⟩ := hb n d rfl
          have e : isR (.tup [.int n, .int d]) = (decide (1 ≤ d) && decide (n.natAbs.gcd d.natAbs = 1)) := rfl
          by_cases hd : d < 1
          · rw [if_pos hd]
            exact no (by rw [e, decide_eq_false (by omega)]; rfl)
          · rw [if_neg hd]
            refine ⟨n, d, rfl, rfl, b1, b2, ?_⟩
            get_elem_tactic_trivial
            have e2 : (((n.natAbs.gcd d.natAbs : Nat) : Int) == 1) = isR (.tup [.int n, .int d]) := by
              rw [e, decide_eq_true (show 1 ≤ d by omega), Bool.true_and]
              exact beq_dec _
            rw [e2]
            exact retG_of q
        | _ =>
          simp only [isI]
          get_elem_tactic_trivial
          exact no rfl
      | _ =>
        simp only [isI]
        get_elem_tactic_trivial
        exact no (by cases z <;> rfl)
  | ref n =>
    have e : h[n]? = some h[n] := List.getElem?_eq_getElem hx
    simp only [instR, tyName, e]
    cases h[n] <;> exact no rfl
  | ty n => exact hx.elim
  | _ => exact no rfl
end AL

/-! CD: what draws leave; the heap behind them. -/
namespace AL
open PySem
theorem Drawn.at {h h' : AH} {n : Nat} (d : Drawn h n h') : DrawAt h' n := d.2.2
theorem Drawn.len {h h' : AH} {n : Nat} (d : Drawn h n h') : h'.length = h.length := d.1
theorem Drawn.trans {h h1 h2 : AH} {n : Nat} (a : Drawn h n h1) (b : Drawn h1 n h2) : Drawn h n h2 :=
  ⟨b.1.trans a.1, fun i hi => (b.2.1 i hi).trans (a.2.1 i hi), b.2.2⟩
theorem Drawn.refl {h : AH} {n : Nat} (d : DrawAt h n) : Drawn h n h := ⟨rfl, fun _ _ => rfl, d⟩
theorem DrawAt.lt {h : AH} {n : Nat} (d : DrawAt h n) : n < h.length := by
  obtain ⟨k, ns, at_, rest, seed, e1, e2, hk⟩ := d
  exact (List.getElem?_eq_some_iff.mp e1).1
theorem DrawAt.app {h : AH} {n : Nat} (d : DrawAt h n) (r : AH) : DrawAt (h ++ r) n := by
  have hn := d.lt
  obtain ⟨k, ns, at_, rest, seed, e1, e2, hk⟩ := d
  exact ⟨k, ns, at_, rest, seed, by rw [List.getElem?_append_left hn]; exact e1, by rw [List.getElem?_append_left (by omega)]; exact e2, hk⟩
/-- a draw over a longer heap -/
theorem Drawn.cut {h r h2 : AH} {n : Nat} (hn : n < h.length) (d : Drawn (h ++ r) n h2) : ∃ h', h2 = h' ++ r ∧ Drawn h n h' := by
  obtain ⟨d1, d2, k, ns, at_, rest, seed, e1, e2, hk⟩ := d
  have hl : h2.length = h.length + r.length := by
    rw [d1, List.length_append]
  have tl : h2.drop h.length = r := by
    apply List.ext_getElem?
    intro i
    rw [List.getElem?_drop, d2 _ (by omega), List.getElem?_append_right (by omega), Nat.add_sub_cancel_left]
  have sp : h2 = h2.take h.length ++ r := by
    conv => lhs; rw [← List.take_append_drop h.length h2]
    rw [tl]
  have lt : (h2.take h.length).length = h.length := by
    rw [List.length_take]
    omega
  refine ⟨h2.take h.length, sp, lt, fun i hi => ?_, k, ns, at_, rest, seed, ?_, ?_, hk⟩
  · by_cases h1 : i < h.length
    · rw [List.getElem?_take_of_lt h1, d2 i hi, List.getElem?_append_left h1]
    · rw [List.getElem?_eq_none (by omega), List.getElem?_eq_none (by omega)]
  · rw [List.getElem?_take_of_lt hn]
    exact e1
  · rw [List.getElem?_take_of_lt (by omega)]
    exact e2
theorem clBs_ints {n : Nat} : ∀ ns : List Int, clBs n (ns.map AV.int) = true
  | [] => rfl
  | _ :: r => clBs_ints r
theorem Drawn.cl {h h' : AH} {n : Nat} (c : clH h) (d : Drawn h n h') : clH h' := by
  obtain ⟨d1, d2, k, ns, at_, rest, seed, e1, e2, hk⟩ := d
  intro o ho
  obtain ⟨i, hi, rfl⟩ := List.getElem_of_mem ho
  by_cases hin : i = n
  · subst hin
    have e : h'[i] = .lst [.ref k, .int (at_ : Int), .int rest, .int seed, .int 3] := by
      rw [List.getElem?_eq_getElem hi] at e1
      exact Option.some.inj e1
    rw [e]
    have : k < h'.length := by omega
    simp [clO, clBs, clB, this]
  · have e := d2 i hin
    rw [List.getElem?_eq_getElem hi] at e
    have hm : h'[i] ∈ h := List.mem_of_getElem? e.symm
    rw [d1]
    exact c _ hm
theorem Drawn.get {h h' : AH} {n i : Nat} (d : Drawn h n h') (hi : i ≠ n) : h'[i]? = h[i]? := d.2.1 i hi
theorem clB_rat (n : Nat) (q : Rat) : clB n (rat q) = true := rfl
theorem clBs_rats {n : Nat} : ∀ qs : List Rat, clBs n (qs.map rat) = true
  | [] => rfl
  | q :: r => by
    show (clB n (rat q) && clBs n (r.map rat)) = true
    rw [clBs_rats r]
    rfl
/-- an end that leaves the drawing list turned and forgets what stood behind -/
theorem ret_drawn {h0 h' r : AH} {n : Nat} {R : AK} {x : AV} (c : clH h0) (d : Drawn h0 n h') (cx : clB h'.length x = true) (q : R x h') : retG h0 R x (h' ++ r) :=
  .inr (.inl ⟨h', r, rfl, d.1, d.cl c, cx, q⟩)
theorem ret_cut {h0 r : AH} {R : AK} {x : AV} (c : clH h0) (cx : clB h0.length x = true) (q : R x h0) : retG h0 R x (h0 ++ r) :=
  .inr (.inl ⟨h0, r, rfl, rfl, c, cx, q⟩)
/-- an end that gives a new flat list -/
theorem ret_list {h0 j1 j2 : AH} {R : AK} {xs : List AV} {k : Nat} (c : clH h0) (hk : k = h0.length + j1.length) (cx : clBs h0.length xs = true) (q : R (.ref h0.length) (h0 ++ [.lst xs])) : retG h0 R (.ref k) (h0 ++ (j1 ++ .lst xs :: j2)) :=
  .inr (.inr ⟨h0, j1, xs, j2, rfl, by rw [hk], rfl, c, cx, q⟩)
/-- a comprehension whose items are made one by one, with draws between: what holds of the items so far -/
theorem lcT_draw {it : ATI} {guard : AH → Prop} {g : ATG} {te : ATE} {vs : List Nat} {a : ASt} {items : List AV} {h0 h1 : AH} {n : Nat} {R : AK} (P : List AV → Prop) (hd : DrawAt h1 n) (hi : ∀ K, K items guard h1 → it a h0 K) (hz : items.length ≤ 1000000)
    (hg : ∀ h2 acc, guard (h2 ++ [.lst acc])) (h00 : P [])
    (hs : ∀ (i : Nat) x acc h2 (Q : AK), items[i]? = some x → acc.length = i → P acc → Drawn h1 n h2 → (∀ y h3, P (acc ++ [y]) → Drawn h2 n h3 → Q y (h3 ++ [.lst acc])) → g x (wipeA a vs) (h2 ++ [.lst acc]) fun a2 h3 => te a2 h3 Q)
    (q : ∀ ys h2, P ys → ys.length = items.length → Drawn h1 n h2 → R (.ref h1.length) (h2 ++ [.lst ys])) : lcT it g yesT te vs a h0 R := by
  refine hi _ ⟨fun i acc h => ∃ h2, h = h2 ++ [.lst acc] ∧ acc.length = i ∧ P acc ∧ Drawn h1 n h2, ⟨h1, rfl, rfl, h00, .refl hd⟩, fun i x acc h hx ⟨h2, e1, e2, e3, e4⟩ => ?_, fun acc h ⟨h2, e1, e2, e3, e4⟩ => ?_⟩
  · have hlt : i < items.length := (List.getElem?_eq_some_iff.mp hx).1
    subst e1
    refine ⟨hg h2 acc, hs i x acc h2 _ hx e2 e3 e4 fun y h3 p d => ?_⟩
    have hl : h3.length = h1.length := d.1.trans e4.1
    rw [← hl]
    exact ⟨get_l0, by omega, h3, set_l0, by simp [e2], p, e4.trans d⟩
  · subst e1
    have hl : h2.length = h1.length := e4.1
    refine ⟨hg _ _, ?_, q acc h2 e3 e2 e4⟩
    rw [← hl]
    exact get_l0
end AL

/-! CE: heaps that have grown: behind what was there, with draws and without. -/
namespace AL
open PySem
/-- more behind, nothing else changed -/
def Ext (h h' : AH) : Prop := ∃ r, h' = h ++ r
theorem Ext.refl {h : AH} : Ext h h := ⟨[], (List.append_nil h).symm⟩
theorem Ext.app {h h' : AH} (e : Ext h h') (r : AH) : Ext h (h' ++ r) := by
  obtain ⟨s, rfl⟩ := e
  exact ⟨s ++ r, List.append_assoc ..⟩
theorem Ext.set {h h' : AH} {p : Nat} {x : AO} (e : Ext h h') (hp : h.length ≤ p) : Ext h (h'.set p x) := by
  obtain ⟨s, rfl⟩ := e
  exact ⟨_, List.set_append_right _ _ hp⟩
theorem Ext.le {h h' : AH} (e : Ext h h') : h.length ≤ h'.length := by
  obtain ⟨s, rfl⟩ := e
  simp
theorem Ext.trans {h h1 h2 : AH} (a : Ext h h1) (b : Ext h1 h2) : Ext h h2 := by
  obtain ⟨s, rfl⟩ := b
  exact a.app s
theorem Ext.get {h h' : AH} {i : Nat} (e : Ext h h') (hi : i < h.length) : h'[i]? = h[i]? := by
  obtain ⟨s, rfl⟩ := e
  exact List.getElem?_append_left hi
theorem ret_ext {h0 h' : AH} {R : AK} {x : AV} (c : clH h0) (e : Ext h0 h') (cx : clB h0.length x = true) (q : R x h0) : retG h0 R x h' := by
  obtain ⟨r, rfl⟩ := e
  exact ret_cut c cx q
/-- draws, and more behind -/
def Grown (h : AH) (n : Nat) (h' : AH) : Prop := ∃ h1 r, h' = h1 ++ r ∧ Drawn h n h1
theorem Grown.refl {h : AH} {n : Nat} (d : DrawAt h n) : Grown h n h := ⟨h, [], (List.append_nil h).symm, .refl d⟩
theorem Grown.at {h h' : AH} {n : Nat} (g : Grown h n h') : DrawAt h' n := by
  obtain ⟨h1, r, rfl, d⟩ := g
  exact d.at.app r
theorem Grown.lt {h h' : AH} {n : Nat} (g : Grown h n h') : n < h.length := by
  obtain ⟨h1, r, rfl, d⟩ := g
  rw [← d.1]
  exact d.at.lt
theorem Grown.le {h h' : AH} {n : Nat} (g : Grown h n h') : h.length ≤ h'.length := by
  obtain ⟨h1, r, rfl, d⟩ := g
  rw [List.length_append, d.1]
  omega
theorem Grown.app {h h' : AH} {n : Nat} (g : Grown h n h') (r : AH) : Grown h n (h' ++ r) := by
  obtain ⟨h1, s, rfl, d⟩ := g
  exact ⟨h1, s ++ r, List.append_assoc .., d⟩
theorem Grown.set {h h' : AH} {n p : Nat} {x : AO} (g : Grown h n h') (hp : h.length ≤ p) : Grown h n (h'.set p x) := by
  obtain ⟨h1, s, rfl, d⟩ := g
  exact ⟨h1, _, List.set_append_right _ _ (by rw [d.1]; exact hp), d⟩
theorem Grown.draw {h h' h2 : AH} {n : Nat} (g : Grown h n h') (d2 : Drawn h' n h2) : Grown h n h2 := by
  have hn := g.lt
  obtain ⟨h1, s, rfl, d⟩ := g
  obtain ⟨h3, rfl, d3⟩ := d2.cut (by rw [d.1]; exact hn)
  exact ⟨h3, s, rfl, d.trans d3⟩
theorem Grown.get {h h' : AH} {n i : Nat} (g : Grown h n h') (hi : i < h.length) (hn : i ≠ n) : h'[i]? = h[i]? := by
  obtain ⟨h1, s, rfl, d⟩ := g
  rw [List.getElem?_append_left (by rw [d.1]; exact hi)]
  exact d.get hn
theorem ret_grown {h0 h' : AH} {n : Nat} {R : AK} {x : AV} (c : clH h0) (g : Grown h0 n h') (cx : clB h0.length x = true) (q : ∀ h1, Drawn h0 n h1 → R x h1) : retG h0 R x h' := by
  obtain ⟨h1, s, rfl, d⟩ := g
  exact ret_drawn c d (by rw [d.1]; exact cx) (q _ d)
/-- a new list at the end -/
theorem get_new {h : AH} {x : AO} : (h ++ [x])[h.length]? = some x := get_l0
theorem get_old {h : AH} {i : Nat} {x : AO} {r : AH} (e : h[i]? = some x) : (h ++ r)[i]? = some x := by
  rw [List.getElem?_append_left (List.getElem?_eq_some_iff.mp e).1]
  exact e
theorem get_lt {h : AH} {i : Nat} {x : AO} (e : h[i]? = some x) : i < h.length := (List.getElem?_eq_some_iff.mp e).1
theorem get_set {h : AH} {i p : Nat} {x y : AO} (e : h[i]? = some x) (hp : p ≠ i) : (h.set p y)[i]? = some x := by
  rw [List.getElem?_set_ne hp]
  exact e
theorem isz_lit {i : Int} {n : Nat} (hn : 1 ≤ n) (h : i.natAbs < 2 ^ n) : isz i ≤ n := isz_le hn h
theorem sz_small {n d : Int} {k : Nat} (hd : d ≠ 0) (h1 : isz n ≤ k) (h2 : isz d ≤ k) : sz (Rat.divInt n d) ≤ k := Nat.le_trans (sz_divInt hd) (Nat.max_le.mpr ⟨h1, h2⟩)
theorem rat_of_int (n : Int) : AV.tup [.int n, .int 1] = rat (n : Rat) := rfl
theorem sz_int (n : Int) : sz (n : Rat) = isz n := by
  show max (isz n) (isz 1) = _
  exact Nat.max_eq_left (isz_pos n)
theorem isR_rat (q : Rat) : isR (rat q) = true := by
  have h1 := den_pos q
  have h2 : q.num.natAbs.gcd ((q.den : Int)).natAbs = 1 := q.reduced
  show (decide (1 ≤ (q.den : Int)) && decide _) = true
  rw [decide_eq_true (show 1 ≤ (q.den : Int) by omega), Bool.true_and]
  exact decide_eq_true h2
theorem seen_rat (h : AH) (q : Rat) : seen h (rat q) := trivial
/-- is it a ratio: of a ratio -/
theorem isRsp_rat {h : AH} {q : Rat} {R E : AK} (hs : sz q ≤ 20000) (r : R (.bl true) h) : isRsp [rat q] h R E := by
  refine ⟨seen_rat h q, fun xs e y hy => ?_, fun n d e => ?_, by rw [isR_rat]; exact r⟩
  · cases e
    simp at hy
    rcases hy with rfl | rfl <;> trivial
  · cases e
    exact ⟨Nat.le_trans (sz_num q) hs, Nat.le_trans (sz_den q) hs⟩
theorem DrawAt.set {h : AH} {n p : Nat} {x : AO} (d : DrawAt h n) (hp : n < p) : DrawAt (h.set p x) n := by
  obtain ⟨k, ns, at_, rest, seed, e1, e2, hk⟩ := d
  exact ⟨k, ns, at_, rest, seed, get_set e1 (by omega), get_set e2 (by omega), hk⟩
theorem zr_len {lo : Int} {n : Nat} : (zrange lo n).length = n := by simp [zrange]
theorem zr_get {lo : Int} {n i : Nat} {x : AV} (h : (zrange lo n)[i]? = some x) : i < n ∧ x = .int (lo + (i : Int)) := by
  have hi : i < n := by
    have := (List.getElem?_eq_some_iff.mp h).1
    rwa [zr_len] at this
  refine ⟨hi, ?_⟩
  unfold zrange at h
  rw [List.getElem?_map, List.getElem?_range hi] at h
  exact (Option.some.inj h).symm
theorem en_len : ∀ (xs : List AV) (k : Nat), (enumV k xs).length = xs.length
  | [], _ => rfl
  | _ :: r, k => by
    show (enumV (k + 1) r).length + 1 = r.length + 1
    rw [en_len r]
theorem en_get : ∀ (xs : List AV) (k i : Nat) {x : AV}, (enumV k xs)[i]? = some x → ∃ y, xs[i]? = some y ∧ x = .tup [.int ((k + i : Nat) : Int), y]
  | [], _, _, _, h => by
    cases h
  | y :: r, k, 0, x, h => ⟨y, rfl, (Option.some.inj h).symm⟩
  | y :: r, k, i + 1, x, h => by
    obtain ⟨z, h1, h2⟩ := en_get r (k + 1) i h
    exact ⟨z, h1, by rw [h2]; congr 3; omega⟩
theorem atA_map {α : Type} {f : α → AV} {xs : List α} {i : Nat} {x : α} (h : xs[i]? = some x) : atA (xs.map f) (i : Int) = some (f x) := by
  show (xs.map f)[i]? = _
  rw [List.getElem?_map, h]
  rfl
theorem get_mem {α : Type} {xs : List α} {i : Nat} {x : α} (h : xs[i]? = some x) : x ∈ xs := List.mem_of_getElem? h
theorem rat_lit {q : Rat} {n d : Int} (h1 : q.num = n) (h2 : (q.den : Int) = d) : AV.tup [.int n, .int d] = rat q := by
  subst h1 h2
  rfl
theorem pick3 {h : AH} {n : Nat} {u v w : AV} {a b c : Rat} {R : AK} (ea : u = rat a) (eb : v = rat b) (ec : w = rat c) (d : DrawAt h n) (q : ∀ v h', v = a ∨ v = b ∨ v = c → Drawn h n h' → R (rat v) (h' ++ [.lst [rat a, rat b, rat c]])) (E : AK) : sp_law_pick [.ref n, .ref h.length] (h ++ [.lst [u, v, w]]) R E := by
  have hn := d.lt
  subst ea eb ec
  refine ⟨n, [rat a, rat b, rat c], rfl, ?_, by simp, by simp, fun z => ?_, d.app _, fun v h' hv dr => ?_⟩
  · simp only [seqOf, get_l0]
  · cases z
    omega
  · obtain ⟨h1, rfl, d1⟩ := dr.cut hn
    have : v = rat a ∨ v = rat b ∨ v = rat c := by simpa using hv
    rcases this with rfl | rfl | rfl
    · exact q a h1 (.inl rfl) d1
    · exact q b h1 (.inr (.inl rfl)) d1
    · exact q c h1 (.inr (.inr rfl)) d1
theorem x_iseq {te : ATE} {a : ASt} {h : AH} {n : Nat} {xs : List AV} {R : List AV → (AH → Prop) → AH → Prop} (he : ∀ Q : AK, te a h Q = Q (.ref n) h) (e : h[n]? = some (.lst xs)) : iSeqT te a h R = R xs (fun h => h[n]? = some (.lst xs)) h := by
  unfold iSeqT
  rw [he]
  simp only [e]
theorem e_add_lst {m n : Nat} {xs ys : List AV} {h : AH} {Q : AK} (e1 : h[m]? = some (.lst xs)) (e2 : h[n]? = some (.lst ys)) : addR (.ref m) (.ref n) h Q = (xs.length + ys.length ≤ 16777216 ∧ Q (.ref h.length) (h ++ [.lst (xs ++ ys)])) := by
  simp only [addR, e1, e2]
theorem whole_val {B : Int} {q : Rat} (h : ((q.den : Int)) ∣ B) : ((q.num * (B / (q.den : Int)) : Int) : Rat) = q * (B : Rat) := by
  obtain ⟨c, rfl⟩ := h
  have hd := den_pos q
  rw [Int.mul_ediv_cancel_left _ (by omega), Rat.intCast_mul, Rat.intCast_mul]
  have e : q * ((q.den : Int) : Rat) = (q.num : Rat) := by
    have e1 : q = (q.num : Rat) / ((q.den : Int) : Rat) := by
      rw [← Rat.divInt_eq_div, Rat.num_divInt_den]
    have e2 : ((q.den : Int) : Rat) ≠ 0 := fun z => by
      have := Rat.intCast_eq_zero_iff.mp z
      omega
    conv => lhs; lhs; rw [e1]
    exact Rat.div_mul_cancel e2
  rw [← e, Rat.mul_assoc]
theorem mul_den (q : Rat) : q * ((q.den : Int) : Rat) = (q.num : Rat) := by
  have h := whole_val (B := (q.den : Int)) (q := q) (Int.dvd_refl _)
  rw [← h, Int.ediv_self (by have := den_pos q; omega), Int.mul_one]
theorem atA_m1 {α : Type} {xs : List α} {v : α} (h : xs[xs.length - 1]? = some v) : atA xs (-1) = some v := by
  have h0 := (List.getElem?_eq_some_iff.mp h).1
  show (if 0 < xs.length then xs[xs.length - 1 - 0]? else none) = _
  rw [if_pos (by omega)]
  exact h
theorem atA_m2 {α : Type} {xs : List α} {v : α} (h2 : 2 ≤ xs.length) (h : xs[xs.length - 2]? = some v) : atA xs (-2) = some v := by
  show (if 1 < xs.length then xs[xs.length - 1 - 1]? else none) = _
  rw [if_pos (by omega)]
  exact h
theorem zip2_self : ∀ (xs : List AV) {i : Nat} {x : AV}, (zip2 xs xs)[i]? = some x → ∃ y, xs[i]? = some y ∧ x = .tup [y, y]
  | [], _, _, h => by cases h
  | y :: r, 0, x, h => ⟨y, rfl, (Option.some.inj h).symm⟩
  | y :: r, i + 1, x, h => zip2_self r h
def Side (s : Int) : Prop := s = 1 ∨ s = -1
theorem side_sz {s : Int} (h : Side s) : isz s = 1 := by
  rcases h with rfl | rfl <;> rfl
theorem side_mul {s : Int} (h : Side s) (i : Int) : isz (s * i) = isz i := by
  rcases h with rfl | rfl
  · rw [Int.one_mul]
  · rw [Int.neg_mul, Int.one_mul, isz_neg]
theorem side_ok {s : Int} (h : Side s) (i : Int) : mulOk s i := by
  refine .inl (.inl ?_)
  rcases h with rfl | rfl <;> exact ⟨by decide, by decide⟩
theorem rat_unit {s m : Int} (h : Side s) (hm : 0 < m) : AV.tup [.int s, .int m] = rat (Rat.divInt s m) := by
  rw [rat_divInt hm]
  have e : s.natAbs.gcd m.natAbs = 1 := by
    rcases h with rfl | rfl <;> exact Nat.gcd_one_left _
  rw [e]
  simp
theorem side_of {s side : Int} (h : side = 1 - 2 * s) (s0 : 0 ≤ s) (s1 : s < 2) : Side side := by
  have : s = 0 ∨ s = 1 := by omega
  rcases this with rfl | rfl
  · exact .inl h
  · exact .inr h
end AL

/-! CB2: bodies, printed by gen.py. -/
namespace AL
open PySem
def b_law_same (dep : Nat) : ATS := (seqT (ifS (truT (cbT instR (consT (varT 1) (consT (cT (.ty "tuple")) nilT))))
    (seqT (ifS (orT (notT (truT (cbT instR (consT (varT 0) (consT (cT (.ty "tuple")) nilT))))) (cmpT (opT neR (cbT lenR (consT (varT 0) nilT)) (cbT lenR (consT (varT 1) nilT)))))
    (retT (cT (.bl false)))
    nextT)
    (retT (cbT allR (consT (lcT (iZipT (consT (varT 0) (consT (varT 1) nilT))) (gTupT 2 (gNmsT [2, 3])) yesT (callT (sp_law_same dep) (fun _ _ => False) (consT (varT 2) (consT (varT 3) nilT))) [2, 3]) nilT))))
    nextT)
    (seqT (ifS (orT (cmpT (opT isNR (varT 1) (cT .non))) (cmpT (opT isNR (varT 0) (cT .non))))
    (retT (andV (opT isNR (varT 1) (cT .non)) (opT isNR (varT 0) (cT .non))))
    nextT)
    (seqT (ifS (orT (truT (cbT instR (consT (varT 1) (consT (cT (.ty "bool")) nilT)))) (truT (cbT instR (consT (varT 0) (consT (cT (.ty "bool")) nilT)))))
    (retT (andV (cbT instR (consT (varT 1) (consT (cT (.ty "bool")) nilT))) (andV (cbT instR (consT (varT 0) (consT (cT (.ty "bool")) nilT))) (opT eqR (varT 0) (varT 1)))))
    nextT)
    (seqT (ifS (truT (cbT instR (consT (varT 1) (consT (cT (.ty "int")) nilT))))
    (retT (andV (cbT instR (consT (varT 0) (consT (cT (.ty "int")) nilT))) (opT eqR (varT 0) (varT 1))))
    nextT)
    (retT (andV (cbT instR (consT (varT 0) (consT (cT (.ty "str")) nilT))) (opT eqR (varT 0) (varT 1))))))))
def b_law_lt : ATS := (retT (opT ltR (opT mulR (opT ixR (varT 0) (cT (.int 0))) (opT ixR (varT 1) (cT (.int 1)))) (opT mulR (opT ixR (varT 1) (cT (.int 0))) (opT ixR (varT 0) (cT (.int 1))))))
end AL

/-! CM: the laws' own look for sameness. -/
namespace AL
open PySem
local macro_rules | `(tactic| get_elem_tactic_trivial) => `(tactic| simp -implicitDefEqProofs only [e_tru_non, e_tru_bl, e_tru_int, e_tru_tup, e_tru_rol, e_bl_bl, e_add_int, e_add_ib, e_add_str, e_add_tup, e_sub_int, e_mul_int, e_fdiv_int, e_mod_int, e_pow_int, e_shl_int, e_neg_int, e_iadd_int, e_iadd_str, e_isub_int, e_aeq_int, e_aeq_str, e_aeq_bl, e_aeq_non, e_aeq_tup, e_aeqs_nil, e_aeqs_cons, e_aeqs_nc, e_aeqs_cn, e_plain_int, e_plain_bl, e_plain_non, e_plain_str, e_plain_tup, e_eq, e_ne, e_lt_int, e_lt_str, e_le_int, e_gt_int, e_ge_int, e_isN, e_notN, e_isNon_int, e_isNon_str, e_isNon_tup, e_isNon_non, e_isNon_ref, e_isNon_bl, e_ix0, e_ix1, e_ix2, e_ix3, e_ix4, e_len_tup, e_len_rol, e_len_str, e_abs, e_int_int, e_int_bl, e_str_int, e_gcd, e_tuple_tup, e_list_tup, e_inst_ii, e_inst_ib, e_inst_tt, e_inst_it, e_inst_ti, e_inst_tb, e_inst_bb, e_inst_bi, e_inst_bt, e_inst_ss, e_inst_st, e_inst_si, e_inst_nt, e_gTup, e_gCons, e_gNil, e_gNms0, e_gNms1, e_gName, atA_0, atA_1, atA_2, atA_3, atA_4, get_l0, get_l1, get_l2, get_l3, set_l0, set_l1, set_l2, app_l, len_l0, len_l1, len_l2, x_c, x_var, x_op, x_un, x_nil, x_cons, x_tup, x_lst, x_call, x_cb, x_mt, x_tru, x_cmp, x_and, x_or, x_not, x_andV, x_orV, x_notV, x_if, x_chain, x_next, x_seq, x_brk, x_cont, x_drop, x_ret, x_retN, x_ifS, x_asg, x_gSub, x_par, x_aug, x_augS, x_rt, x_nx, x_yes, gv, sv, wipeA, lenLe, true_and, and_true, if_true, if_false, ite_true, ite_false, beq_iff_eq, decide_eq_true_eq, Bool.false_eq_true, Bool.true_eq_false, not_false_eq_true, Bool.not_eq_true', decide_eq_false_iff_not, Bool.not_true, Bool.not_false, List.isEmpty_cons, List.isEmpty_nil, List.cons_append, List.nil_append, List.length_cons, List.length_nil])
theorem zp_len : ∀ (xs : List AV), (zip2 xs xs).length = xs.length
  | [] => rfl
  | _ :: r => by
    show (zip2 r r).length + 1 = r.length + 1
    rw [zp_len r]
theorem blsOf_map : ∀ bs : List Bool, blsOf (bs.map AV.bl) = some bs
  | [] => rfl
  | b :: r => by
    show (blsOf (r.map AV.bl)).map (b :: ·) = _
    rw [blsOf_map r]
    rfl
theorem e_all {h : AH} {n : Nat} {bs : List Bool} {Q : AK} (e : h[n]? = some (.lst (bs.map AV.bl))) : allR [.ref n] h Q = Q (.bl (bs.all id)) h := by
  simp only [allR, e, blsOf_map]
theorem e_any {h : AH} {n : Nat} {bs : List Bool} {Q : AK} (e : h[n]? = some (.lst (bs.map AV.bl))) : anyR [.ref n] h Q = Q (.bl (bs.any id)) h := by
  simp only [anyR, e, blsOf_map]
theorem pure_law_same (dep : Nat) (x y : AV) (h : AH) (R : AK) (c1 : clH h) (c2 : clBs h.length [x, y] = true) (q : sp_law_same (dep + 1) [x, y] h R (fun _ _ => False)) : b_law_same dep (ends (retG h R)) [some x, some y, none, none] h := by
  obtain ⟨rfl, hd, q⟩ := q
  unfold b_law_same
  get_elem_tactic_trivial
  cases x with
  | tup xs =>
    get_elem_tactic_trivial
    rw [if_neg (by simp)]
    have hd2 : (decide (xs.length ≤ 1000000) && xs.all (dat dep)) = true := hd
    rw [Bool.and_eq_true] at hd2
    have hl := of_decide_eq_true hd2.1
    refine lcT_map (h1 := h) (items := zip2 xs xs) (ys := (List.replicate xs.length true).map AV.bl) (guard := fun _ => True) (fun K k => ?_) (by rw [zp_len]; simp) (by rw [zp_len]; exact hl) (fun _ => trivial) (fun i z y acc Q hx hy hq => ?_) ?_
    · unfold iZipT
      get_elem_tactic_trivial
      exact k
    · obtain ⟨v, hv, rfl⟩ := zip2_self _ hx
      obtain ⟨b, hb, rfl⟩ := map_get hy
      have : b = true := List.eq_of_mem_replicate (get_mem hb)
      subst this
      get_elem_tactic_trivial
      exact ⟨rfl, List.all_eq_true.mp hd2.2 v (get_mem hv), hq⟩
    · rw [e_all get_l0]
      have e : (List.replicate xs.length true).all id = true := by
        rw [List.all_eq_true]
        intro b hb
        rw [List.eq_of_mem_replicate hb]
        rfl
      rw [e]
      exact ret_cut c1 rfl q
  | non =>
    exact retG_of q
  | bl b =>
    get_elem_tactic_trivial
    exact retG_of (by simpa using q)
  | int i =>
    get_elem_tactic_trivial
    exact retG_of (by simpa using q)
  | str s =>
    have hs : s.cps.all (· < 0x110000) = true := hd
    get_elem_tactic_trivial
    exact ⟨hs, hs, retG_of (by simpa using q)⟩
  | ref n => exact Bool.noConfusion hd
  | ty n => exact Bool.noConfusion hd
  | rol xs => exact Bool.noConfusion hd
theorem pure_is_ratio (x : AV) (h : AH) (R : AK) (c1 : clH h) (c2 : clBs h.length [x] = true) (q : sp_is_ratio [x] h R (fun _ _ => False)) : b_is_ratio (ends (retG h R)) [some x, none, none] h := by
  obtain ⟨hx, hs, hb, q⟩ := q
  unfold b_is_ratio
  get_elem_tactic_trivial
  have no : isR x = false → retG h R (.bl false) h := fun e => retG_of (by rw [← e]; exact q)
  cases x with
  | tup xs =>
    get_elem_tactic_trivial
    match xs, hs, hb, q, no with
    | [], _, _, _, no => simpa using no (isR_len _ (by simp))
    | [_], _, _, _, no => simpa using no (isR_len _ (by simp))
    | _ :: _ :: _ :: r, _, _, _, no =>
      have e : ¬ ((r.length : Int) + 1 + 1 + 1 = 2) := by omega
      simpa [e] using no (isR_len _ (by simp))
    | [y, z], hs, hb, q, no =>
      have sy := hs _ rfl y (by simp)
      have sz := hs _ rfl z (by simp)
      get_elem_tactic_trivial
      refine ⟨sy, ?_⟩
      cases y with
      | int n =>
        simp only [isI]
        get_elem_tactic_trivial
        refine ⟨sz, ?_⟩
        cases z with
        | int d =>
          simp only [isI]
          get_elem_tactic_trivial
          have e : isR (.tup [.int n, .int d]) = (decide (1 ≤ d) && decide (n.natAbs.gcd d.natAbs = 1)) := rfl
          by_cases hd : 1 ≤ d
          · rw [if_pos hd]
            have e2 : (((n.natAbs.gcd d.natAbs : Nat) : Int) == 1) = isR (.tup [.int n, .int d]) := by
              rw [e, decide_eq_true hd, Bool.true_and]
              exact beq_dec _
            rw [e2]
            exact retG_of q
          · rw [if_neg hd]
            exact no (by rw [e, decide_eq_false hd]; rfl)
        | _ =>
          simp only [isI]
          get_elem_tactic_trivial
          exact no rfl
      | _ =>
        simp only [isI]
        get_elem_tactic_trivial
        exact no (by cases z <;> rfl)
  | ref n =>
    have e : h[n]? = some h[n] := List.getElem?_eq_getElem hx
    simp only [instR, tyName, e]
    cases h[n] <;> exact no rfl
  | ty n => exact hx.elim
  | _ => exact no rfl
theorem pure_law_lt (x y : AV) (h : AH) (R : AK) (c1 : clH h) (c2 : clBs h.length [x, y] = true) (q : sp_law_lt [x, y] h R (fun _ _ => False)) : b_law_lt (ends (retG h R)) [some x, some y] h := by
  obtain ⟨a, b, rfl, rfl, hs, q⟩ := q
  have t : Two a b := ⟨hs⟩
  unfold b_law_lt rat
  get_elem_tactic_trivial
  refine ⟨t.nd, t.dn, retG_of ?_⟩
  have lt : decide (a < b) = decide (a.num * b.den < b.num * a.den) := by simp only [Rat.lt_iff]
  rw [← lt]
  exact q
theorem dat_rat (n : Nat) (q : Rat) : dat (n + 2) (rat q) = true := rfl
end AL

/-! AX: more operations over plain data: slices, more methods and built-ins. -/
namespace AL
open PySem
abbrev ATO := ASt → AH → (Option Int → AH → Prop) → Prop
def noneT : ATO := fun _ h Q => Q none h
def someT (te : ATE) : ATO := fun a h Q => te a h fun x h1 => match x with
  | .int i => Q (some i) h1
  | _ => False
def sixA (n d : Nat) : Option Int → Nat
  | none => d
  | some v => if v < 0 then (v + (n : Int)).toNat else min v.toNat n
def cutA {α : Type} (xs : List α) (lo hi : Option Int) : List α := (xs.drop (sixA xs.length 0 lo)).take (sixA xs.length xs.length hi - sixA xs.length 0 lo)
def sliceR (x : AV) (lo hi : Option Int) (h : AH) (Q : AK) : Prop := match x with
  | .tup xs => Q (.tup (cutA xs lo hi)) h
  | .ref n => match h[n]? with
    | some (.lst xs) => Q (.ref h.length) (h ++ [.lst (cutA xs lo hi)])
    | _ => False
  | .rol xs => Q (.ref h.length) (h ++ [.lst (cutA xs lo hi)])
  | _ => False
def sliceT (te : ATE) (tl th : ATO) : ATE := fun a h Q => te a h fun x h1 => tl a h1 fun l h2 => th a h2 fun u h3 => sliceR x l u h3 Q
def reverseR : ARM
  | .ref n, [], h, Q => match h[n]? with
    | some (.lst xs) => Q .non (h.set n (.lst xs.reverse))
    | _ => False
  | _, _, _, _ => False
def popR : ARM
  | .ref n, [], h, Q => match h[n]? with
    | some (.lst xs) => (match xs[xs.length - 1]? with
      | some y => Q y (h.set n (.lst xs.dropLast))
      | none => False)
    | _ => False
  | _, _, _, _ => False
def extendR : ARM
  | .ref n, [.ref k], h, Q => match h[n]?, h[k]? with
    | some (.lst xs), some (.lst ys) => xs.length + ys.length ≤ 16777216 ∧ Q .non (h.set n (.lst (xs ++ ys)))
    | _, _ => False
  | _, _, _, _ => False
def max2R : ARL
  | [.int i, .int j], h, Q => Q (.int (if j > i then j else i)) h
  | _, _, _ => False
def min2R : ARL
  | [.int i, .int j], h, Q => Q (.int (if j < i then j else i)) h
  | _, _, _ => False
section
variable {n k : Nat} {h : AH} {Q : AK} {xs ys : List AV} {y : AV} {te : ATE} {tl th : ATO} {a : ASt} {i j : Int} {lo hi : Option Int} {O : Option Int → AH → Prop}
theorem e_reverse (e : h[n]? = some (.lst xs)) : reverseR (.ref n) [] h Q = Q .non (h.set n (.lst xs.reverse)) := by simp only [reverseR, e]
theorem e_pop (e : h[n]? = some (.lst xs)) (e2 : xs[xs.length - 1]? = some y) : popR (.ref n) [] h Q = Q y (h.set n (.lst xs.dropLast)) := by simp only [popR, e, e2]
theorem e_extend (e : h[n]? = some (.lst xs)) (e2 : h[k]? = some (.lst ys)) : extendR (.ref n) [.ref k] h Q = (xs.length + ys.length ≤ 16777216 ∧ Q .non (h.set n (.lst (xs ++ ys)))) := by simp only [extendR, e, e2]
theorem e_max2 : max2R [.int i, .int j] h Q = Q (.int (if j > i then j else i)) h := rfl
theorem e_min2 : min2R [.int i, .int j] h Q = Q (.int (if j < i then j else i)) h := rfl
theorem x_slice : sliceT te tl th a h Q = te a h fun x h1 => tl a h1 fun l h2 => th a h2 fun u h3 => sliceR x l u h3 Q := rfl
theorem x_oNone : noneT a h O = O none h := rfl
theorem x_oSome : someT te a h O = te a h fun x h1 => match x with
  | .int i => O (some i) h1
  | _ => False := rfl
theorem e_sl_tup : sliceR (.tup xs) lo hi h Q = Q (.tup (cutA xs lo hi)) h := rfl
theorem e_sl_rol : sliceR (.rol xs) lo hi h Q = Q (.ref h.length) (h ++ [.lst (cutA xs lo hi)]) := rfl
theorem e_sl_lst (e : h[n]? = some (.lst xs)) : sliceR (.ref n) lo hi h Q = Q (.ref h.length) (h ++ [.lst (cutA xs lo hi)]) := by simp only [sliceR, e]
end
theorem aeqs_self : ∀ (xs : List AV), (∀ x ∈ xs, aeq x x = true) → aeqs xs xs = true
  | [], _ => e_aeqs_nil
  | x :: r, h => by
    rw [e_aeqs_cons, h x (by simp), aeqs_self r fun y hy => h y (by simp [hy])]
    rfl
theorem aeq_self : ∀ (n : Nat) (x : AV), plainN n x = true → aeq x x = true
  | n, .tup xs, h => by
    rw [e_aeq_tup]
    cases n with
    | zero => cases h
    | succ n => exact aeqs_self xs fun y hy => aeq_self n y (List.all_eq_true.mp h y hy)
  | _, .non, _ => e_aeq_non
  | _, .bl b, _ => by
    rw [e_aeq_bl]
    exact beq_self_eq_true b
  | _, .int i, _ => by
    rw [e_aeq_int]
    exact beq_self_eq_true i
  | _, .str x, _ => by
    rw [e_aeq_str]
    exact beq_self_eq_true x
  | n, .ref _, h => by cases n <;> cases h
  | n, .ty _, h => by cases n <;> cases h
  | n, .rol _, h => by cases n <;> cases h
/-- equal pairs by place -/
theorem zp_get : ∀ (xs ys : List AV) {i : Nat} {x : AV}, (zip2 xs ys)[i]? = some x → ∃ a b, xs[i]? = some a ∧ ys[i]? = some b ∧ x = .tup [a, b]
  | [], ys, _, _, h => by cases ys <;> cases h
  | _ :: _, [], _, _, h => by cases h
  | a :: r, b :: t, 0, x, h => ⟨a, b, rfl, rfl, (Option.some.inj h).symm⟩
  | a :: r, b :: t, i + 1, x, h => zp_get r t h
theorem zp2_len : ∀ (xs ys : List AV), xs.length = ys.length → (zip2 xs ys).length = xs.length
  | [], ys, _ => by cases ys <;> rfl
  | _ :: _, [], e => by cases e
  | a :: r, b :: t, e => by
    show (zip2 r t).length + 1 = r.length + 1
    rw [zp2_len r t (Nat.succ.inj e)]
theorem cutA_from {α : Type} (xs : List α) (k : Nat) : cutA xs (some (k : Int)) none = xs.drop k := by
  unfold cutA sixA
  simp only
  rw [if_neg (by omega), Int.toNat_natCast]
  by_cases h : k ≤ xs.length
  · rw [Nat.min_eq_left h]
    exact List.take_of_length_le (by rw [List.length_drop]; omega)
  · rw [Nat.min_eq_right (by omega), Nat.sub_self, List.take_zero, List.drop_eq_nil_of_le (by omega)]
theorem cutA_to {α : Type} (xs : List α) (k : Nat) : cutA xs none (some (k : Int)) = xs.take k := by
  unfold cutA sixA
  simp only
  rw [if_neg (by omega), Int.toNat_natCast, List.drop_zero, Nat.sub_zero]
  by_cases h : k ≤ xs.length
  · rw [Nat.min_eq_left h]
  · rw [Nat.min_eq_right (by omega), List.take_of_length_le (Nat.le_refl _), List.take_of_length_le (by omega)]
/-- zip of two, each a list or a tuple -/
def iZipMT (ta : ATA) : ATI := fun a h R => ta a h fun vs h1 => match vs with
  | [x, y] => (match seqOf x h1, seqOf y h1 with
    | some xs, some ys => R (zip2 xs ys) (fun h => seqOf x h = some xs ∧ seqOf y h = some ys) h1
    | _, _ => False)
  | _ => False
theorem x_zipM {ta : ATA} {a : ASt} {h : AH} {x y : AV} {xs ys : List AV} {R : List AV → (AH → Prop) → AH → Prop} (he : ∀ L : List AV → AH → Prop, ta a h L = L [x, y] h) (e1 : seqOf x h = some xs) (e2 : seqOf y h = some ys) : iZipMT ta a h R = R (zip2 xs ys) (fun h => seqOf x h = some xs ∧ seqOf y h = some ys) h := by
  unfold iZipMT
  rw [he]
  simp only [e1, e2]
/-- a list or a tuple that is walked -/
theorem x_iseq_of {te : ATE} {a : ASt} {h : AH} {x : AV} {xs : List AV} {R : List AV → (AH → Prop) → AH → Prop} (he : ∀ Q : AK, te a h Q = Q x h) (e : seqOf x h = some xs) (q : ∀ guard : AH → Prop, (∀ h', seqOf x h' = some xs → guard h') → R xs guard h) : iSeqT te a h R := by
  unfold iSeqT
  rw [he]
  cases x with
  | tup ys =>
    cases e
    exact q _ fun _ _ => trivial
  | rol ys =>
    cases e
    exact q _ fun _ _ => trivial
  | ref n =>
    simp only [seqOf] at e
    split at e
    · rename_i ys e1
      cases e
      simp only [e1]
      refine q _ fun h' z => ?_
      simp only [seqOf] at z
      split at z
      · rename_i zs e2
        cases z
        exact e2
      · cases z
    · cases e
  | _ => cases e
theorem seq_tup {xs : List AV} {h : AH} : seqOf (.tup xs) h = some xs := rfl
theorem seq_ref {n : Nat} {xs : List AV} {h : AH} (e : h[n]? = some (.lst xs)) : seqOf (.ref n) h = some xs := by simp only [seqOf, e]
/-- a comprehension over a list or a tuple, item for item, the heap left -/
theorem lcT_seq {te el : ATE} {g : ATG} {vs : List Nat} {a : ASt} {x : AV} {xs ys : List AV} {h : AH} {R : AK} (he : ∀ Q : AK, te a h Q = Q x h) (e : seqOf x h = some xs) (hl : xs.length = ys.length) (hz : xs.length ≤ 1000000)
    (hs : ∀ (i : Nat) z y acc (Q : AK), xs[i]? = some z → ys[i]? = some y → Q y (h ++ [.lst acc]) → g z (wipeA a vs) (h ++ [.lst acc]) fun a2 h3 => el a2 h3 Q)
    (q : R (.ref h.length) (h ++ [.lst ys])) : lcT (iSeqT te) g yesT el vs a h R := by
  cases x with
  | tup zs =>
    cases e
    exact lcT_map (h1 := h) (guard := fun _ => True) (fun K k => by unfold iSeqT; rw [he]; exact k) hl hz (fun _ => trivial) hs q
  | rol zs =>
    cases e
    exact lcT_map (h1 := h) (guard := fun _ => True) (fun K k => by unfold iSeqT; rw [he]; exact k) hl hz (fun _ => trivial) hs q
  | ref n =>
    have e1 : h[n]? = some (.lst xs) := by
      simp only [seqOf] at e
      split at e
      · rename_i ys e1
        cases e
        exact e1
      · cases e
    exact lcT_map (h1 := h) (guard := fun h' => h'[n]? = some (.lst xs)) (fun K k => by rw [x_iseq he e1]; exact k) hl hz (fun _ => get_old e1) hs q
  | _ => cases e
/-- what a grown heap keeps of a row -/
theorem seq_old {x : AV} {xs : List AV} {h r : AH} (e : seqOf x h = some xs) : seqOf x (h ++ r) = some xs := by
  cases x with
  | ref n =>
    simp only [seqOf] at e ⊢
    split at e
    · rename_i ys e1
      cases e
      rw [get_old e1]
    · cases e
  | _ => exact e
theorem tuple_seq {x : AV} {xs : List AV} {h : AH} {Q : AK} (e : seqOf x h = some xs) : tupleR [x] h Q = Q (.tup xs) h := by
  cases x with
  | tup ys => cases e; rfl
  | rol ys => cases e; rfl
  | ref n =>
    simp only [seqOf] at e
    split at e
    · rename_i ys e1
      cases e
      exact e_tuple_lst e1
    · cases e
  | _ => cases e
theorem list_seq {x : AV} {xs : List AV} {h : AH} {Q : AK} (e : seqOf x h = some xs) : listR [x] h Q = Q (.ref h.length) (h ++ [.lst xs]) := by
  cases x with
  | tup ys => cases e; rfl
  | rol ys => cases e; rfl
  | ref n =>
    simp only [seqOf] at e
    split at e
    · rename_i ys e1
      cases e
      exact e_list_lst e1
    · cases e
  | _ => cases e
/-- a comprehension, its items known -/
def lcB (g : ATG) (tt : ATT) (te : ATE) (vs : List Nat) (a : ASt) (R : AK) : List AV → (AH → Prop) → AH → Prop := fun items guard h1 => lcT (fun _ _ K => K items guard h1) g tt te vs a h1 R
theorem x_lcT {it : ATI} {g : ATG} {tt : ATT} {te : ATE} {vs : List Nat} {a : ASt} {h : AH} {R : AK} : lcT it g tt te vs a h R = it a h (lcB g tt te vs a R) := rfl
end AL

/-! AY: more operations over plain data: sums; loops that look at each item. -/
namespace AL
open PySem
def zsOf : List AV → Option (List Int)
  | [] => some []
  | .int i :: r => (zsOf r).map (i :: ·)
  | _ :: _ => none
theorem zsOf_ints : ∀ xs : List Int, zsOf (xs.map AV.int) = some xs
  | [] => rfl
  | x :: r => by
    show (zsOf (r.map AV.int)).map (x :: ·) = _
    rw [zsOf_ints r]
    rfl
def sumR : ARL
  | [.ref n], h, Q => match h[n]? with
    | some (.lst xs) => (match zsOf xs with
      | some is => Q (.int is.sum) h
      | none => False)
    | _ => False
  | _, _, _ => False
theorem e_sum {n : Nat} {xs : List Int} {h : AH} {Q : AK} (e : h[n]? = some (.lst (xs.map AV.int))) : sumR [.ref n] h Q = Q (.int xs.sum) h := by
  simp only [sumR, e, zsOf_ints]
theorem cutA_ft {α : Type} (xs : List α) (a b : Nat) : cutA xs (some (a : Int)) (some (b : Int)) = (xs.drop a).take (b - a) := by
  unfold cutA sixA
  simp only
  rw [if_neg (by omega), if_neg (by omega), Int.toNat_natCast, Int.toNat_natCast]
  by_cases h : a ≤ xs.length
  · rw [Nat.min_eq_left h]
    by_cases h2 : b ≤ xs.length
    · rw [Nat.min_eq_left h2]
    · rw [Nat.min_eq_right (by omega), List.take_of_length_le (by rw [List.length_drop]; omega), List.take_of_length_le (by rw [List.length_drop]; omega)]
  · rw [List.drop_eq_nil_of_le (as := xs) (i := a) (by omega), List.drop_eq_nil_of_le (by omega)]
    simp
theorem all_step {p : AV → Bool} {items : List AV} {i : Nat} {x : AV} (e : items[i]? = some x) (h : (items.take i).all p = true) (hx : p x = true) : (items.take (i + 1)).all p = true := by
  rw [List.take_add_one, e]
  simp [h, hx]
theorem all_bad {p : AV → Bool} {items : List AV} {i : Nat} {x : AV} (e : items[i]? = some x) (hx : p x = false) : items.all p = false := by
  rw [List.all_eq_false]
  exact ⟨x, List.mem_of_getElem? e, by rw [hx]; decide⟩
theorem all_end {p : AV → Bool} {items : List AV} (h : (items.take items.length).all p = true) : items.all p = true := by
  rw [List.take_length] at h
  exact h
end AL

/-! AZ: more operations over plain data: a row turned, a range as a list, two lists compared. -/
namespace AL
open PySem
/-- t[::-1] of a tuple -/
def revT (te tk : ATE) : ATE := fun a h Q => te a h fun x h1 => tk a h1 fun k h2 => match x, k with
  | .tup xs, .int (-1) => Q (.tup xs.reverse) h2
  | _, _ => False
/-- list(range(n)) -/
def lstRgT (te : ATE) : ATE := fun a h Q => te a h fun x h1 => match x with
  | .int n => 0 ≤ n ∧ n ≤ 1000000 ∧ Q (.ref h1.length) (h1 ++ [.lst (zrange 0 n.toNat)])
  | _ => False
/-- two lists of plain data, unlike -/
def neLR : AR2
  | .ref m, .ref n, h, Q => match h[m]?, h[n]? with
    | some (.lst xs), some (.lst ys) => xs.all (plainN 40) = true ∧ ys.all (plainN 40) = true ∧ Q (.bl (!aeqs xs ys)) h
    | _, _ => False
  | _, _, _, _ => False
theorem e_neL {m n : Nat} {xs ys : List AV} {h : AH} {Q : AK} (e1 : h[m]? = some (.lst xs)) (e2 : h[n]? = some (.lst ys)) : neLR (.ref m) (.ref n) h Q = (xs.all (plainN 40) = true ∧ ys.all (plainN 40) = true ∧ Q (.bl (!aeqs xs ys)) h) := by
  simp only [neLR, e1, e2]
theorem x_rev {te tk : ATE} {a : ASt} {h : AH} {Q : AK} : revT te tk a h Q = te a h fun x h1 => tk a h1 fun k h2 => match x, k with
  | .tup xs, .int (-1) => Q (.tup xs.reverse) h2
  | _, _ => False := rfl
theorem x_lstRg {te : ATE} {a : ASt} {h : AH} {Q : AK} : lstRgT te a h Q = te a h fun x h1 => match x with
  | .int n => 0 ≤ n ∧ n ≤ 1000000 ∧ Q (.ref h1.length) (h1 ++ [.lst (zrange 0 n.toNat)])
  | _ => False := rfl
end AL

/-! AD: more operations over plain data: a new dict, the keys of a dict in order. -/
namespace AL
open PySem
/-- {} -/
def dnewT : ATE := fun _ h Q => Q (.ref h.length) (h ++ [.dct []])
/-- sorted(d) of a dict with ints as keys -/
def sortedR : ARL
  | [.ref n], h, Q => match h[n]? with
    | some (.dct kvs) => ∃ ks : List Int, kvs.map (·.1) = ks.map Sum.inl ∧ ks.length ≤ 1000000 ∧ ∀ ys : List Int, ys.Perm ks → ys.Pairwise (· ≤ ·) → Q (.ref h.length) (h ++ [.lst (ys.map AV.int)])
    | _ => False
  | _, _, _ => False
theorem x_dnew {a : ASt} {h : AH} {Q : AK} : dnewT a h Q = Q (.ref h.length) (h ++ [.dct []]) := rfl
theorem e_sorted {n : Nat} {kvs : List (Sum Int Str × AV)} {h : AH} {Q : AK} (e : h[n]? = some (.dct kvs)) : sortedR [.ref n] h Q = ∃ ks : List Int, kvs.map (·.1) = ks.map Sum.inl ∧ ks.length ≤ 1000000 ∧ ∀ ys : List Int, ys.Perm ks → ys.Pairwise (· ≤ ·) → Q (.ref h.length) (h ++ [.lst (ys.map AV.int)]) := by
  simp only [sortedR, e]
/-- a dict whose values are all True -/
def marks (ks : List Int) : List (Sum Int Str × AV) := ks.map fun k => (.inl k, .bl true)
theorem marks_put (ks : List Int) (k : Int) : kvPut (marks ks) (.inl k) (.bl true) = marks (if k ∈ ks then ks else ks ++ [k]) := by
  unfold kvPut
  by_cases h : k ∈ ks
  · rw [if_pos h, if_pos (by
      rw [List.any_eq_true]
      exact ⟨_, List.mem_map.mpr ⟨k, h, rfl⟩, by simp⟩)]
    unfold marks
    rw [List.map_map]
    refine List.map_congr_left fun x _ => ?_
    show (if Sum.inl x = Sum.inl k then _ else _) = _
    split
    · rfl
    · rfl
  · rw [if_neg h, if_neg (by
      rw [List.any_eq_true]
      rintro ⟨kv, h1, h2⟩
      obtain ⟨x, hx, rfl⟩ := List.mem_map.mp h1
      simp at h2
      subst h2
      exact h hx)]
    unfold marks
    rw [List.map_append]
    rfl
theorem marks_keys (ks : List Int) : (marks ks).map (·.1) = ks.map Sum.inl := by
  unfold marks
  rw [List.map_map]
  rfl
theorem e_set_dct {n : Nat} {kvs : List (Sum Int Str × AV)} {h : AH} {S : AH → Prop} {k : Int} {v : AV} (e : h[n]? = some (.dct kvs)) : setR (.ref n) (.int k) v h S = (kvs.length < 16777216 ∧ S (h.set n (.dct (kvPut kvs (.inl k) v)))) := by
  simp only [setR, e, keyOf]
end AL

/-! AL1: plain values and heaps stand for the layer's values and heaps; each rule of the layer lifted. -/
namespace AL
open PySem PySem.Spec PyProof.Rows L2

/-! ### a read-only list; what a value stands for -/
def SqR (K : PySem.W.Frag) (H : Hp) (a : Addr) (xs : List V) : Prop := (∃ o, H a = some (.frz o (.lst xs))) ∨ SqL K (fun _ => none) a xs
inductive Rep (K : PySem.W.Frag) (H : Hp) (m : List Addr) : V → AV → Prop
  | non : Rep K H m .non .non
  | bl (b : Bool) : Rep K H m (.bl b) (.bl b)
  | int (i : Int) : Rep K H m (.int i) (.int i)
  | str (x : Str) : Rep K H m (.str x) (.str x)
  | ty (n : String) : Rep K H m (.ty n) (.ty n)
  | ref {n : Nat} {p : Addr} : m[n]? = some p → Rep K H m (.ref p) (.ref n)
  | tup {p : Addr} {vs : List V} {xs : List AV} : SqT K H p vs → vs.length = xs.length → (∀ (i : Nat) v x, vs[i]? = some v → xs[i]? = some x → Rep K H m v x) → Rep K H m (.ref p) (.tup xs)
  | rol {p : Addr} {vs : List V} {xs : List AV} : SqR K H p vs → vs.length = xs.length → (∀ (i : Nat) v x, vs[i]? = some v → xs[i]? = some x → Rep K H m v x) → Rep K H m (.ref p) (.rol xs)
structure RepL (K : PySem.W.Frag) (H : Hp) (m : List Addr) (vs : List V) (xs : List AV) : Prop where
  len : vs.length = xs.length
  get : ∀ (i : Nat) v x, vs[i]? = some v → xs[i]? = some x → Rep K H m v x
structure RepS (K : PySem.W.Frag) (H : Hp) (m : List Addr) (σ : L2.St) (a : ASt) : Prop where
  len : σ.length = a.length
  get : ∀ (i : Nat) x, gv a i = some x → ∃ v, σ[i]? = some (some v) ∧ Rep K H m v x
def ORep (K : PySem.W.Frag) (H : Hp) (m : List Addr) (p : Addr) : AO → Prop
  | .lst xs => ∃ vs, H p = some (.lst vs) ∧ RepL K H m vs xs
  | .dct kvs => ∃ vs : List (Key × V), H p = some (.dK vs) ∧ vs.map (·.1) = kvs.map (·.1) ∧ RepL K H m (vs.map (·.2)) (kvs.map (·.2))
structure Rel (K : PySem.W.Frag) (H : Hp) (m : List Addr) (h : AH) : Prop where
  nd : m.Nodup
  len : m.length = h.length
  obj : ∀ (n : Nat) p o, m[n]? = some p → h[n]? = some o → ORep K H m p o
/-- what stays for ever -/
structure Grow (K : PySem.W.Frag) (H : Hp) (m : List Addr) (H' : Hp) (m' : List Addr) : Prop where
  tup : ∀ p vs, SqT K H p vs → SqT K H' p vs
  rol : ∀ p vs, SqR K H p vs → SqR K H' p vs
  pre : ∃ e, m' = m ++ e

section
variable {K : PySem.W.Frag} {H H' H'' : Hp} {m m' m'' : List Addr} {h h' : AH} {v : V} {x : AV} {vs : List V} {xs : List AV} {p : Addr} {o : HO} {n : Nat} {σ : L2.St} {a : ASt}
theorem Grow.refl : Grow K H m H m := ⟨fun _ _ h => h, fun _ _ h => h, [], (List.append_nil m).symm⟩
theorem Grow.trans (g : Grow K H m H' m') (g' : Grow K H' m' H'' m'') : Grow K H m H'' m'' :=
  ⟨fun p vs h => g'.tup p vs (g.tup p vs h), fun p vs h => g'.rol p vs (g.rol p vs h), by
    obtain ⟨e, rfl⟩ := g.pre
    obtain ⟨e', rfl⟩ := g'.pre
    exact ⟨e ++ e', List.append_assoc _ _ _⟩⟩
theorem Grow.at (g : Grow K H m H' m') (hn : m[n]? = some p) : m'[n]? = some p := by
  obtain ⟨e, rfl⟩ := g.pre
  rw [List.getElem?_append_left (by exact (List.getElem?_eq_some_iff.mp hn).1)]
  exact hn
theorem Rep.mono (g : Grow K H m H' m') (r : Rep K H m v x) : Rep K H' m' v x := by
  induction r with
  | non => exact .non
  | bl b => exact .bl b
  | int i => exact .int i
  | str y => exact .str y
  | ty n => exact .ty n
  | ref hn => exact .ref (g.at hn)
  | tup hs hl _ ih => exact .tup (g.tup _ _ hs) hl ih
  | rol hs hl _ ih => exact .rol (g.rol _ _ hs) hl ih
theorem RepL.mono (g : Grow K H m H' m') (r : RepL K H m vs xs) : RepL K H' m' vs xs := ⟨r.len, fun i v x h1 h2 => (r.get i v x h1 h2).mono g⟩
theorem RepS.mono (g : Grow K H m H' m') (r : RepS K H m σ a) : RepS K H' m' σ a := ⟨r.len, fun i x h => by
  obtain ⟨v, h1, h2⟩ := r.get i x h
  exact ⟨v, h1, h2.mono g⟩⟩
theorem ORep.mono {o : AO} (g : Grow K H m H' m') (e : H' p = H p) (r : ORep K H m p o) : ORep K H' m' p o := by
  cases o with
  | lst xs =>
    obtain ⟨vs, h1, h2⟩ := r
    exact ⟨vs, e.trans h1, h2.mono g⟩
  | dct kvs =>
    obtain ⟨vs, h1, h2, h3⟩ := r
    exact ⟨vs, e.trans h1, h2, h3.mono g⟩
theorem ORep.some_ {o : AO} (r : ORep K H m p o) : ∃ u, H p = some u := by
  cases o with
  | lst xs =>
    obtain ⟨vs, h1, _⟩ := r
    exact ⟨_, h1⟩
  | dct kvs =>
    obtain ⟨vs, h1, _⟩ := r
    exact ⟨_, h1⟩
theorem RepL.nil : RepL K H m [] [] := ⟨rfl, fun i v x h => by simp at h⟩
theorem RepL.cons (r : Rep K H m v x) (s : RepL K H m vs xs) : RepL K H m (v :: vs) (x :: xs) := ⟨by simp [s.len], fun i w y h1 h2 => by
  cases i with
  | zero =>
    simp at h1 h2
    subst h1 h2
    exact r
  | succ i => exact s.get i w y (by simpa using h1) (by simpa using h2)⟩
theorem RepL.nil_inv (r : RepL K H m vs []) : vs = [] := by
  have := r.len
  simpa using this
theorem RepL.cons_inv (r : RepL K H m vs (x :: xs)) : ∃ v ws, vs = v :: ws ∧ Rep K H m v x ∧ RepL K H m ws xs := by
  cases vs with
  | nil =>
    have := r.len
    simp at this
  | cons v ws => exact ⟨v, ws, rfl, r.get 0 v x rfl rfl, by simpa using r.len, fun i w y h1 h2 => r.get (i + 1) w y (by simpa using h1) (by simpa using h2)⟩
theorem RepL.append {ws : List V} {ys : List AV} (r : RepL K H m vs xs) (s : RepL K H m ws ys) : RepL K H m (vs ++ ws) (xs ++ ys) := ⟨by simp [r.len, s.len], fun i w y h1 h2 => by
  by_cases hi : i < vs.length
  · rw [List.getElem?_append_left hi] at h1
    rw [List.getElem?_append_left (by rw [← r.len]; exact hi)] at h2
    exact r.get i w y h1 h2
  · rw [List.getElem?_append_right (by omega)] at h1
    rw [List.getElem?_append_right (by rw [← r.len]; omega), ← r.len] at h2
    exact s.get _ w y h1 h2⟩
theorem RepL.set (r : RepL K H m vs xs) (s : Rep K H m v x) (j : Nat) : RepL K H m (vs.set j v) (xs.set j x) := ⟨by simp [r.len], fun i w y h1 h2 => by
  rw [List.getElem?_set] at h1 h2
  by_cases hj : j = i
  · subst hj
    rw [if_pos rfl] at h1 h2
    by_cases hl : j < vs.length
    · rw [if_pos hl] at h1
      rw [if_pos (by rw [← r.len]; exact hl)] at h2
      cases h1
      cases h2
      exact s
    · rw [if_neg hl] at h1
      cases h1
  · rw [if_neg hj] at h1 h2
    exact r.get i w y h1 h2⟩
theorem RepL.at (r : RepL K H m vs xs) {i : Nat} (hx : xs[i]? = some x) : ∃ v, vs[i]? = some v ∧ Rep K H m v x := by
  have hi : i < vs.length := by
    rw [r.len]
    exact (List.getElem?_eq_some_iff.mp hx).1
  exact ⟨vs[i], List.getElem?_eq_getElem hi, r.get i _ x (List.getElem?_eq_getElem hi) hx⟩
theorem RepL.at_v (r : RepL K H m vs xs) {i : Nat} (hv : vs[i]? = some v) : ∃ x, xs[i]? = some x ∧ Rep K H m v x := by
  have hi : i < xs.length := by
    rw [← r.len]
    exact (List.getElem?_eq_some_iff.mp hv).1
  exact ⟨xs[i], List.getElem?_eq_getElem hi, r.get i v _ hv (List.getElem?_eq_getElem hi)⟩
theorem SqR.sq (r : SqR K H p vs) : SqL K H p vs := by
  rcases r with ⟨o, r⟩ | (r | r)
  · exact .inl (.inr ⟨o, r⟩)
  · rcases r with r | ⟨o, r⟩ <;> cases r
  · exact .inr r

/-! ### the heap's steps -/
theorem Grow.upd (ht : ∀ ys, H p ≠ some (.tup ys)) (hf : ∀ b u, H p ≠ some (.frz b u)) (e : List Addr) : Grow K H m (upd H p o) (m ++ e) := by
  refine ⟨fun q ws r => ?_, fun q ws r => ?_, e, rfl⟩
  · rcases r with (r | ⟨b, r⟩) | r
    · exact .inl (.inl (by rw [upd_ne (by rintro rfl; exact ht _ r)]; exact r))
    · exact .inl (.inr ⟨b, by rw [upd_ne (by rintro rfl; exact hf _ _ r)]; exact r⟩)
    · exact .inr r
  · rcases r with ⟨b, r⟩ | r
    · exact .inl ⟨b, by rw [upd_ne (by rintro rfl; exact hf _ _ r)]; exact r⟩
    · exact .inr r
theorem Grow.new (hp : H p = none) (e : List Addr) : Grow K H m (L2.upd H p o) (m ++ e) := .upd (fun ys z => by rw [hp] at z; cases z) (fun b u z => by rw [hp] at z; cases z) e
theorem Rel.fresh (r : Rel K H m h) (hp : H p = none) : p ∉ m := fun hm => by
  obtain ⟨i, hi, rfl⟩ := List.getElem_of_mem hm
  have hl := r.len
  have hs := r.obj i m[i] h[i] (List.getElem?_eq_getElem hi) (List.getElem?_eq_getElem (by omega))
  obtain ⟨u, e⟩ := hs.some_
  rw [hp] at e
  cases e
/-- a new object that is not numbered (a tuple) -/
theorem Rel.off (r : Rel K H m h) (hp : H p = none) : Rel K (L2.upd H p o) m h := by
  refine ⟨r.nd, r.len, fun i q u h1 h2 => ?_⟩
  have g : Grow K H m (L2.upd H p o) m := by
    have := Grow.new (K := K) (m := m) (o := o) hp []
    rwa [List.append_nil] at this
  refine (r.obj i q u h1 h2).mono g (upd_ne ?_)
  rintro rfl
  exact r.fresh hp (List.mem_of_getElem? h1)
theorem Grow.off (hp : H p = none) : Grow K H m (L2.upd H p o) m := by
  have := Grow.new (K := K) (m := m) (o := o) hp []
  rwa [List.append_nil] at this
/-- a new numbered object -/
theorem Rel.push {ao : AO} (r : Rel K H m h) (hp : H p = none) (hob : ORep K (L2.upd H p o) (m ++ [p]) p ao) : Rel K (L2.upd H p o) (m ++ [p]) (h ++ [ao]) := by
  have hf := r.fresh hp
  refine ⟨?_, by simp [r.len], fun i q u h1 h2 => ?_⟩
  · rw [List.nodup_append]
    refine ⟨r.nd, by simp, fun b hb c hc => ?_⟩
    have : c = p := by simpa using hc
    subst this
    rintro rfl
    exact hf hb
  · by_cases hi : i < m.length
    · rw [List.getElem?_append_left hi] at h1
      rw [List.getElem?_append_left (by rw [← r.len]; exact hi)] at h2
      refine (r.obj i q u h1 h2).mono (Grow.new hp [p]) (upd_ne ?_)
      rintro rfl
      exact hf (List.mem_of_getElem? h1)
    · rw [List.getElem?_append_right (by omega)] at h1
      rw [List.getElem?_append_right (by rw [← r.len]; omega), ← r.len] at h2
      cases hk : i - m.length with
      | zero =>
        rw [hk] at h1 h2
        simp at h1 h2
        subst h1 h2
        exact hob
      | succ k =>
        rw [hk] at h1
        simp at h1
theorem Rel.pushL (r : Rel K H m h) (hp : H p = none) (hl : RepL K H m vs xs) : Rel K (L2.upd H p (.lst vs)) (m ++ [p]) (h ++ [.lst xs]) :=
  r.push hp ⟨vs, upd_same, hl.mono (.new hp [p])⟩
theorem Rel.last (r : Rel K H m h) : (m ++ [p])[h.length]? = some p := by
  rw [← r.len, List.getElem?_append_right (Nat.le_refl _), Nat.sub_self]
  rfl
/-- a numbered object changes -/
theorem Rel.write {ao ao' : AO} (r : Rel K H m h) (hn : m[n]? = some p) (ho : h[n]? = some ao) (g : Grow K H m (L2.upd H p o) m) (hob : ORep K (L2.upd H p o) m p ao') : Rel K (L2.upd H p o) m (h.set n ao') := by
  refine ⟨r.nd, by rw [List.length_set]; exact r.len, fun i q u h1 h2 => ?_⟩
  rw [List.getElem?_set] at h2
  by_cases hi : n = i
  · subst hi
    rw [hn] at h1
    cases h1
    rw [if_pos rfl, if_pos (List.getElem?_eq_some_iff.mp ho).1] at h2
    cases h2
    exact hob
  · rw [if_neg hi] at h2
    refine (r.obj i q u h1 h2).mono g (upd_ne ?_)
    rintro rfl
    exact hi (nodup_at r.nd hn h1)
where
  nodup_at {l : List Addr} {i j : Nat} {y : Addr} (nd : l.Nodup) (h1 : l[i]? = some y) (h2 : l[j]? = some y) : i = j := by
    obtain ⟨a1, e1⟩ := List.getElem?_eq_some_iff.mp h1
    obtain ⟨a2, e2⟩ := List.getElem?_eq_some_iff.mp h2
    exact (List.getElem_inj nd).mp (e1.trans e2.symm)
theorem Grow.lst (hp : H p = some (.lst vs)) : Grow K H m (L2.upd H p o) m := by
  have := Grow.upd (K := K) (m := m) (o := o) (p := p) (H := H) (fun ys z => by rw [hp] at z; cases z) (fun b u z => by rw [hp] at z; cases z) []
  rwa [List.append_nil] at this
theorem Grow.dK {kvs : List (Key × V)} (hp : H p = some (.dK kvs)) : Grow K H m (L2.upd H p o) m := by
  have := Grow.upd (K := K) (m := m) (o := o) (p := p) (H := H) (fun ys z => by rw [hp] at z; cases z) (fun b u z => by rw [hp] at z; cases z) []
  rwa [List.append_nil] at this
theorem Rel.lst (r : Rel K H m h) (rx : Rep K H m v (.ref n)) (e : h[n]? = some (.lst xs)) : ∃ p vs, v = .ref p ∧ m[n]? = some p ∧ H p = some (.lst vs) ∧ RepL K H m vs xs := by
  cases rx with
  | ref hn =>
    obtain ⟨vs, h1, h2⟩ := r.obj _ _ _ hn e
    exact ⟨_, vs, rfl, hn, h1, h2⟩
theorem Rel.dct {kvs : List (Sum Int Str × AV)} (r : Rel K H m h) (rx : Rep K H m v (.ref n)) (e : h[n]? = some (.dct kvs)) :
    ∃ p vs, v = .ref p ∧ m[n]? = some p ∧ H p = some (.dK vs) ∧ vs.map (·.1) = kvs.map (·.1) ∧ RepL K H m (vs.map (·.2)) (kvs.map (·.2)) := by
  cases rx with
  | ref hn =>
    obtain ⟨vs, h1, h2, h3⟩ := r.obj _ _ _ hn e
    exact ⟨_, vs, rfl, hn, h1, h2, h3⟩
theorem Rep.tup_inv (r : Rep K H m v (.tup xs)) : ∃ p vs, v = .ref p ∧ SqT K H p vs ∧ RepL K H m vs xs := by
  cases r with
  | tup hs hl hg => exact ⟨_, _, rfl, hs, hl, hg⟩
theorem Rep.rol_inv (r : Rep K H m v (.rol xs)) : ∃ p vs, v = .ref p ∧ SqR K H p vs ∧ RepL K H m vs xs := by
  cases r with
  | rol hs hl hg => exact ⟨_, _, rfl, hs, hl, hg⟩
theorem RepL.tup (hs : SqT K H p vs) (r : RepL K H m vs xs) : Rep K H m (.ref p) (.tup xs) := .tup hs r.len r.get
/-- slots -/
theorem gv_sv {x : Option AV} : ∀ {a : ASt} {i j : Nat}, gv (sv a i x) j = if i = j ∧ i < a.length then x else gv a j
  | [], i, j => by
    rw [if_neg (by simp)]
    rfl
  | y :: r, 0, 0 => by
    rw [if_pos ⟨rfl, by simp⟩]
    rfl
  | y :: r, 0, j + 1 => by
    rw [if_neg (by omega)]
    rfl
  | y :: r, i + 1, 0 => by
    rw [if_neg (by omega)]
    rfl
  | y :: r, i + 1, j + 1 => by
    show gv (sv r i x) j = if i + 1 = j + 1 ∧ i + 1 < r.length + 1 then x else gv r j
    rw [gv_sv]
    simp
theorem sv_len {x : Option AV} : ∀ {a : ASt} {i : Nat}, (sv a i x).length = a.length
  | [], _ => rfl
  | _ :: _, 0 => rfl
  | _ :: r, i + 1 => by
    show (sv r i x).length + 1 = r.length + 1
    rw [sv_len]
theorem RepS.set (r : RepS K H m σ a) (s : Rep K H m v x) (i : Nat) : RepS K H m (σ.set i (some v)) (sv a i (some x)) := by
  refine ⟨by rw [List.length_set, sv_len]; exact r.len, fun j y hy => ?_⟩
  rw [gv_sv] at hy
  rw [List.getElem?_set]
  by_cases hc : i = j ∧ i < a.length
  · obtain ⟨rfl, hl⟩ := hc
    rw [if_pos ⟨rfl, hl⟩] at hy
    cases hy
    exact ⟨v, by rw [if_pos rfl, if_pos (by rw [r.len]; exact hl)], s⟩
  · rw [if_neg hc] at hy
    obtain ⟨w, h1, h2⟩ := r.get j y hy
    refine ⟨w, ?_, h2⟩
    by_cases hi : i = j
    · subst hi
      exact absurd ⟨rfl, by rw [← r.len]; exact (List.getElem?_eq_some_iff.mp h1).1⟩ hc
    · rw [if_neg hi]
      exact h1
theorem RepS.unset (r : RepS K H m σ a) (i : Nat) : RepS K H m (σ.set i none) (sv a i none) := by
  refine ⟨by rw [List.length_set, sv_len]; exact r.len, fun j y hy => ?_⟩
  rw [gv_sv] at hy
  rw [List.getElem?_set]
  by_cases hc : i = j ∧ i < a.length
  · rw [if_pos hc] at hy
    cases hy
  · rw [if_neg hc] at hy
    obtain ⟨w, h1, h2⟩ := r.get j y hy
    refine ⟨w, ?_, h2⟩
    by_cases hi : i = j
    · subst hi
      exact absurd ⟨rfl, by rw [← r.len]; exact (List.getElem?_eq_some_iff.mp h1).1⟩ hc
    · rw [if_neg hi]
      exact h1
theorem RepS.wipe (r : RepS K H m σ a) : ∀ vs : List Nat, RepS K H m (L2.wipe σ vs) (wipeA a vs)
  | [] => r
  | w :: ws => (RepS.wipe r ws).unset w
end

/-! ### what follows, lifted -/
abbrev Lk (K : PySem.W.Frag) (H : Hp) (m : List Addr) (R : AK) (Q : VK) : Prop := ∀ H' m' h' v x, R x h' → Rel K H' m' h' → Rep K H' m' v x → Grow K H m H' m' → Q v H'
abbrev LkB (K : PySem.W.Frag) (H : Hp) (m : List Addr) (R : Bool → AH → Prop) (Q : Bool → Hp → Prop) : Prop := ∀ H' m' h' b, R b h' → Rel K H' m' h' → Grow K H m H' m' → Q b H'
abbrev LkA (K : PySem.W.Frag) (H : Hp) (m : List Addr) (R : List AV → AH → Prop) (Q : List V → Hp → Prop) : Prop := ∀ H' m' h' vs xs, R xs h' → Rel K H' m' h' → RepL K H' m' vs xs → Grow K H m H' m' → Q vs H'
abbrev LkN (K : PySem.W.Frag) (H : Hp) (m : List Addr) (R : ASt → AH → Prop) (Q : L2.St → Hp → Prop) : Prop := ∀ H' m' h' σ' a', R a' h' → Rel K H' m' h' → RepS K H' m' σ' a' → Grow K H m H' m' → Q σ' H'
abbrev LkH (K : PySem.W.Frag) (H : Hp) (m : List Addr) (R : AH → Prop) (Q : Hp → Prop) : Prop := ∀ H' m' h', R h' → Rel K H' m' h' → Grow K H m H' m' → Q H'
structure LkD (K : PySem.W.Frag) (H : Hp) (m : List Addr) (DA : AEnds) (D : Ends) : Prop where
  nx : LkN K H m DA.nx D.nx
  rt : Lk K H m DA.rt D.rt
  bk : LkN K H m DA.bk D.bk
  ct : LkN K H m DA.ct D.ct
section
variable {K : PySem.W.Frag} {H H' : Hp} {m m' : List Addr}
theorem Lk.on {R : AK} {Q : VK} (l : Lk K H m R Q) (g : Grow K H m H' m') : Lk K H' m' R Q := fun H2 m2 h2 v x r rl rp g2 => l H2 m2 h2 v x r rl rp (g.trans g2)
theorem LkB.on {R : Bool → AH → Prop} {Q : Bool → Hp → Prop} (l : LkB K H m R Q) (g : Grow K H m H' m') : LkB K H' m' R Q := fun H2 m2 h2 b r rl g2 => l H2 m2 h2 b r rl (g.trans g2)
theorem LkA.on {R : List AV → AH → Prop} {Q : List V → Hp → Prop} (l : LkA K H m R Q) (g : Grow K H m H' m') : LkA K H' m' R Q := fun H2 m2 h2 vs xs r rl rp g2 => l H2 m2 h2 vs xs r rl rp (g.trans g2)
theorem LkN.on {R : ASt → AH → Prop} {Q : L2.St → Hp → Prop} (l : LkN K H m R Q) (g : Grow K H m H' m') : LkN K H' m' R Q := fun H2 m2 h2 s a r rl rp g2 => l H2 m2 h2 s a r rl rp (g.trans g2)
theorem LkD.on {DA : AEnds} {D : Ends} (l : LkD K H m DA D) (g : Grow K H m H' m') : LkD K H' m' DA D := ⟨LkN.on l.nx g, Lk.on l.rt g, LkN.on l.bk g, LkN.on l.ct g⟩
end
/-! ### the judgements, lifted -/
def upE (K : PySem.W.Frag) (t : ATE) : TE := fun σ H Q => ∃ m h a R, Rel K H m h ∧ RepS K H m σ a ∧ t a h R ∧ Lk K H m R Q
def upT (K : PySem.W.Frag) (t : ATT) : TT := fun σ H Q => ∃ m h a R, Rel K H m h ∧ RepS K H m σ a ∧ t a h R ∧ LkB K H m R Q
def upA (K : PySem.W.Frag) (t : ATA) : TA := fun σ H Q => ∃ m h a R, Rel K H m h ∧ RepS K H m σ a ∧ t a h R ∧ LkA K H m R Q
def upS (K : PySem.W.Frag) (t : ATS) : TS := fun D σ H => ∃ m h a DA, Rel K H m h ∧ RepS K H m σ a ∧ t DA a h ∧ LkD K H m DA D
def upG (K : PySem.W.Frag) (t : ATG) : TG := fun v σ H Q => ∃ m h a x R, Rel K H m h ∧ RepS K H m σ a ∧ Rep K H m v x ∧ t x a h R ∧ LkN K H m R Q
def upGs (K : PySem.W.Frag) (t : ATGs) : TGs := fun vs σ H Q => ∃ m h a xs R, Rel K H m h ∧ RepS K H m σ a ∧ RepL K H m vs xs ∧ t xs a h R ∧ LkN K H m R Q
def up2 (K : PySem.W.Frag) (r : AR2) : R2 := fun x y H Q => ∃ m h ax ay R, Rel K H m h ∧ Rep K H m x ax ∧ Rep K H m y ay ∧ r ax ay h R ∧ Lk K H m R Q
def up1 (K : PySem.W.Frag) (r : AR1) : V → Hp → VK → Prop := fun x H Q => ∃ m h ax R, Rel K H m h ∧ Rep K H m x ax ∧ r ax h R ∧ Lk K H m R Q
def upL (K : PySem.W.Frag) (r : ARL) : List V → Hp → VK → Prop := fun xs H Q => ∃ m h as R, Rel K H m h ∧ RepL K H m xs as ∧ r as h R ∧ Lk K H m R Q
def upM (K : PySem.W.Frag) (r : ARM) : V → List V → Hp → VK → Prop := fun x xs H Q => ∃ m h ax as R, Rel K H m h ∧ Rep K H m x ax ∧ RepL K H m xs as ∧ r ax as h R ∧ Lk K H m R Q
def upB (K : PySem.W.Frag) (r : AV → AH → (Bool → AH → Prop) → Prop) : V → Hp → (Bool → Hp → Prop) → Prop := fun x H Q => ∃ m h ax R, Rel K H m h ∧ Rep K H m x ax ∧ r ax h R ∧ LkB K H m R Q
/-- a contract, lifted; an error that leaves is not spoken of -/
def upSp (K : PySem.W.Frag) (s : ASp) : Sp := fun vs H Q _ => ∃ m h xs R, Rel K H m h ∧ RepL K H m vs xs ∧ s xs h R (fun _ _ => False) ∧ Lk K H m R Q
abbrev AE (X : Cx) (e : Expr) (t : ATE) : Prop := PE X e (upE X.K t)
abbrev ATst (X : Cx) (e : Expr) (t : ATT) : Prop := PT X e (upT X.K t)
abbrev AA (X : Cx) (es : List Expr) (t : ATA) : Prop := PA X es (upA X.K t)
abbrev AS (X : Cx) (st : Stmt) (t : ATS) : Prop := PS X st (upS X.K t)
abbrev ASs (X : Cx) (st : List Stmt) (t : ATS) : Prop := PSs X st (upS X.K t)
abbrev AG (X : Cx) (tg : Expr) (t : ATG) : Prop := PG X tg (upG X.K t)
abbrev AGs (X : Cx) (tg : List Expr) (t : ATGs) : Prop := PGs X tg (upGs X.K t)
section
variable {X : Cx} {e : Expr}
theorem wkE {t t' : TE} (h : PE X e t) (w : ∀ σ H Q, t' σ H Q → t σ H Q) : PE X e t' := ⟨fun pins s σ H Q I q => h.run pins s σ H Q I (w σ H Q q)⟩
theorem wkT {t t' : TT} (h : PT X e t) (w : ∀ σ H Q, t' σ H Q → t σ H Q) : PT X e t' := ⟨fun pins s σ H Q I q => h.run pins s σ H Q I (w σ H Q q)⟩
theorem wkW {t t' : TT} (h : PW X e t) (w : ∀ σ H Q, t' σ H Q → t σ H Q) : PW X e t' := ⟨fun wh pins s σ H Q I q => h.run wh pins s σ H Q I (w σ H Q q)⟩
theorem wkA {es : List Expr} {t t' : TA} (h : PA X es t) (w : ∀ σ H Q, t' σ H Q → t σ H Q) : PA X es t' := ⟨fun pos pins s σ H Q I q => h.run pos pins s σ H Q I (w σ H Q q)⟩
theorem wkS {st : Stmt} {t t' : TS} (h : PS X st t) (w : ∀ D σ H, t' D σ H → t D σ H) : PS X st t' := ⟨fun pins s σ H D I q => h.run pins s σ H D I (w D σ H q)⟩
theorem wkSs {st : List Stmt} {t t' : TS} (h : PSs X st t) (w : ∀ D σ H, t' D σ H → t D σ H) : PSs X st t' := ⟨fun pins s σ H D I q => h.run pins s σ H D I (w D σ H q)⟩
theorem wkG {t t' : TG} (h : PG X e t) (w : ∀ v σ H Q, t' v σ H Q → t v σ H Q) : PG X e t' := ⟨fun pins s σ H v u Q I r q => h.run pins s σ H v u Q I r (w v σ H Q q)⟩
theorem wkGs {es : List Expr} {t t' : TGs} (h : PGs X es t) (w : ∀ v σ H Q, t' v σ H Q → t v σ H Q) : PGs X es t' := ⟨fun pins s σ H v u Q I r q => h.run pins s σ H v u Q I r (w v σ H Q q)⟩
end

/-! ### expressions -/
section
variable {X : Cx} {a b c e : Expr} {es : List Expr} {pos : Pos} {ta tb tc te : ATE} {tl : ATA} {tt uu : ATT}
theorem ae_var (i : Nat) {x : Str} (h : PE X (.Name x pos) (tVar i)) : AE X (.Name x pos) (varT i) := wkE h fun σ H Q ⟨m, h, a, R, rel, rs, q, lk⟩ => by
  unfold varT at q
  cases hg : gv a i with
  | none =>
    rw [hg] at q
    exact q.elim
  | some x =>
    rw [hg] at q
    obtain ⟨v, h1, h2⟩ := rs.get i x hg
    exact ⟨v, h1, lk _ _ _ _ _ q rel h2 .refl⟩
theorem ae_c {v : V} {x : AV} (h : PE X e (tC v)) (r : ∀ H m, Rep X.K H m v x) : AE X e (cT x) := wkE h fun σ H Q ⟨m, h, a, R, rel, rs, q, lk⟩ => lk _ _ _ _ _ q rel (r _ _) .refl
theorem ae_int {i j} : AE X (.Constant (.int i) j pos) (cT (.int i)) := ae_c pe_int fun _ _ => .int i
theorem ae_bl {i j} : AE X (.Constant (.bool i) j pos) (cT (.bl i)) := ae_c pe_bl fun _ _ => .bl i
theorem ae_non {j} : AE X (.Constant .none j pos) (cT .non) := ae_c pe_non fun _ _ => .non
theorem ae_str {i j} : AE X (.Constant (.str i) j pos) (cT (.str i)) := ae_c pe_str fun _ _ => .str i
theorem lift2 {r : AR2} {σ : L2.St} {H : Hp} {Q : VK} (q : upE X.K (opT r ta tb) σ H Q) : tOp (up2 X.K r) (upE X.K ta) (upE X.K tb) σ H Q := by
  obtain ⟨m, h, a, R, rel, rs, q, lk⟩ := q
  exact ⟨m, h, a, _, rel, rs, q, fun H1 m1 h1 v x q1 rel1 r1 g1 => ⟨m1, h1, a, _, rel1, rs.mono g1, q1, fun H2 m2 h2 w y q2 rel2 r2 g2 => ⟨m2, h2, x, y, R, rel2, r1.mono g2, r2, q2, Lk.on lk (g1.trans g2)⟩⟩⟩
theorem ae_op {op : Operator} {r : AR2} (ho : OpR X (binaryOp op) (up2 X.K r)) (ha : AE X a ta) (hb : AE X b tb) : AE X (.BinOp a op b pos) (opT r ta tb) := wkE (pe_op ho ha hb) fun _ _ _ q => lift2 q
theorem ae_cmp {op : CmpOp} {r : AR2} (ho : OpR X (compareOp op) (up2 X.K r)) (ha : AE X a ta) (hb : AE X b tb) (hm : behindInMarks op b = false) : AE X (.Compare a [op] [b] pos) (opT r ta tb) := wkE (pe_cmpR ho ha hb hm) fun _ _ _ q => lift2 q
theorem at_cmp {op : CmpOp} {r : AR2} (ho : OpR X (compareOp op) (up2 X.K r)) (ha : AE X a ta) (hb : AE X b tb) (hm : behindInMarks op b = false) : ATst X (.Compare a [op] [b] pos) (cmpT (opT r ta tb)) := wkT (pt_cmpR ho ha hb hm) fun σ H Q q => by
  obtain ⟨m, h, a, R, rel, rs, q, lk⟩ := q
  refine lift2 ⟨m, h, a, _, rel, rs, q, fun H1 m1 h1 v x q1 rel1 r1 g1 => ?_⟩
  cases r1 with
  | bl b => exact ⟨b, rfl, lk _ _ _ _ q1 rel1 g1⟩
  | _ => exact (show False from q1).elim
theorem ae_un {op : UnaryOp} {r : AR1} (ho : UnR X (unaryOp op) (up1 X.K r)) (ha : AE X a ta) : AE X (.UnaryOp op a pos) (unT r ta) := wkE (pe_un ho ha) fun σ H Q ⟨m, h, a, R, rel, rs, q, lk⟩ =>
  ⟨m, h, a, _, rel, rs, q, fun H1 m1 h1 v x q1 rel1 r1 g1 => ⟨m1, h1, x, R, rel1, r1, q1, Lk.on lk g1⟩⟩
theorem aa_nil : AA X [] nilT := wkA pa_nil fun σ H Q ⟨m, h, a, R, rel, rs, q, lk⟩ => lk _ _ _ _ _ q rel .nil .refl
theorem aa_cons (ha : AE X e te) (hr : AA X es tl) (hs : starEach (e :: es) X.env = (false, eval e X.env) :: starEach es X.env := by rfl) : AA X (e :: es) (consT te tl) := wkA (pa_cons ha hr hs) fun σ H Q ⟨m, h, a, R, rel, rs, q, lk⟩ =>
  ⟨m, h, a, _, rel, rs, q, fun H1 m1 h1 v x q1 rel1 r1 g1 => ⟨m1, h1, a, _, rel1, rs.mono g1, q1, fun H2 m2 h2 vs xs q2 rel2 r2 g2 => lk _ _ _ _ _ q2 rel2 (.cons (r1.mono g2) r2) (g1.trans g2)⟩⟩
theorem lenLe_le : ∀ {xs : List AV} {n : Nat}, lenLe xs n = true → xs.length ≤ n
  | [], _, _ => Nat.zero_le _
  | _ :: _, 0, h => by cases h
  | _ :: r, n + 1, h => Nat.succ_le_succ (lenLe_le (xs := r) (n := n) h)
theorem line64 : 64 ≤ sizeLine := by rw [sizeLine_eq]; decide
theorem ae_tup {k} (hl : AA X es tl) : AE X (.Tuple es k pos) (tupT tl) := wkE (pe_tup hl) fun σ H Q ⟨m, h, a, R, rel, rs, q, lk⟩ =>
  ⟨m, h, a, _, rel, rs, q, fun H1 m1 h1 vs xs q1 rel1 r1 g1 => ⟨by rw [r1.len]; exact Nat.le_trans (lenLe_le q1.1) line64, fun p hp =>
    lk _ _ _ _ _ q1.2 (rel1.off hp) (.tup (SqT.of upd_same) r1.len fun i v x e1 e2 => (r1.get i v x e1 e2).mono (.off hp)) (g1.trans (.off hp))⟩⟩
theorem ae_lst (hl : AA X es tl) : AE X (.List es pos) (lstT tl) := wkE (pe_lst hl) fun σ H Q ⟨m, h, a, R, rel, rs, q, lk⟩ =>
  ⟨m, h, a, _, rel, rs, q, fun H1 m1 h1 vs xs q1 rel1 r1 g1 => ⟨by rw [r1.len]; exact Nat.le_trans (lenLe_le q1.1) line64, fun p hp =>
    lk _ _ _ _ _ q1.2 (rel1.pushL hp r1) (.ref rel1.last) (g1.trans (.new hp [p]))⟩⟩
/-- calls -/
theorem ae_call {CX : CXT} {k : Nat} {f : Addr} {fd : FuncData} {ps : List Str} {s : ASp} {x : Str} {p : Pos} {E : XK} (F : FnOk X.prog X.w X.K X.mg X.base CX k f fd ps (upSp X.K s)) (hr : Room k X.A) (hg : Gl X x) (hm : X.mg x = some (.ref f))
    (hk : PySem.W.keepIn X.K (.ref f) = true) (hb : Binds X.K fd ps []) (hx : Passes CX X E) (ha : AA X (e :: es) tl) (hdb : (x == ("__debug__" : Str)) = false := by decide)
    (he : starEach (e :: es) X.env = (false, eval e X.env) :: starEach es X.env := by rfl) (hpl : (backTo pos (starEach es X.env)).any (·.1) = false := by rfl) :
    AE X (.Call (.Name x p) (e :: es) [] pos) (callT s (fun _ _ => False) tl) := wkE (pe_call F hr hg hm hk hb .nil hx ha hdb he hpl) fun σ H Q ⟨m, h, a, R, rel, rs, q, lk⟩ =>
  ⟨m, h, a, _, rel, rs, q, fun H1 m1 h1 vs xs q1 rel1 r1 g1 => ⟨m1, h1, xs, R, rel1, by rw [List.append_nil]; exact r1, q1, Lk.on lk g1⟩⟩
theorem ae_call0 {CX : CXT} {k : Nat} {f : Addr} {fd : FuncData} {ps : List Str} {s : ASp} {x : Str} {p : Pos} {E : XK} (F : FnOk X.prog X.w X.K X.mg X.base CX k f fd ps (upSp X.K s)) (hr : Room k X.A) (hg : Gl X x) (hm : X.mg x = some (.ref f))
    (hk : PySem.W.keepIn X.K (.ref f) = true) (hb : Binds X.K fd ps []) (hx : Passes CX X E) (hdb : (x == ("__debug__" : Str)) = false := by decide) :
    AE X (.Call (.Name x p) [] [] pos) (callT s (fun _ _ => False) nilT) := wkE (pe_call0 F hr hg hm hk hb .nil hx hdb) fun σ H Q ⟨m, h, a, R, rel, rs, q, lk⟩ =>
  ⟨m, h, [], R, rel, .nil, q, lk⟩
theorem liftCB {r : ARL} {σ : L2.St} {H : Hp} {Q : VK} (q : upE X.K (cbT r tl) σ H Q) : tCB (upL X.K r) (upA X.K tl) σ H Q := by
  obtain ⟨m, h, a, R, rel, rs, q, lk⟩ := q
  exact ⟨m, h, a, _, rel, rs, q, fun H1 m1 h1 vs xs q1 rel1 r1 g1 => ⟨m1, h1, xs, R, rel1, r1, q1, Lk.on lk g1⟩⟩
theorem ae_callB {id : String} {r : ARL} {x : Str} {p : Pos} (hc : CallR X (.builtin id) (upL X.K r)) (hg : Gl X x) (hm : X.mg x = none) (hv : bootBuiltins x = some (.builtin id)) (ha : AA X (e :: es) tl) (hn : x ≠ "__name__" := by decide) (hdb : (x == ("__debug__" : Str)) = false := by decide)
    (he : starEach (e :: es) X.env = (false, eval e X.env) :: starEach es X.env := by rfl) (hpl : (backTo pos (starEach es X.env)).any (·.1) = false := by rfl) : AE X (.Call (.Name x p) (e :: es) [] pos) (cbT r tl) :=
  wkE (pe_callB hc hg hm hv ha hn hdb he hpl) fun _ _ _ q => liftCB q
theorem ae_callTy {T : String} {r : ARL} {x : Str} {p : Pos} (hc : CallR X (.type T) (upL X.K r)) (hg : Gl X x) (hm : X.mg x = none) (hv : bootBuiltins x = some (.type T)) (ha : AA X (e :: es) tl) (hn : x ≠ "__name__" := by decide) (hdb : (x == ("__debug__" : Str)) = false := by decide)
    (he : starEach (e :: es) X.env = (false, eval e X.env) :: starEach es X.env := by rfl) (hpl : (backTo pos (starEach es X.env)).any (·.1) = false := by rfl) : AE X (.Call (.Name x p) (e :: es) [] pos) (cbT r tl) :=
  wkE (pe_callTy hc hg hm hv ha hn hdb he hpl) fun _ _ _ q => liftCB q
theorem ae_callBfun {id : String} {r : ARL} {x : Str} {p : Pos} (hc : CallR X (.builtin id) (upL X.K r)) (hg : Gl X x) (hm : X.mg x = some (.builtin id)) (ha : AA X (e :: es) tl) (hdb : (x == ("__debug__" : Str)) = false := by decide)
    (he : starEach (e :: es) X.env = (false, eval e X.env) :: starEach es X.env := by rfl) (hpl : (backTo pos (starEach es X.env)).any (·.1) = false := by rfl) : AE X (.Call (.Name x p) (e :: es) [] pos) (cbT r tl) :=
  wkE (pe_callBfun hc hg hm ha hdb he hpl) fun _ _ _ q => liftCB q
/-- a type's name as a value -/
theorem ae_ty {x : Str} {T : String} (hg : Gl X x) (hm : X.mg x = none) (hv : bootBuiltins x = some (.type T)) (hn : x ≠ "__name__" := by decide) (hd : (x == ("__debug__" : Str)) = false := by decide) : AE X (.Name x pos) (cT (.ty T)) :=
  ae_c (pe_bltn (v := .ty T) hg hm hv rfl hn hd) fun _ _ => .ty T
/-- a[b] -/
theorem ae_ix {r : AR2} (hr : IxR X (up2 X.K r)) (ha : AE X a ta) (hb : AE X b tb) (hs : PlainIx b) : AE X (.Subscript a b pos) (opT r ta tb) := wkE (pe_ix hr ha hb hs) fun _ _ _ q => lift2 q
/-- tests -/
theorem at_tru (hr : TruR X (upB X.K truR)) (ha : AE X a ta) (he : ∀ whole, isTrue a X.env whole = (do let v ← whole; standAt a.pos; holding [v] (truthy v)) := by intro _; rfl) : ATst X a (truT ta) := by
  refine ⟨fun pins s σ H Q I h => ?_⟩
  refine isTrue_plain (thn (ha.run pins s σ H (fun x H1 => upB X.K truR x H1 Q) I ?_) fun v s1 ⟨x, H1, I1, r1, q1⟩ => hr pins s1 σ H1 x v Q I1 r1 q1) (he _)
  obtain ⟨m, h, a, R, rel, rs, q, lk⟩ := h
  exact ⟨m, h, a, _, rel, rs, q, fun H1 m1 h1 v x q1 rel1 r1 g1 => ⟨m1, h1, x, R, rel1, r1, q1, LkB.on lk g1⟩⟩
theorem up_and {σ : L2.St} {H : Hp} {Q : Bool → Hp → Prop} (q : upT X.K (andT tt uu) σ H Q) : tAnd (upT X.K tt) (upT X.K uu) σ H Q := by
  obtain ⟨m, h, a, R, rel, rs, q, lk⟩ := q
  refine ⟨m, h, a, _, rel, rs, q, fun H1 m1 h1 b q1 rel1 g1 => ?_⟩
  cases b with
  | true =>
    rw [if_pos rfl] at q1 ⊢
    exact ⟨m1, h1, a, R, rel1, rs.mono g1, q1, LkB.on lk g1⟩
  | false =>
    rw [if_neg Bool.false_ne_true] at q1 ⊢
    exact lk _ _ _ _ q1 rel1 g1
theorem up_or {σ : L2.St} {H : Hp} {Q : Bool → Hp → Prop} (q : upT X.K (orT tt uu) σ H Q) : tOr (upT X.K tt) (upT X.K uu) σ H Q := by
  obtain ⟨m, h, a, R, rel, rs, q, lk⟩ := q
  refine ⟨m, h, a, _, rel, rs, q, fun H1 m1 h1 b q1 rel1 g1 => ?_⟩
  cases b with
  | true =>
    rw [if_pos rfl] at q1 ⊢
    exact lk _ _ _ _ q1 rel1 g1
  | false =>
    rw [if_neg Bool.false_ne_true] at q1 ⊢
    exact ⟨m1, h1, a, R, rel1, rs.mono g1, q1, LkB.on lk g1⟩
/-- and, or as tests: the last one, one ahead -/
theorem aw_and1 (ha : ATst X a tt) : PW X (.BoolOp .And [a] pos) (upT X.K tt) := pw_and1 ha
theorem aw_or1 (ha : ATst X a tt) : PW X (.BoolOp .Or [a] pos) (upT X.K tt) := pw_or1 ha
theorem aw_and {rest : List Expr} (ha : ATst X a tt) (hb : PW X (.BoolOp .And (b :: rest) pos) (upT X.K uu)) : PW X (.BoolOp .And (a :: b :: rest) pos) (upT X.K (andT tt uu)) := wkW (pw_and ha hb) fun _ _ _ q => up_and q
theorem aw_or {rest : List Expr} (ha : ATst X a tt) (hb : PW X (.BoolOp .Or (b :: rest) pos) (upT X.K uu)) : PW X (.BoolOp .Or (a :: b :: rest) pos) (upT X.K (orT tt uu)) := wkW (pw_or ha hb) fun _ _ _ q => up_or q
theorem at_w (h : PW X e (upT X.K tt)) : ATst X e tt := h.pt
theorem at_not (ha : ATst X a tt) : ATst X (.UnaryOp .Not a pos) (notT tt) := wkT (pt_not ha) fun σ H Q ⟨m, h, a, R, rel, rs, q, lk⟩ =>
  ⟨m, h, a, _, rel, rs, q, fun H1 m1 h1 b q1 rel1 g1 => lk _ _ _ _ q1 rel1 g1⟩
theorem bl_inv {H : Hp} {m : List Addr} {v : V} {x : AV} {h : AH} {R : Bool → AH → Prop} (r : Rep X.K H m v x) (q : blR x h R) : ∃ b, v = .bl b ∧ x = .bl b ∧ R b h := by
  cases r with
  | bl b => exact ⟨b, rfl, rfl, q⟩
  | _ => exact (show False from q).elim
theorem ae_one {op} (h : AE X a ta) : AE X (.BoolOp op [a] pos) ta := pe_one h
theorem ae_and {rest : List Expr} (ha : AE X a ta) (hb : AE X (.BoolOp .And (b :: rest) pos) tb) : AE X (.BoolOp .And (a :: b :: rest) pos) (andV ta tb) := wkE (pe_and ha hb) fun σ H Q ⟨m, h, a, R, rel, rs, q, lk⟩ => by
  refine ⟨m, h, a, _, rel, rs, q, fun H1 m1 h1 v x q1 rel1 r1 g1 => ?_⟩
  obtain ⟨c, rfl, rfl, q2⟩ := bl_inv r1 q1
  replace q1 := q2
  refine ⟨c, rfl, ?_⟩
  cases c with
  | true =>
    rw [if_pos rfl] at q1 ⊢
    exact ⟨m1, h1, a, R, rel1, rs.mono g1, q1, Lk.on lk g1⟩
  | false =>
    rw [if_neg Bool.false_ne_true] at q1 ⊢
    exact lk _ _ _ _ _ q1 rel1 (.bl false) g1
theorem ae_or {rest : List Expr} (ha : AE X a ta) (hb : AE X (.BoolOp .Or (b :: rest) pos) tb) : AE X (.BoolOp .Or (a :: b :: rest) pos) (orV ta tb) := wkE (pe_or ha hb) fun σ H Q ⟨m, h, a, R, rel, rs, q, lk⟩ => by
  refine ⟨m, h, a, _, rel, rs, q, fun H1 m1 h1 v x q1 rel1 r1 g1 => ?_⟩
  obtain ⟨c, rfl, rfl, q2⟩ := bl_inv r1 q1
  replace q1 := q2
  refine ⟨c, rfl, ?_⟩
  cases c with
  | true =>
    rw [if_pos rfl] at q1 ⊢
    exact lk _ _ _ _ _ q1 rel1 (.bl true) g1
  | false =>
    rw [if_neg Bool.false_ne_true] at q1 ⊢
    exact ⟨m1, h1, a, R, rel1, rs.mono g1, q1, Lk.on lk g1⟩
theorem ae_not (ha : AE X a ta) : AE X (.UnaryOp .Not a pos) (notV ta) := wkE (pe_not ha) fun σ H Q ⟨m, h, a, R, rel, rs, q, lk⟩ => by
  refine ⟨m, h, a, _, rel, rs, q, fun H1 m1 h1 v x q1 rel1 r1 g1 => ?_⟩
  obtain ⟨c, rfl, rfl, q2⟩ := bl_inv r1 q1
  replace q1 := q2
  exact ⟨c, rfl, lk _ _ _ _ _ q1 rel1 (.bl _) g1⟩
theorem ae_ifExp (hc : ATst X c tt) (ha : AE X a ta) (hb : AE X b tb) : AE X (.IfExp c a b pos) (ifT tt ta tb) := wkE (pe_ifExp hc ha hb) fun σ H Q ⟨m, h, a, R, rel, rs, q, lk⟩ => by
  refine ⟨m, h, a, _, rel, rs, q, fun H1 m1 h1 b q1 rel1 g1 => ?_⟩
  cases b with
  | true =>
    rw [if_pos rfl] at q1 ⊢
    exact ⟨m1, h1, a, R, rel1, rs.mono g1, q1, Lk.on lk g1⟩
  | false =>
    rw [if_neg Bool.false_ne_true] at q1 ⊢
    exact ⟨m1, h1, a, R, rel1, rs.mono g1, q1, Lk.on lk g1⟩
end
end AL

/-! AL2: the operators, subscripts, stores, built-ins and methods by plain values. -/
namespace AL
open PySem PySem.Spec PyProof.Rows L2
theorem line : (sizeLine : Nat) = 16777216 := sizeLine_eq
section
variable {X : Cx}
/-- a result that is no object -/
theorem fin0 {K : PySem.W.Frag} {H : Hp} {m : List Addr} {h : AH} {R : AK} {Q : VK} {v : V} {x : AV} (rel : Rel K H m h) (lk : Lk K H m R Q) (q : R x h) (r : Rep K H m v x) : Q v H := lk _ _ _ _ _ q rel r .refl
theorem addR_ref {n k : Nat} {h : AH} {R : AK} (q : addR (.ref n) (.ref k) h R) : ∃ xs ys, h[n]? = some (.lst xs) ∧ h[k]? = some (.lst ys) ∧ xs.length + ys.length ≤ 16777216 ∧ R (.ref h.length) (h ++ [.lst (xs ++ ys)]) := by
  simp only [addR] at q
  split at q
  · rename_i xs ys e1 e2
    exact ⟨xs, ys, e1, e2, q.1, q.2⟩
  · exact q.elim
theorem op_addA : OpR X (binaryOp .Add) (up2 X.K addR) := by
  intro pins s σ H x y v u Q I rx ry ⟨m, h, ax, ay, R, rel, r1, r2, q, lk⟩
  cases ax with
  | int i =>
    cases r1
    cases ay with
    | int j =>
      cases r2
      exact op_add pins s σ H _ _ v u Q I rx ry ⟨i, j, rfl, rfl, fin0 rel lk q (.int _)⟩
    | bl j =>
      cases r2
      refine op_add_ib pins s σ H _ _ v u Q I rx ry ⟨i, j, rfl, rfl, ?_⟩
      have e : b2i j = if j then 1 else 0 := by cases j <;> rfl
      rw [e]
      exact fin0 rel lk q (.int _)
    | _ => exact (show False from q).elim
  | str a =>
    cases r1
    cases ay with
    | str b =>
      cases r2
      obtain ⟨q1, q2⟩ := q
      exact op_add_str pins s σ H _ _ v u Q I rx ry ⟨a, b, rfl, rfl, by rw [line]; exact q1, fin0 rel lk q2 (.str _)⟩
    | _ => exact (show False from q).elim
  | tup xs =>
    cases ay with
    | tup ys =>
      obtain ⟨q1, q2⟩ := q
      obtain ⟨p, vs, rfl, hp, rp⟩ := r1.tup_inv
      obtain ⟨p', ws, rfl, hp', rp'⟩ := r2.tup_inv
      refine op_catA pins s σ H _ _ v u Q I rx ry ⟨p, p', vs, ws, rfl, rfl, hp, hp', by rw [rp.len, rp'.len, line]; exact q1, fun e => ?_, fun _ e => ?_, fun _ _ b hb => ?_⟩
      · subst e
        have := rp.len
        have e2 : xs = [] := by simpa using this.symm
        subst e2
        exact fin0 rel lk q2 (.tup hp' rp'.len rp'.get)
      · subst e
        have := rp'.len
        have e2 : ys = [] := by simpa using this.symm
        subst e2
        rw [List.append_nil] at q2
        exact fin0 rel lk q2 (.tup hp rp.len rp.get)
      · exact lk _ _ _ _ _ q2 (rel.off hb) (RepL.tup (SqT.of upd_same) ((rp.append rp').mono (.off hb))) (.off hb)
    | _ => exact (show False from q).elim
  | ref n =>
    cases ay with
    | ref k =>
      obtain ⟨xs, ys, e1, e2, q1, q2⟩ := addR_ref q
      obtain ⟨p, vs, rfl, _, hp, rp⟩ := rel.lst r1 e1
      obtain ⟨p', ws, rfl, _, hp', rp'⟩ := rel.lst r2 e2
      refine op_cat pins s σ H _ _ v u Q I rx ry ⟨p, p', vs, ws, rfl, rfl, hp, hp', by rw [rp.len, rp'.len, line]; exact q1, fun b hb => ?_⟩
      exact lk _ _ _ _ _ q2 (rel.pushL hb (rp.append rp')) (.ref rel.last) (.new hb [b])
    | _ => exact (show False from q).elim
  | _ => exact (show False from q).elim
/-- two ints in, a value out -/
theorem op_intsA {f : Value → Value → Sem Value} {r : AR2} {C : Int → Int → Prop} {g : Int → Int → V} {ga : Int → Int → AV} (ho : OpR X f (rI C g)) (hi : ∀ i j h R, r (.int i) (.int j) h R → C i j ∧ R (ga i j) h) (hn : ∀ x y h R, r x y h R → ∃ i j, x = .int i ∧ y = .int j)
    (hg : ∀ i j H m, Rep X.K H m (g i j) (ga i j)) : OpR X f (up2 X.K r) := by
  intro pins s σ H x y v u Q I rx ry ⟨m, h, ax, ay, R, rel, r1, r2, q, lk⟩
  obtain ⟨i, j, rfl, rfl⟩ := hn _ _ _ _ q
  obtain ⟨c, q⟩ := hi _ _ _ _ q
  cases r1
  cases r2
  exact ho pins s σ H _ _ v u Q I rx ry ⟨i, j, rfl, rfl, c, fin0 rel lk q (hg _ _ _ _)⟩
theorem op_ints0 {f : Value → Value → Sem Value} {r : AR2} {g : Int → Int → V} {ga : Int → Int → AV} (ho : OpR X f (rI0 g)) (hi : ∀ i j h R, r (.int i) (.int j) h R → R (ga i j) h) (hn : ∀ x y h R, r x y h R → ∃ i j, x = .int i ∧ y = .int j)
    (hg : ∀ i j H m, Rep X.K H m (g i j) (ga i j)) : OpR X f (up2 X.K r) := by
  intro pins s σ H x y v u Q I rx ry ⟨m, h, ax, ay, R, rel, r1, r2, q, lk⟩
  obtain ⟨i, j, rfl, rfl⟩ := hn _ _ _ _ q
  have q := hi _ _ _ _ q
  cases r1
  cases r2
  exact ho pins s σ H _ _ v u Q I rx ry ⟨i, j, rfl, rfl, fin0 rel lk q (hg _ _ _ _)⟩
theorem two_ints {r : AR2} (h : ∀ x y h R, r x y h R → match x, y with
    | .int _, .int _ => True
    | _, _ => False) : ∀ x y h R, r x y h R → ∃ i j, x = .int i ∧ y = .int j := fun x y hh R q => by
  have z := h x y hh R q
  cases x <;> cases y <;> first | exact ⟨_, _, rfl, rfl⟩ | exact (show False from z).elim
theorem op_subA : OpR X (binaryOp .Sub) (up2 X.K subR) := op_ints0 op_sub (fun _ _ _ _ q => q) (two_ints fun x y _ _ q => by cases x <;> cases y <;> first | trivial | exact q) fun _ _ _ _ => .int _
theorem op_mulB : OpR X (binaryOp .Mult) (rI mulOk fun i j => .int (i * j)) := by
  intro pins s σ H x y v u Q I rx ry ⟨i, j, e1, e2, c, q⟩
  rcases c with c | c
  · exact op_mul pins s σ H x y v u Q I rx ry ⟨i, j, e1, e2, c, q⟩
  · exact op_mulW pins s σ H x y v u Q I rx ry ⟨i, j, e1, e2, c, q⟩
theorem op_mulA : OpR X (binaryOp .Mult) (up2 X.K mulR) := op_intsA op_mulB (fun _ _ _ _ q => q) (two_ints fun x y _ _ q => by cases x <;> cases y <;> first | trivial | exact q) fun _ _ _ _ => .int _
theorem op_fdivA : OpR X (binaryOp .FloorDiv) (up2 X.K fdivR) := op_intsA op_fdivW (fun _ _ _ _ q => q) (two_ints fun x y _ _ q => by cases x <;> cases y <;> first | trivial | exact q) fun _ _ _ _ => .int _
theorem op_modA : OpR X (binaryOp .Mod) (up2 X.K modR) := op_intsA op_mod (fun _ _ _ _ q => q) (two_ints fun x y _ _ q => by cases x <;> cases y <;> first | trivial | exact q) fun _ _ _ _ => .int _
theorem op_powA : OpR X (binaryOp .Pow) (up2 X.K powR) := op_intsA op_pow (fun _ _ _ _ q => q) (two_ints fun x y _ _ q => by cases x <;> cases y <;> first | trivial | exact q) fun _ _ _ _ => .int _
theorem op_shlA : OpR X (binaryOp .LShift) (up2 X.K shlR) := op_intsA op_shl (fun _ _ _ _ q => q) (two_ints fun x y _ _ q => by cases x <;> cases y <;> first | trivial | exact q) fun _ _ _ _ => .int _
theorem op_leA : OpR X (compareOp .LtE) (up2 X.K leR) := op_ints0 op_le (fun _ _ _ _ q => q) (two_ints fun x y _ _ q => by cases x <;> cases y <;> first | trivial | exact q) fun _ _ _ _ => .bl _
theorem op_gtA : OpR X (compareOp .Gt) (up2 X.K gtR) := op_ints0 op_gt (fun _ _ _ _ q => q) (two_ints fun x y _ _ q => by cases x <;> cases y <;> first | trivial | exact q) fun _ _ _ _ => .bl _
theorem op_geA : OpR X (compareOp .GtE) (up2 X.K geR) := op_ints0 op_ge (fun _ _ _ _ q => q) (two_ints fun x y _ _ q => by cases x <;> cases y <;> first | trivial | exact q) fun _ _ _ _ => .bl _
theorem op_ltA : OpR X (compareOp .Lt) (up2 X.K ltR) := by
  intro pins s σ H x y v u Q I rx ry ⟨m, h, ax, ay, R, rel, r1, r2, q, lk⟩
  cases ax with
  | int i =>
    cases r1
    cases ay with
    | int j =>
      cases r2
      exact op_lt pins s σ H _ _ v u Q I rx ry ⟨i, j, rfl, rfl, fin0 rel lk q (.bl _)⟩
    | _ => exact (show False from q).elim
  | str a =>
    cases r1
    cases ay with
    | str b =>
      cases r2
      exact op_lt_str pins s σ H _ _ v u Q I rx ry ⟨a, b, rfl, rfl, fin0 rel lk q (.bl _)⟩
    | _ => exact (show False from q).elim
  | _ => exact (show False from q).elim
theorem un_negA : UnR X (unaryOp .USub) (up1 X.K negR) := by
  intro pins s σ H x v Q I rx ⟨m, h, ax, R, rel, r1, q, lk⟩
  cases ax with
  | int i =>
    cases r1
    exact un_neg pins s σ H _ v Q I rx ⟨i, rfl, fin0 rel lk q (.int _)⟩
  | _ => exact (show False from q).elim
theorem isNon_eq {K : PySem.W.Frag} {H : Hp} {m : List Addr} {v : V} {x : AV} (r : Rep K H m v x) : decide (v = .non) = isNon x := by
  cases r <;> first | rfl | exact decide_eq_false (fun z => nomatch z)
theorem op_isNA : OpR X (compareOp .Is) (up2 X.K isNR) := by
  intro pins s σ H x y v u Q I rx ry ⟨m, h, ax, ay, R, rel, r1, r2, q, lk⟩
  cases ay with
  | non =>
    cases r2
    refine op_isN pins s σ H _ _ v u Q I rx ry ⟨rfl, ?_⟩
    rw [isNon_eq r1]
    exact fin0 rel lk (show R (.bl (isNon ax)) h by cases ax <;> exact q) (.bl _)
  | _ => exact (show False by cases ax <;> exact q).elim
theorem op_notNA : OpR X (compareOp .IsNot) (up2 X.K notNR) := by
  intro pins s σ H x y v u Q I rx ry ⟨m, h, ax, ay, R, rel, r1, r2, q, lk⟩
  cases ay with
  | non =>
    cases r2
    refine op_notN pins s σ H _ _ v u Q I rx ry ⟨rfl, ?_⟩
    rw [isNon_eq r1]
    exact fin0 rel lk (show R (.bl (!isNon ax)) h by cases ax <;> exact q) (.bl _)
  | _ => exact (show False by cases ax <;> exact q).elim

/-! ### == of data -/
mutual
def toPy : AV → PyData
  | .bl b => .bool b
  | .int i => .int i
  | .str x => .str x
  | .tup xs => .tuple (toPys xs)
  | _ => .none
def toPys : List AV → List PyData
  | [] => []
  | x :: r => toPy x :: toPys r
end
theorem plain_tup {n : Nat} {xs : List AV} (h : plainN (n + 1) (.tup xs) = true) : ∀ x ∈ xs, plainN n x = true := by
  unfold plainN at h
  exact List.all_eq_true.mp h
theorem dp_all {K : PySem.W.Frag} {H : Hp} {m : List Addr} {n : Nat} (ih : ∀ (x : AV) (v : V), plainN n x = true → Rep K H m v x → Dp K H v (toPy x)) : ∀ (xs : List AV) (vs : List V), RepL K H m vs xs → (∀ x ∈ xs, plainN n x = true) → DpAll K H vs (toPys xs)
  | [], vs, r, _ => by
    rw [r.nil_inv]
    unfold toPys
    exact .nil
  | x :: xs, vs, r, hs => by
    obtain ⟨w, ws, rfl, r1, r2⟩ := r.cons_inv
    unfold toPys
    exact .cons (ih x w (hs x List.mem_cons_self) r1) (dp_all ih xs ws r2 fun y hy => hs y (List.mem_cons_of_mem _ hy))
theorem dp_of {K : PySem.W.Frag} {H : Hp} {m : List Addr} (n : Nat) : ∀ (x : AV) (v : V), plainN n x = true → Rep K H m v x → Dp K H v (toPy x) := by
  induction n with
  | zero =>
    intro x v h r
    cases r with
    | non => unfold toPy; exact .non
    | bl b => unfold toPy; exact .bl b
    | int b => unfold toPy; exact .int b
    | str b => unfold toPy; exact .str b
    | _ => exact absurd (show false = true from h) (by decide)
  | succ n ih =>
    intro x v h r
    cases r with
    | tup hs hl hg =>
      unfold toPy
      exact .tup hs (dp_all ih _ _ ⟨hl, hg⟩ (plain_tup h))
    | non => unfold toPy; exact .non
    | bl b => unfold toPy; exact .bl b
    | int b => unfold toPy; exact .int b
    | str b => unfold toPy; exact .str b
    | _ => exact absurd (show false = true from h) (by decide)
theorem lay_all {n : Nat} (ih : ∀ x : AV, plainN n x = true → (toPy x).canLay0 = true ∧ (toPy x).depth ≤ n) : ∀ xs : List AV, (∀ x ∈ xs, plainN n x = true) → PyData.canLayAll0 (toPys xs) = true ∧ PyData.depthAll (toPys xs) ≤ n
  | [], _ => by
    unfold toPys PyData.canLayAll0 PyData.depthAll
    exact ⟨rfl, Nat.zero_le _⟩
  | x :: xs, hs => by
    obtain ⟨h1, h2⟩ := ih x (hs x List.mem_cons_self)
    obtain ⟨h3, h4⟩ := lay_all ih xs fun y hy => hs y (List.mem_cons_of_mem _ hy)
    unfold toPys PyData.canLayAll0 PyData.depthAll
    rw [h1, h3]
    exact ⟨rfl, Nat.max_le.mpr ⟨h2, h4⟩⟩
theorem lay_of (n : Nat) : ∀ x : AV, plainN n x = true → (toPy x).canLay0 = true ∧ (toPy x).depth ≤ n := by
  induction n with
  | zero =>
    intro x h
    cases x with
    | non => unfold toPy PyData.canLay0 PyData.depth; exact ⟨rfl, Nat.le_refl _⟩
    | bl b => unfold toPy PyData.canLay0 PyData.depth; exact ⟨rfl, Nat.le_refl _⟩
    | int b => unfold toPy PyData.canLay0 PyData.depth; exact ⟨rfl, Nat.le_refl _⟩
    | str b => unfold toPy PyData.canLay0 PyData.depth; exact ⟨h, Nat.le_refl _⟩
    | _ => exact absurd (show false = true from h) (by decide)
  | succ n ih =>
    intro x h
    cases x with
    | tup xs =>
      obtain ⟨h1, h2⟩ := lay_all ih xs (plain_tup h)
      unfold toPy PyData.canLay0 PyData.depth
      exact ⟨h1, Nat.succ_le_succ h2⟩
    | non => unfold toPy PyData.canLay0 PyData.depth; exact ⟨rfl, Nat.zero_le _⟩
    | bl b => unfold toPy PyData.canLay0 PyData.depth; exact ⟨rfl, Nat.zero_le _⟩
    | int b => unfold toPy PyData.canLay0 PyData.depth; exact ⟨rfl, Nat.zero_le _⟩
    | str b => unfold toPy PyData.canLay0 PyData.depth; exact ⟨h, Nat.zero_le _⟩
    | _ => exact absurd (show false = true from h) (by decide)
theorem shaped_of {n : Nat} {x : AV} (hn : n ≤ 64) (h : plainN n x = true) : SeqAt.shaped (toPy x) = true := by
  obtain ⟨h1, h2⟩ := lay_of n x h
  unfold SeqAt.shaped
  rw [h1, decide_eq_true (Nat.le_trans h2 hn)]
  rfl
theorem eqv_all {n : Nat} (ih : ∀ x y : AV, plainN n x = true → plainN n y = true → PyData.eqv (toPy x) (toPy y) = aeq x y) : ∀ xs ys : List AV, (∀ x ∈ xs, plainN n x = true) → (∀ x ∈ ys, plainN n x = true) → PyData.eqvAll (toPys xs) (toPys ys) = aeqs xs ys
  | [], [], _, _ => by simp [toPys, PyData.eqvAll, aeqs]
  | [], y :: ys, _, _ => by simp [toPys, PyData.eqvAll, aeqs]
  | x :: xs, [], _, _ => by simp [toPys, PyData.eqvAll, aeqs]
  | x :: xs, y :: ys, h1, h2 => by
    have e1 := ih x y (h1 x List.mem_cons_self) (h2 y List.mem_cons_self)
    have e2 := eqv_all ih xs ys (fun z hz => h1 z (List.mem_cons_of_mem _ hz)) (fun z hz => h2 z (List.mem_cons_of_mem _ hz))
    simp only [toPys, PyData.eqvAll, aeqs, e1, e2]
theorem eqv_of (n : Nat) : ∀ x y : AV, plainN n x = true → plainN n y = true → PyData.eqv (toPy x) (toPy y) = aeq x y := by
  induction n with
  | zero =>
    intro x y h1 h2
    cases x <;> cases y <;> first | (exact absurd (show false = true from h1) (by decide)) | (exact absurd (show false = true from h2) (by decide)) | simp only [toPy, PyData.eqv, aeq]
  | succ n ih =>
    intro x y h1 h2
    cases x <;> cases y <;> first | (exact absurd (show false = true from h1) (by decide)) | (exact absurd (show false = true from h2) (by decide)) | (simp only [toPy, PyData.eqv, aeq]; done) | simp only [toPy, PyData.eqv, aeq]
    exact eqv_all ih _ _ (plain_tup h1) (plain_tup h2)
theorem op_eqA (hu : X.A.units + 64 < cLine) : OpR X (compareOp .Eq) (up2 X.K eqR) := by
  intro pins s σ H x y v u Q I rx ry ⟨m, h, ax, ay, R, rel, r1, r2, ⟨p1, p2, q⟩, lk⟩
  refine op_eqD hu pins s σ H _ _ v u Q I rx ry ⟨toPy ax, toPy ay, dp_of 40 _ _ p1 r1, dp_of 40 _ _ p2 r2, shaped_of (by decide) p1, shaped_of (by decide) p2, ?_⟩
  rw [eqv_of 40 _ _ p1 p2]
  exact fin0 rel lk q (.bl _)
theorem op_neA (hu : X.A.units + 64 < cLine) : OpR X (compareOp .NotEq) (up2 X.K neR) := by
  intro pins s σ H x y v u Q I rx ry ⟨m, h, ax, ay, R, rel, r1, r2, ⟨p1, p2, q⟩, lk⟩
  refine op_neD hu pins s σ H _ _ v u Q I rx ry ⟨toPy ax, toPy ay, dp_of 40 _ _ p1 r1, dp_of 40 _ _ p2 r2, shaped_of (by decide) p1, shaped_of (by decide) p2, ?_⟩
  rw [eqv_of 40 _ _ p1 p2]
  exact fin0 rel lk q (.bl _)

/-! ### items -/
theorem atI_of {α : Type} {xs : List α} {i : Int} {v : α} (h : atA xs i = some v) : atI xs i = some v := by
  cases i with
  | ofNat k => exact atI_nat (j := k) h
  | negSucc k =>
    have h : (if k < xs.length then xs[xs.length - 1 - k]? else none) = some v := h
    by_cases hk : k < xs.length
    · rw [if_pos hk] at h
      have e : ixN xs.length (Int.negSucc k) = some (xs.length - 1 - k) := by
        unfold ixN
        rw [if_neg (by omega), if_pos (by omega)]
        congr 1
        omega
      unfold atI
      rw [e]
      exact h
    · rw [if_neg hk] at h
      cases h
theorem atA_rep {K : PySem.W.Frag} {H : Hp} {m : List Addr} {vs : List V} {xs : List AV} {i : Int} {x : AV} (r : RepL K H m vs xs) (h : atA xs i = some x) : ∃ v, atI vs i = some v ∧ Rep K H m v x := by
  cases i with
  | ofNat k =>
    obtain ⟨v, h1, h2⟩ := r.at (i := k) h
    exact ⟨v, atI_nat (j := k) h1, h2⟩
  | negSucc k =>
    have h : (if k < xs.length then xs[xs.length - 1 - k]? else none) = some x := h
    by_cases hk : k < xs.length
    · rw [if_pos hk] at h
      obtain ⟨v, h1, h2⟩ := r.at h
      refine ⟨v, atI_of (i := Int.negSucc k) ?_, h2⟩
      show (if k < vs.length then vs[vs.length - 1 - k]? else none) = some v
      rw [r.len, if_pos hk]
      exact h1
    · rw [if_neg hk] at h
      cases h
theorem kvGet_rep {K : PySem.W.Frag} {H : Hp} {m : List Addr} (k : Key) : ∀ {vs : List (Key × V)} {xs : List (Sum Int Str × AV)}, vs.map (·.1) = xs.map (·.1) → RepL K H m (vs.map (·.2)) (xs.map (·.2)) →
    (valV vs k = none ∧ kvGet xs k = none) ∨ ∃ v x, valV vs k = some v ∧ kvGet xs k = some x ∧ Rep K H m v x
  | [], [], _, _ => .inl ⟨rfl, rfl⟩
  | [], _ :: _, h, _ => by simp at h
  | _ :: _, [], h, _ => by simp at h
  | (k1, v) :: vs, (k2, x) :: xs, h, r => by
    simp only [List.map_cons, List.cons.injEq] at h r
    obtain ⟨rfl, h⟩ := h
    obtain ⟨w, ws, e, r1, r2⟩ := r.cons_inv
    simp only [List.cons.injEq] at e
    obtain ⟨rfl, rfl⟩ := e
    have ih := kvGet_rep k h r2
    by_cases e : k1 = k
    · exact .inr ⟨v, x, valV_pos (p := (k1, v)) e, by simp [kvGet, List.find?_cons, e], r1⟩
    · rw [valV_neg (p := (k1, v)) e]
      have e2 : kvGet ((k1, x) :: xs) k = kvGet xs k := by simp [kvGet, List.find?_cons, e]
      rw [e2]
      exact ih
theorem ixL_inv {n : Nat} {k : AV} {h : AH} {R : AK} (q : ixR (.ref n) k h R) : (∃ xs i v, h[n]? = some (.lst xs) ∧ k = .int i ∧ atA xs i = some v ∧ R v h) ∨ ∃ kvs key v, h[n]? = some (.dct kvs) ∧ keyOf k = some key ∧ kvGet kvs key = some v ∧ R v h := by
  simp only [ixR] at q
  split at q
  · rename_i xs e
    split at q
    · rename_i i
      split at q
      · rename_i v e2
        exact .inl ⟨xs, i, v, e, rfl, e2, q⟩
      · exact q.elim
    · exact q.elim
  · rename_i kvs e
    split at q
    · rename_i key e1
      split at q
      · rename_i v e2
        exact .inr ⟨kvs, key, v, e, e1, e2, q⟩
      · exact q.elim
    · exact q.elim
  · exact q.elim
theorem ixT_inv {xs : List AV} {i : Int} {h : AH} {R : AK} (q : ixR (.tup xs) (.int i) h R) : ∃ v, atA xs i = some v ∧ R v h := by
  simp only [ixR] at q
  split at q
  · rename_i v e
    exact ⟨v, e, q⟩
  · exact q.elim
theorem ixRo_inv {xs : List AV} {i : Int} {h : AH} {R : AK} (q : ixR (.rol xs) (.int i) h R) : ∃ v, atA xs i = some v ∧ R v h := by
  simp only [ixR] at q
  split at q
  · rename_i v e
    exact ⟨v, e, q⟩
  · exact q.elim
theorem ixS_inv {z : Str} {i : Int} {h : AH} {R : AK} (q : ixR (.str z) (.int i) h R) : z.length ≤ 16777216 ∧ ∃ c, atA z.cps.toList i = some c ∧ R (.str ⟨#[c]⟩) h := by
  simp only [ixR] at q
  obtain ⟨q1, q⟩ := q
  split at q
  · rename_i v e
    exact ⟨q1, v, e, q⟩
  · exact q.elim
theorem key_rep {K : PySem.W.Frag} {H : Hp} {m : List Addr} {v : V} {x : AV} {k : Key} (r : Rep K H m v x) (e : keyOf x = some k) : v = kV k := by
  cases r with
  | int i => cases e; rfl
  | str i => cases e; rfl
  | _ => cases e
theorem ix_dict (hu : X.A.units + 1 < cLine) : IxR X (fun x y H Q => ∃ a v, x = V.ref a ∧ DGet H a y (some v) ∧ Q v H) := by
  intro value slice pins s σ H x y v u Q I rx ry ⟨a, w, ex, g, q⟩ hs
  subst ex
  obtain rfl : v = Value.ref a := rx
  exact tail_any (dict_typeIs I g) PySem.F.slot_dict_getitem.lookup (d_getItem (by omega) I g ry fun w' s3 I3 rw' => ⟨w, H, I3, rw', q⟩) hs
theorem ix_A (hu : X.A.units + 1 < cLine) : IxR X (up2 X.K ixR) := by
  intro value slice pins s σ H x y v u Q I rx ry ⟨m, h, ax, ay, R, rel, r1, r2, q, lk⟩ hs
  cases ax with
  | tup xs =>
    cases ay with
    | int i =>
      cases r2
      obtain ⟨z, e, q⟩ := ixT_inv q
      obtain ⟨p, vs, rfl, hp, rp⟩ := r1.tup_inv
      obtain ⟨w, e2, r3⟩ := atA_rep rp e
      exact ix_tup value slice pins s σ H _ _ v u Q I rx ry ⟨p, vs, i, w, rfl, rfl, hp, e2, fin0 rel lk q r3⟩ hs
    | _ => exact (show False from q).elim
  | rol xs =>
    cases ay with
    | int i =>
      cases r2
      obtain ⟨z, e, q⟩ := ixRo_inv q
      obtain ⟨p, vs, rfl, hp, rp⟩ := r1.rol_inv
      obtain ⟨w, e2, r3⟩ := atA_rep rp e
      exact ix_list value slice pins s σ H _ _ v u Q I rx ry ⟨p, vs, i, w, rfl, rfl, hp.sq, e2, fin0 rel lk q r3⟩ hs
    | _ => exact (show False from q).elim
  | str z =>
    cases r1
    cases ay with
    | int i =>
      cases r2
      obtain ⟨hz, c, e, q⟩ := ixS_inv q
      exact ix_str value slice pins s σ H _ _ v u Q I rx ry ⟨z, i, c, rfl, rfl, by rw [line]; exact hz, atI_of e, fin0 rel lk q (.str _)⟩ hs
    | _ => exact (show False from q).elim
  | ref n =>
    rcases ixL_inv q with ⟨xs, i, z, e, rfl, e1, q⟩ | ⟨kvs, key, z, e, e1, e2, q⟩
    · cases r2
      obtain ⟨p, vs, rfl, _, hp, rp⟩ := rel.lst r1 e
      obtain ⟨w, e2, r3⟩ := atA_rep rp e1
      exact ix_list value slice pins s σ H _ _ v u Q I rx ry ⟨p, vs, i, w, rfl, rfl, SqL.of hp, e2, fin0 rel lk q r3⟩ hs
    · obtain ⟨p, vs, rfl, _, hp, hk, rp⟩ := rel.dct r1 e
      rcases kvGet_rep key hk rp with ⟨z1, z2⟩ | ⟨w, z', z1, z2, r3⟩
      · rw [e2] at z2
        cases z2
      · rw [e2] at z2
        cases z2
        have ey := key_rep r2 e1
        subst ey
        exact ix_dict hu value slice pins s σ H _ _ v u Q I rx ry ⟨p, w, rfl, by rw [← z1]; exact DGet.k hp, fin0 rel lk q r3⟩ hs
  | _ => exact (show False from q).elim

/-! ### stores -/
theorem setR_inv {n : Nat} {k v : AV} {h : AH} {R : AH → Prop} (q : setR (.ref n) k v h R) : (∃ xs j, h[n]? = some (.lst xs) ∧ k = .int (.ofNat j) ∧ j < xs.length ∧ R (h.set n (.lst (xs.set j v)))) ∨
    ∃ kvs key, h[n]? = some (.dct kvs) ∧ keyOf k = some key ∧ kvs.length < 16777216 ∧ R (h.set n (.dct (kvPut kvs key v))) := by
  simp only [setR] at q
  split at q
  · rename_i xs e
    split at q
    · rename_i j
      exact .inl ⟨xs, j, e, rfl, q.1, q.2⟩
    · exact q.elim
  · rename_i kvs e
    split at q
    · rename_i key e1
      exact .inr ⟨kvs, key, e, e1, q.1, q.2⟩
    · exact q.elim
  · exact q.elim
theorem kvPut_rep {K : PySem.W.Frag} {H : Hp} {m : List Addr} (k : Key) {v : V} {x : AV} (rv : Rep K H m v x) {vs : List (Key × V)} {xs : List (Sum Int Str × AV)} (hk : vs.map (·.1) = xs.map (·.1)) (r : RepL K H m (vs.map (·.2)) (xs.map (·.2))) :
    (putK vs k v).map (·.1) = (kvPut xs k x).map (·.1) ∧ RepL K H m ((putK vs k v).map (·.2)) ((kvPut xs k x).map (·.2)) := by
  have ha : ∀ {vs : List (Key × V)} {xs : List (Sum Int Str × AV)}, vs.map (·.1) = xs.map (·.1) → (vs.any fun kv => decide (kv.1 = k)) = (xs.any fun kv => decide (kv.1 = k)) := by
    intro vs
    induction vs with
    | nil => intro xs h; cases xs with
      | nil => rfl
      | cons => simp at h
    | cons p vs ih => intro xs h; cases xs with
      | nil => simp at h
      | cons q xs =>
        simp only [List.map_cons, List.cons.injEq] at h
        rw [List.any_cons, List.any_cons, h.1, ih h.2]
  have hm : ∀ {vs : List (Key × V)} {xs : List (Sum Int Str × AV)}, vs.map (·.1) = xs.map (·.1) → RepL K H m (vs.map (·.2)) (xs.map (·.2)) →
      (vs.map fun kv => if kv.1 = k then (kv.1, v) else kv).map (·.1) = (xs.map fun kv => if kv.1 = k then (kv.1, x) else kv).map (·.1) ∧
      RepL K H m ((vs.map fun kv => if kv.1 = k then (kv.1, v) else kv).map (·.2)) ((xs.map fun kv => if kv.1 = k then (kv.1, x) else kv).map (·.2)) := by
    intro vs
    induction vs with
    | nil => intro xs h r; cases xs with
      | nil => exact ⟨rfl, .nil⟩
      | cons => simp at h
    | cons p vs ih => intro xs h r; cases xs with
      | nil => simp at h
      | cons q xs =>
        simp only [List.map_cons, List.cons.injEq] at h r
        obtain ⟨w, ws, e, r1, r2⟩ := r.cons_inv
        simp only [List.cons.injEq] at e
        obtain ⟨rfl, rfl⟩ := e
        obtain ⟨i1, i2⟩ := ih h.2 r2
        simp only [List.map_cons]
        have hq : q.1 = p.1 := h.1.symm
        by_cases e : p.1 = k
        · rw [if_pos e, if_pos (hq.trans e)]
          exact ⟨by rw [i1, hq], .cons rv i2⟩
        · rw [if_neg e, if_neg (by rw [hq]; exact e)]
          exact ⟨by rw [i1, hq], .cons r1 i2⟩
  unfold putK kvPut
  rw [ha hk]
  split
  · exact hm hk r
  · rw [List.map_append, List.map_append, List.map_append, List.map_append]
    exact ⟨by rw [hk]; rfl, r.append (.cons rv .nil)⟩
def upSet (K : PySem.W.Frag) (r : AV → AV → AV → AH → (AH → Prop) → Prop) : TSet := fun o i v H Q => ∃ m h ao ai av R, Rel K H m h ∧ Rep K H m o ao ∧ Rep K H m i ai ∧ Rep K H m v av ∧ r ao ai av h R ∧ LkH K H m R Q
theorem set_A (hu : X.A.units + 1 < cLine) : PSet X (upSet X.K setR) := by
  intro pins s σ H o i v ov iv u Q I ro ri rv ⟨m, h, ao, ai, av, R, rel, r1, r2, r3, q, lk⟩
  cases ao with
  | ref n =>
    rcases setR_inv q with ⟨xs, j, e, rfl, hj, q⟩ | ⟨kvs, key, e, ek, hz, q⟩
    · cases r2
      obtain ⟨p, vs, rfl, hn, hp, rp⟩ := rel.lst r1 e
      refine set_list pins s σ H _ _ _ ov iv u Q I ro ri rv ⟨p, vs, _, j, rfl, rfl, hp, ?_, ?_⟩
      · unfold ixN
        rw [rp.len, if_pos (show (0 : Int) ≤ Int.ofNat j from Int.natCast_nonneg j), if_pos (show Int.ofNat j < (xs.length : Int) by show (j : Int) < _; omega)]
        rfl
      · exact lk _ _ _ q (rel.write hn e (.lst hp) ⟨_, upd_same, (rp.set r3 j).mono (.lst hp)⟩) (.lst hp)
    · obtain ⟨p, vs, rfl, hn, hp, hk, rp⟩ := rel.dct r1 e
      have ey := key_rep r2 ek
      subst ey
      have hl : vs.length = kvs.length := by
        have := congrArg List.length hk
        simpa using this
      cases (show ov = Value.ref p from ro)
      refine d_setItem hu I (DPut.k hp (by rw [hl, line]; exact hz)) ri rv fun s' I' => ⟨_, I', ?_⟩
      obtain ⟨k1, k2⟩ := kvPut_rep key r3 hk rp
      exact lk _ _ _ q (rel.write hn e (.dK hp) ⟨_, upd_same, k1, k2.mono (.dK hp)⟩) (.dK hp)
  | _ => exact (show False from q).elim
/-- o[i] by values, for o[i] op= e -/
theorem get_A (hu : X.A.units + 1 < cLine) : PGet X (up2 X.K ixR) := by
  intro pins s σ H x y v u Q I rx ry ⟨m, h, ax, ay, R, rel, r1, r2, q, lk⟩
  cases ax with
  | ref n =>
    rcases ixL_inv q with ⟨xs, i, z, e, rfl, e1, q⟩ | ⟨kvs, key, z, e, e1, e2, q⟩
    · cases r2
      obtain ⟨p, vs, rfl, _, hp, rp⟩ := rel.lst r1 e
      obtain ⟨w, e2, r3⟩ := atA_rep rp e1
      cases (show v = Value.ref p from rx)
      obtain ⟨t, rfl⟩ := ry
      obtain ⟨its, r, pl, hz⟩ := I.list (SqL.of hp)
      obtain ⟨j, h1, h2, h3, h4, h5⟩ := atI_get e2
      obtain ⟨w', ew, rw'⟩ := r.get h2
      have hl := r.length
      have hn := line63
      have fin : EP X pins σ Q w' s := ⟨w, H, I, rw', fin0 rel lk q r3⟩
      by_cases h0 : 0 ≤ i
      · have hj : i.toNat = j := by
          rw [seqIndex_of h0 h5] at h1
          exact Option.some.inj h1
        exact wpAny_getItem_list pl.isList h0 (by omega) (by rw [hj]; simpa using ew) fin
      · have hj : (i + (its.toArray.size : Int)).toNat = j := by
          rw [seqIndex_neg (by omega) h4] at h1
          rw [List.size_toArray, ← hl]
          exact Option.some.inj h1
        exact wpAny_getItem_list_neg pl.isList (by omega) (by rw [List.size_toArray] <;> omega) (by omega) (by rw [hj]; simpa using ew) fin
    · obtain ⟨p, vs, rfl, _, hp, hk, rp⟩ := rel.dct r1 e
      rcases kvGet_rep key hk rp with ⟨z1, z2⟩ | ⟨w, z', z1, z2, r3⟩
      · rw [e2] at z2
        cases z2
      · rw [e2] at z2
        cases z2
        have ey := key_rep r2 e1
        subst ey
        cases (show v = Value.ref p from rx)
        exact d_getItem hu I (by rw [← z1]; exact DGet.k hp) ry fun w' s3 I3 rw' => ⟨w, H, I3, rw', fin0 rel lk q r3⟩
  | tup xs =>
    cases ay with
    | int i =>
      cases r2
      obtain ⟨z, e, q⟩ := ixT_inv q
      obtain ⟨p, vs, rfl, hp, rp⟩ := r1.tup_inv
      obtain ⟨w, e2, r3⟩ := atA_rep rp e
      cases (show v = Value.ref p from rx)
      obtain ⟨t, rfl⟩ := ry
      obtain ⟨its, r, pl, hz⟩ := I.tuple hp
      obtain ⟨j, h1, h2, h3, h4, h5⟩ := atI_get e2
      obtain ⟨w', ew, rw'⟩ := r.get h2
      have hl := r.length
      have hn := line63
      exact PyProof.Rows.getItem_tuple (j := j) pl (by omega) (by omega) (by rw [List.size_toArray, ← hl]; exact h1) (by simpa using ew) ⟨w, H, I, rw', fin0 rel lk q r3⟩
    | _ => exact (show False from q).elim
  | rol xs =>
    cases ay with
    | int i =>
      cases r2
      obtain ⟨z, e, q⟩ := ixRo_inv q
      obtain ⟨p, vs, rfl, hp, rp⟩ := r1.rol_inv
      obtain ⟨w, e2, r3⟩ := atA_rep rp e
      cases (show v = Value.ref p from rx)
      obtain ⟨t, rfl⟩ := ry
      obtain ⟨its, r, pl, hz⟩ := I.list hp.sq
      obtain ⟨j, h1, h2, h3, h4, h5⟩ := atI_get e2
      obtain ⟨w', ew, rw'⟩ := r.get h2
      have hl := r.length
      have hn := line63
      have fin : EP X pins σ Q w' s := ⟨w, H, I, rw', fin0 rel lk q r3⟩
      by_cases h0 : 0 ≤ i
      · have hj : i.toNat = j := by
          rw [seqIndex_of h0 h5] at h1
          exact Option.some.inj h1
        exact wpAny_getItem_list pl.isList h0 (by omega) (by rw [hj]; simpa using ew) fin
      · have hj : (i + (its.toArray.size : Int)).toNat = j := by
          rw [seqIndex_neg (by omega) h4] at h1
          rw [List.size_toArray, ← hl]
          exact Option.some.inj h1
        exact wpAny_getItem_list_neg pl.isList (by omega) (by rw [List.size_toArray] <;> omega) (by omega) (by rw [hj]; simpa using ew) fin
    | _ => exact (show False from q).elim
  | str z =>
    cases r1
    cases ay with
    | int i =>
      cases r2
      obtain ⟨hz, c, e, q⟩ := ixS_inv q
      have he := atI_of e
      obtain ⟨t, rfl⟩ := rx
      obtain ⟨t', rfl⟩ := ry
      obtain ⟨j, h1, h2, h3, h4, h5⟩ := atI_get he
      have hl : z.cps.toList.length = z.length := by simp [Str.length]
      rw [hl] at h1 h4 h5
      have hn := line63
      have hz' : z.length ≤ sizeLine := by rw [line]; exact hz
      exact getItem_str (c := c) (by
        have e1 : decide (i < -(2 ^ 63 : Int)) = false := decide_eq_false (by omega)
        have e2 : decide (i ≥ 2 ^ 63) = false := decide_eq_false (by omega)
        rw [e1, e2, Bool.or_false]) (by rw [h1]; simpa using h2) ⟨.str ⟨#[c]⟩, H, I.tok _, ⟨_, rfl⟩, fin0 rel lk q (.str _)⟩
    | _ => exact (show False from q).elim
  | _ => exact (show False from q).elim

/-! ### truth -/
theorem truR_inv {n : Nat} {h : AH} {R : Bool → AH → Prop} (q : truR (.ref n) h R) : (∃ xs, h[n]? = some (.lst xs) ∧ R (!xs.isEmpty) h) ∨ ∃ kvs, h[n]? = some (.dct kvs) ∧ R (!kvs.isEmpty) h := by
  simp only [truR] at q
  split at q
  · rename_i xs e
    exact .inl ⟨xs, e, q⟩
  · rename_i xs e
    exact .inr ⟨xs, e, q⟩
  · exact q.elim
theorem emp_rep {α β : Type} {vs : List α} {xs : List β} (h : vs.length = xs.length) : vs.isEmpty = xs.isEmpty := by
  cases vs <;> cases xs <;> first | rfl | simp at h
theorem tru_A : TruR X (upB X.K truR) := by
  intro pins s σ H x v Q I rx ⟨m, h, ax, R, rel, r1, q, lk⟩
  have go : ∀ k, TruV X.K x H k → Q k H → wpAny (model X.prog X.w) X.A (truthy v) (TP X pins σ Q) X.xe s := fun k e q => tru_ok pins s σ H x v Q I rx ⟨k, e, q⟩
  cases ax with
  | non => cases r1; exact go false rfl (lk _ _ _ _ q rel .refl)
  | bl b => cases r1; exact go b rfl (lk _ _ _ _ q rel .refl)
  | int b => cases r1; exact go _ rfl (lk _ _ _ _ q rel .refl)
  | str b =>
    cases r1
    obtain ⟨q1, q2⟩ := q
    have e : ((b.length : Int) != 0) = (b.length != 0) := by
      cases hb : b.length with
      | zero => rfl
      | succ k =>
        have h1 : (((k + 1 : Nat) : Int) != 0) = true := by
          rw [bne_iff_ne]
          omega
        rw [h1]
        rfl
    exact go _ ⟨by rw [line]; exact q1, rfl⟩ (by rw [e]; exact lk _ _ _ _ q2 rel .refl)
  | tup xs =>
    obtain ⟨p, vs, rfl, hp, rp⟩ := r1.tup_inv
    exact go _ (.inr (.inl ⟨vs, hp, rfl⟩)) (by rw [emp_rep rp.len]; exact lk _ _ _ _ q rel .refl)
  | rol xs =>
    obtain ⟨p, vs, rfl, hp, rp⟩ := r1.rol_inv
    exact go _ (.inl ⟨vs, hp.sq, rfl⟩) (by rw [emp_rep rp.len]; exact lk _ _ _ _ q rel .refl)
  | ref n =>
    rcases truR_inv q with ⟨xs, e, q⟩ | ⟨kvs, e, q⟩
    · obtain ⟨p, vs, rfl, _, hp, rp⟩ := rel.lst r1 e
      exact go _ (.inl ⟨vs, SqL.of hp, rfl⟩) (by rw [emp_rep rp.len]; exact lk _ _ _ _ q rel .refl)
    · obtain ⟨p, vs, rfl, _, hp, hk, rp⟩ := rel.dct r1 e
      exact go _ (.inr (.inr ⟨vs, hp, rfl⟩)) (by rw [emp_rep (by simpa using congrArg List.length hk)]; exact lk _ _ _ _ q rel .refl)
  | ty n => exact (show False from q).elim

/-! ### built-ins -/
theorem lenR_inv {n : Nat} {h : AH} {R : AK} (q : lenR [.ref n] h R) : (∃ xs, h[n]? = some (.lst xs) ∧ R (.int xs.length) h) ∨ ∃ kvs, h[n]? = some (.dct kvs) ∧ R (.int kvs.length) h := by
  simp only [lenR] at q
  split at q
  · rename_i xs e
    exact .inl ⟨xs, e, q⟩
  · rename_i xs e
    exact .inr ⟨xs, e, q⟩
  · exact q.elim
theorem one_inv {r : ARL} {xs : List AV} {h : AH} {R : AK} (q : r xs h R) (h0 : r [] h R → False) (h2 : ∀ x y t, r (x :: y :: t) h R → False) : ∃ x, xs = [x] := by
  match xs, q with
  | [], q => exact (h0 q).elim
  | [x], _ => exact ⟨x, rfl⟩
  | x :: y :: t, q => exact (h2 x y t q).elim
theorem call_lenA : CallR X (.builtin "len") (upL X.K lenR) := by
  intro pins s σ H xs us Q I rs ⟨m, h, as, R, rel, ra, q, lk⟩
  obtain ⟨x, rfl⟩ := one_inv q (fun z => z) (fun x y t z => by cases x <;> exact z)
  obtain ⟨v, ws, rfl, rv, rw⟩ := ra.cons_inv
  obtain rfl := rw.nil_inv
  cases x with
  | tup ys =>
    obtain ⟨p, vs, rfl, hp, rp⟩ := rv.tup_inv
    exact call_len_seq pins s σ H _ us Q I rs ⟨p, vs, rfl, .inr hp, by rw [rp.len]; exact fin0 rel lk q (.int _)⟩
  | rol ys =>
    obtain ⟨p, vs, rfl, hp, rp⟩ := rv.rol_inv
    exact call_len_seq pins s σ H _ us Q I rs ⟨p, vs, rfl, .inl hp.sq, by rw [rp.len]; exact fin0 rel lk q (.int _)⟩
  | str z =>
    cases rv
    obtain ⟨q1, q2⟩ := q
    exact call_len_str pins s σ H _ us Q I rs ⟨z, rfl, by rw [line]; exact q1, fin0 rel lk q2 (.int _)⟩
  | ref n =>
    rcases lenR_inv q with ⟨ys, e, q⟩ | ⟨kvs, e, q⟩
    · obtain ⟨p, vs, rfl, _, hp, rp⟩ := rel.lst rv e
      exact call_len_seq pins s σ H _ us Q I rs ⟨p, vs, rfl, .inl (SqL.of hp), by rw [rp.len]; exact fin0 rel lk q (.int _)⟩
    · obtain ⟨p, vs, rfl, _, hp, hk, rp⟩ := rel.dct rv e
      have hl : vs.length = kvs.length := by simpa using congrArg List.length hk
      exact call_lenD pins s σ H _ us Q I rs ⟨p, vs, rfl, hp, by rw [hl]; exact fin0 rel lk q (.int _)⟩
  | _ => exact (show False from q).elim
theorem call_absA : CallR X (.builtin "abs") (upL X.K absR) := by
  intro pins s σ H xs us Q I rs ⟨m, h, as, R, rel, ra, q, lk⟩
  obtain ⟨x, rfl⟩ := one_inv q (fun z => z) (fun x y t z => by cases x <;> exact z)
  obtain ⟨v, ws, rfl, rv, rw⟩ := ra.cons_inv
  obtain rfl := rw.nil_inv
  cases x with
  | int i =>
    cases rv
    exact call_abs pins s σ H _ us Q I rs ⟨i, rfl, fin0 rel lk q (.int _)⟩
  | _ => exact (show False from q).elim
theorem call_intA : CallR X (.type "int") (upL X.K intR) := by
  intro pins s σ H xs us Q I rs ⟨m, h, as, R, rel, ra, q, lk⟩
  obtain ⟨x, rfl⟩ := one_inv q (fun z => z) (fun x y t z => by cases x <;> exact z)
  obtain ⟨v, ws, rfl, rv, rw⟩ := ra.cons_inv
  obtain rfl := rw.nil_inv
  cases x with
  | int i =>
    cases rv
    exact call_int1 pins s σ H _ us Q I rs (.inl ⟨i, rfl, fin0 rel lk q (.int _)⟩)
  | bl i =>
    cases rv
    exact call_int1 pins s σ H _ us Q I rs (.inr ⟨i, rfl, fin0 rel lk q (.int _)⟩)
  | _ => exact (show False from q).elim
theorem call_strA : CallR X (.type "str") (upL X.K strR) := by
  intro pins s σ H xs us Q I rs ⟨m, h, as, R, rel, ra, q, lk⟩
  obtain ⟨x, rfl⟩ := one_inv q (fun z => z) (fun x y t z => by cases x <;> exact z)
  obtain ⟨v, ws, rfl, rv, rw⟩ := ra.cons_inv
  obtain rfl := rw.nil_inv
  cases x with
  | int i =>
    cases rv
    exact call_str_int pins s σ H _ us Q I rs ⟨i, rfl, q.1, fin0 rel lk q.2 (.str _)⟩
  | _ => exact (show False from q).elim
theorem two_inv {r : ARL} {xs : List AV} {h : AH} {R : AK} (q : r xs h R) (h0 : r [] h R → False) (h1 : ∀ x, r [x] h R → False) (h3 : ∀ x y z t, r (x :: y :: z :: t) h R → False) : ∃ x y, xs = [x, y] := by
  match xs, q with
  | [], q => exact (h0 q).elim
  | [x], q => exact (h1 x q).elim
  | [x, y], _ => exact ⟨x, y, rfl⟩
  | x :: y :: z :: t, q => exact (h3 x y z t q).elim
theorem call_gcdA : CallR X (.builtin "math.gcd") (upL X.K gcdR) := by
  intro pins s σ H xs us Q I rs ⟨m, h, as, R, rel, ra, q, lk⟩
  obtain ⟨x, y, rfl⟩ := two_inv q (fun z => z) (fun x z => by cases x <;> exact z) (fun x y z t w => by cases x <;> cases y <;> exact w)
  obtain ⟨v, ws, rfl, rv, rw⟩ := ra.cons_inv
  obtain ⟨v2, ws2, rfl, rv2, rw2⟩ := rw.cons_inv
  obtain rfl := rw2.nil_inv
  cases x with
  | int i =>
    cases y with
    | int j =>
      cases rv
      cases rv2
      exact cr_gcd pins s σ H _ us Q I rs ⟨i, j, rfl, fin0 rel lk q (.int _)⟩
    | _ => exact (show False from q).elim
  | _ => exact (show False by cases y <;> exact q).elim
theorem tupleR_inv {n : Nat} {h : AH} {R : AK} (q : tupleR [.ref n] h R) : ∃ xs, h[n]? = some (.lst xs) ∧ R (.tup xs) h := by
  simp only [tupleR] at q
  split at q
  · rename_i xs e
    exact ⟨xs, e, q⟩
  · exact q.elim
theorem call_tupleA : CallR X (.type "tuple") (upL X.K tupleR) := by
  intro pins s σ H xs us Q I rs ⟨m, h, as, R, rel, ra, q, lk⟩
  obtain ⟨x, rfl⟩ := one_inv q (fun z => z) (fun x y t z => by cases x <;> exact z)
  obtain ⟨v, ws, rfl, rv, rw⟩ := ra.cons_inv
  obtain rfl := rw.nil_inv
  cases x with
  | tup ys =>
    obtain ⟨p, vs, rfl, hp, rp⟩ := rv.tup_inv
    exact call_tuple_of pins s σ H _ us Q I rs ⟨p, vs, rfl, .inr ⟨hp, fin0 rel lk q rv⟩⟩
  | rol ys =>
    obtain ⟨p, vs, rfl, hp, rp⟩ := rv.rol_inv
    exact call_tuple_of pins s σ H _ us Q I rs ⟨p, vs, rfl, .inl ⟨hp.sq, fun l hl => lk _ _ _ _ _ q (rel.off hl) (RepL.tup (SqT.of upd_same) (rp.mono (.off hl))) (.off hl)⟩⟩
  | ref n =>
    obtain ⟨ys, e, q⟩ := tupleR_inv q
    obtain ⟨p, vs, rfl, _, hp, rp⟩ := rel.lst rv e
    exact call_tuple_of pins s σ H _ us Q I rs ⟨p, vs, rfl, .inl ⟨SqL.of hp, fun l hl => lk _ _ _ _ _ q (rel.off hl) (RepL.tup (SqT.of upd_same) (rp.mono (.off hl))) (.off hl)⟩⟩
  | _ => exact (show False from q).elim
theorem listR_inv {n : Nat} {h : AH} {R : AK} (q : listR [.ref n] h R) : ∃ xs, h[n]? = some (.lst xs) ∧ R (.ref h.length) (h ++ [.lst xs]) := by
  simp only [listR] at q
  split at q
  · rename_i xs e
    exact ⟨xs, e, q⟩
  · exact q.elim
theorem call_listA : CallR X (.type "list") (upL X.K listR) := by
  intro pins s σ H xs us Q I rs ⟨m, h, as, R, rel, ra, q, lk⟩
  obtain ⟨x, rfl⟩ := one_inv q (fun z => z) (fun x y t z => by cases x <;> exact z)
  obtain ⟨v, ws, rfl, rv, rw⟩ := ra.cons_inv
  obtain rfl := rw.nil_inv
  cases x with
  | tup ys =>
    obtain ⟨p, vs, rfl, hp, rp⟩ := rv.tup_inv
    exact call_list_of pins s σ H _ us Q I rs ⟨p, vs, rfl, .inr hp, fun l hl => lk _ _ _ _ _ q (rel.pushL hl rp) (.ref rel.last) (.new hl [l])⟩
  | rol ys =>
    obtain ⟨p, vs, rfl, hp, rp⟩ := rv.rol_inv
    exact call_list_of pins s σ H _ us Q I rs ⟨p, vs, rfl, .inl hp.sq, fun l hl => lk _ _ _ _ _ q (rel.pushL hl rp) (.ref rel.last) (.new hl [l])⟩
  | ref n =>
    obtain ⟨ys, e, q⟩ := listR_inv q
    obtain ⟨p, vs, rfl, _, hp, rp⟩ := rel.lst rv e
    exact call_list_of pins s σ H _ us Q I rs ⟨p, vs, rfl, .inl (SqL.of hp), fun l hl => lk _ _ _ _ _ q (rel.pushL hl rp) (.ref rel.last) (.new hl [l])⟩
  | _ => exact (show False from q).elim
theorem blsOf_rep {K : PySem.W.Frag} {H : Hp} {m : List Addr} : ∀ {vs : List V} {xs : List AV} {bs : List Bool}, RepL K H m vs xs → blsOf xs = some bs → vs = bs.map V.bl
  | vs, [], bs, r, e => by
    cases e
    exact r.nil_inv
  | vs, x :: xs, bs, r, e => by
    obtain ⟨w, ws, rfl, r1, r2⟩ := r.cons_inv
    cases x with
    | bl b =>
      cases r1
      simp only [blsOf] at e
      cases e2 : blsOf xs with
      | none => rw [e2] at e; cases e
      | some cs =>
        rw [e2] at e
        cases e
        rw [blsOf_rep r2 e2]
        rfl
    | _ => simp [blsOf] at e
theorem allR_inv {n : Nat} {h : AH} {R : AK} (q : allR [.ref n] h R) : ∃ xs bs, h[n]? = some (.lst xs) ∧ blsOf xs = some bs ∧ R (.bl (bs.all id)) h := by
  simp only [allR] at q
  split at q
  · rename_i xs e
    split at q
    · rename_i bs e2
      exact ⟨xs, bs, e, e2, q⟩
    · exact q.elim
  · exact q.elim
theorem anyR_inv {n : Nat} {h : AH} {R : AK} (q : anyR [.ref n] h R) : ∃ xs bs, h[n]? = some (.lst xs) ∧ blsOf xs = some bs ∧ R (.bl (bs.any id)) h := by
  simp only [anyR] at q
  split at q
  · rename_i xs e
    split at q
    · rename_i bs e2
      exact ⟨xs, bs, e, e2, q⟩
    · exact q.elim
  · exact q.elim
theorem call_allA (hc : X.calm = true) : CallR X (.builtin "all") (upL X.K allR) := by
  intro pins s σ H xs us Q I rs ⟨m, h, as, R, rel, ra, q, lk⟩
  obtain ⟨x, rfl⟩ := one_inv q (fun z => z) (fun x y t z => by cases x <;> exact z)
  obtain ⟨v, ws, rfl, rv, rw⟩ := ra.cons_inv
  obtain rfl := rw.nil_inv
  cases x with
  | ref n =>
    obtain ⟨ys, bs, e, e2, q⟩ := allR_inv q
    obtain ⟨p, vs, rfl, _, hp, rp⟩ := rel.lst rv e
    exact cr_all hc pins s σ H _ us Q I rs ⟨p, bs, rfl, by rw [← blsOf_rep rp e2]; exact SqL.of hp, fin0 rel lk q (.bl _)⟩
  | _ => exact (show False from q).elim
theorem call_anyA (hc : X.calm = true) : CallR X (.builtin "any") (upL X.K anyR) := by
  intro pins s σ H xs us Q I rs ⟨m, h, as, R, rel, ra, q, lk⟩
  obtain ⟨x, rfl⟩ := one_inv q (fun z => z) (fun x y t z => by cases x <;> exact z)
  obtain ⟨v, ws, rfl, rv, rw⟩ := ra.cons_inv
  obtain rfl := rw.nil_inv
  cases x with
  | ref n =>
    obtain ⟨ys, bs, e, e2, q⟩ := anyR_inv q
    obtain ⟨p, vs, rfl, _, hp, rp⟩ := rel.lst rv e
    exact cr_any hc pins s σ H _ us Q I rs ⟨p, bs, rfl, by rw [← blsOf_rep rp e2]; exact SqL.of hp, fin0 rel lk q (.bl _)⟩
  | _ => exact (show False from q).elim
/-! ### isinstance -/
theorem tyX_of {H : Hp} {m : List Addr} {h : AH} {v : V} {x : AV} {n : String} (rel : Rel X.K H m h) (r : Rep X.K H m v x) (e : tyName x h = some n) : TyX X.K H v (.type n) := by
  cases x with
  | non => cases r; cases e; exact .base .non
  | bl b => cases r; cases e; exact .base (.bl b)
  | int b => cases r; cases e; exact .base (.int b)
  | str b => cases r; cases e; exact .base (.str b)
  | tup xs =>
    cases e
    obtain ⟨p, vs, rfl, hp, rp⟩ := r.tup_inv
    rcases hp with (hp | ⟨o, hp⟩) | ⟨o, its, k, hk, hc, _⟩
    · exact .base (.tup hp)
    · exact .fTuple hp
    · exact .kTuple hk hc
  | rol xs =>
    cases e
    obtain ⟨p, vs, rfl, hp, rp⟩ := r.rol_inv
    rcases hp with ⟨o, hp⟩ | ((hp | ⟨o, hp⟩) | ⟨o, its, k, hk, hc, _⟩)
    · exact .base (.frz hp)
    · cases hp
    · cases hp
    · exact .kList hk hc
  | ref k =>
    simp only [tyName] at e
    split at e
    · rename_i xs e1
      cases e
      obtain ⟨p, vs, rfl, _, hp, rp⟩ := rel.lst r e1
      exact .base (.lst hp)
    · rename_i xs e1
      cases e
      obtain ⟨p, vs, rfl, _, hp, _⟩ := rel.dct r e1
      exact .base (.dK hp)
    · cases e
  | ty n => cases e
theorem kit_inst {n t : String} {b : Bool} (h : isInst n t = some b) : kitB n t = some b := by
  unfold isInst at h
  split at h <;> (repeat' split at h) <;> first
    | (cases h; done)
    | (cases h
       rename_i hh
       rcases hh with rfl | rfl | rfl | rfl | rfl | rfl <;> decide +kernel)
    | (cases h
       rename_i hh
       rcases hh with rfl | rfl | rfl | rfl | rfl <;> decide +kernel)
    | (cases h
       rename_i hh
       rcases hh with rfl | rfl | rfl | rfl <;> decide +kernel)
    | (cases h
       rename_i hh
       rcases hh with rfl | rfl <;> decide +kernel)
    | (cases h
       rename_i hh
       subst hh
       decide +kernel)
theorem instR_inv {x : AV} {t : String} {h : AH} {R : AK} (q : instR [x, .ty t] h R) : ∃ n b, tyName x h = some n ∧ isInst n t = some b ∧ R (.bl b) h := by
  simp only [instR] at q
  split at q
  · rename_i n e
    split at q
    · rename_i b e2
      exact ⟨n, b, e, e2, q⟩
    · exact q.elim
  · exact q.elim
theorem call_instA : CallR X (.builtin "isinstance") (upL X.K instR) := by
  intro pins s σ H xs us Q I rs ⟨m, h, as, R, rel, ra, q, lk⟩
  obtain ⟨x, y, rfl⟩ := two_inv q (fun z => z) (fun x z => by cases x <;> exact z) (fun x y z t w => by cases x <;> cases y <;> exact w)
  obtain ⟨v, ws, rfl, rv, rw⟩ := ra.cons_inv
  obtain ⟨v2, ws2, rfl, rv2, rw2⟩ := rw.cons_inv
  obtain rfl := rw2.nil_inv
  cases y with
  | ty t =>
    cases rv2
    obtain ⟨n, b, e, e2, q⟩ := instR_inv q
    exact call_isi pins s σ H _ us Q I rs ⟨v, .ty t, .type n, .type t, b, rfl, .ty t, tyX_of rel rv e, kit_ty (kit_inst e2), fin0 rel lk q (.bl _)⟩
  | _ => exact (show False by cases x <;> exact q).elim
end
end AL

/-! AL3: statements, targets, loops, comprehensions, methods; a def by its body. -/
namespace AL
open PySem PySem.Spec PyProof.Rows L2
section
variable {X : Cx} {e tg : Expr} {es : List Expr} {st : Stmt} {rest : List Stmt} {pos : Pos} {ta tb te : ATE} {tl : ATA} {tt : ATT} {t u tbd : ATS} {g : ATG} {gs : ATGs} {it : ATI}
/-! ### blocks -/
theorem ass_nil : ASs X [] nextT := wkSs pss_nil fun D σ H ⟨m, h, a, DA, rel, rs, q, lk⟩ => lk.nx _ _ _ _ _ q rel rs .refl
theorem lkSeq {K : PySem.W.Frag} {H : Hp} {m : List Addr} {DA : AEnds} {D : Ends} (lk : LkD K H m DA D) (u : ATS) : LkD K H m { DA with nx := u DA } { D with nx := upS K u D } :=
  ⟨fun H1 m1 h1 σ1 a1 q rel rs g => ⟨m1, h1, a1, DA, rel, rs, q, LkD.on lk g⟩, lk.rt, lk.bk, lk.ct⟩
theorem ass_cons (h1 : AS X st t) (h2 : ASs X rest u) : ASs X (st :: rest) (seqT t u) := wkSs (pss_cons h1 h2) fun D σ H ⟨m, h, a, DA, rel, rs, q, lk⟩ =>
  ⟨m, h, a, _, rel, rs, q, lkSeq lk u⟩
theorem ass_one (h1 : AS X st t) : ASs X [st] t := pss_one h1
theorem as_pass : AS X (.Pass pos) nextT := wkS ps_pass fun D σ H ⟨m, h, a, DA, rel, rs, q, lk⟩ => lk.nx _ _ _ _ _ q rel rs .refl
theorem as_break : AS X (.Break pos) brkT := wkS ps_break fun D σ H ⟨m, h, a, DA, rel, rs, q, lk⟩ => lk.bk _ _ _ _ _ q rel rs .refl
theorem as_cont : AS X (.Continue pos) contT := wkS ps_continue fun D σ H ⟨m, h, a, DA, rel, rs, q, lk⟩ => lk.ct _ _ _ _ _ q rel rs .refl
theorem as_expr (he : AE X e te) (hs : swapsWith e none pos.line X.env = pure false := by rfl) : AS X (.Expr e pos) (dropT te) := wkS (ps_expr he hs) fun D σ H ⟨m, h, a, DA, rel, rs, q, lk⟩ =>
  ⟨m, h, a, _, rel, rs, q, fun H1 m1 h1 v x q1 rel1 _ g1 => lk.nx _ _ _ _ _ q1 rel1 (rs.mono g1) g1⟩
theorem as_ret (he : AE X e te) : AS X (.Return (some e) pos) (retT te) := wkS (ps_ret he) fun D σ H ⟨m, h, a, DA, rel, rs, q, lk⟩ => ⟨m, h, a, _, rel, rs, q, lk.rt⟩
theorem as_retN : AS X (.Return none pos) retNT := wkS ps_retN fun D σ H ⟨m, h, a, DA, rel, rs, q, lk⟩ => lk.rt _ _ _ _ _ q rel .non .refl
theorem as_if {c : Expr} {p q : List Stmt} (hc : ATst X c tt) (ha : ASs X p t) (hb : ASs X q u) : AS X (.If c p q pos) (ifS tt t u) := wkS (ps_if hc ha hb) fun D σ H ⟨m, h, a, DA, rel, rs, q, lk⟩ => by
  refine ⟨m, h, a, _, rel, rs, q, fun H1 m1 h1 b q1 rel1 g1 => ?_⟩
  cases b with
  | true =>
    rw [if_pos rfl] at q1 ⊢
    exact ⟨m1, h1, a, DA, rel1, rs.mono g1, q1, LkD.on lk g1⟩
  | false =>
    rw [if_neg Bool.false_ne_true] at q1 ⊢
    exact ⟨m1, h1, a, DA, rel1, rs.mono g1, q1, LkD.on lk g1⟩
/-! ### targets -/
theorem ag_name {i : Nat} {x : Str} (hN : X.N.Nodup) (hi : X.N[i]? = some x) (hx : Loc X.env.scope x) (hf : X.fn x = true ∨ X.env.scope.names.lookup x = some .local := by first | exact .inl rfl | exact .inr rfl | assumption) : AG X (.Name x pos) (gNameT i) :=
  wkG (pg_name hN hi hx hf) fun v σ H Q ⟨m, h, a, x, R, rel, rs, rv, q, lk⟩ => lk _ _ _ _ _ q rel (rs.set rv i) .refl
theorem ags_nil : AGs X [] gNilT := wkGs pgs_nil fun vs σ H Q ⟨m, h, a, xs, R, rel, rs, rv, q, lk⟩ => by
  cases xs with
  | nil => exact ⟨rv.nil_inv, lk _ _ _ _ _ q rel rs .refl⟩
  | cons x xs => exact q.elim
theorem ags_cons (h1 : AG X e g) (h2 : AGs X es gs) (hs : (assignEach (e :: es) X.env).map (·.2) = assign e X.env :: (assignEach es X.env).map (·.2) := by rfl) : AGs X (e :: es) (gConsT g gs) := wkGs (pgs_cons h1 h2 hs) fun vs σ H Q ⟨m, h, a, xs, R, rel, rs, rv, q, lk⟩ => by
  cases xs with
  | nil => exact q.elim
  | cons x xs =>
    obtain ⟨v, ws, rfl, r1, r2⟩ := rv.cons_inv
    exact ⟨v, ws, rfl, m, h, a, x, _, rel, rs, r1, q, fun H1 m1 h1 σ1 a1 q1 rel1 rs1 g1 => ⟨m1, h1, a1, xs, R, rel1, rs1, r2.mono g1, q1, LkN.on lk g1⟩⟩
theorem ag_tup {k n : Nat} (hc : X.calm = true) (h : AGs X es gs) (hn : (assignEach es X.env).length = n := by rfl) (hst : (assignEach es X.env).findIdx? (·.1) = none := by rfl) : AG X (.Tuple es k pos) (gTupT n gs) :=
  wkG (pg_tup hc h hn hst) fun v σ H Q ⟨m, h, a, x, R, rel, rs, rv, q, lk⟩ => by
  cases x with
  | tup xs =>
    obtain ⟨q1, q2⟩ := q
    obtain ⟨p, vs, rfl, hp, rp⟩ := rv.tup_inv
    exact ⟨p, vs, rfl, hp, rp.len.trans q1, m, h, a, xs, R, rel, rs, rp, q2, lk⟩
  | _ => exact (show False from q).elim
theorem ag_sub {o i : Expr} (ho : AE X o ta) (hi : AE X i tb) (hs : PSet X (upSet X.K setR))
    (ha : ∀ v, assign (.Subscript o i pos) X.env v = (do
      let ov ← holding [v] (eval o X.env)
      let iv ← holding [v, ov] (eval i X.env)
      standAt pos
      holding [v, ov, iv] (setItem ov iv v)
      release [v, ov, iv] []) := by intro _; rfl) : AG X (.Subscript o i pos) (gSubT ta tb) :=
  wkG (pg_sub ho hi hs ha) fun v σ H Q ⟨m, h, a, x, R, rel, rs, rv, q, lk⟩ =>
  ⟨m, h, a, _, rel, rs, q, fun H1 m1 h1 w y q1 rel1 r1 g1 => ⟨m1, h1, a, _, rel1, rs.mono g1, q1, fun H2 m2 h2 w2 y2 q2 rel2 r2 g2 =>
    ⟨m2, h2, y, y2, x, _, rel2, r1.mono g2, r2, rv.mono (g1.trans g2), q2, fun H3 m3 h3 q3 rel3 g3 => lk _ _ _ _ _ q3 rel3 (rs.mono ((g1.trans g2).trans g3)) ((g1.trans g2).trans g3)⟩⟩⟩
/-! ### assignments -/
theorem as_asg (he : AE X e te) (hg : AG X tg g) (hs : swapsWithSole [tg] e pos.line X.env = pure false := by rfl) (hw : swappedStores [tg] e X.env = pure none := by rfl)
    (h1 : (assignEach [tg] X.env).map (·.2) = [assign tg X.env] := by rfl) : AS X (.Assign [tg] e pos) (asgT te g) := wkS (ps_asg he hg hs hw h1) fun D σ H ⟨m, h, a, DA, rel, rs, q, lk⟩ =>
  ⟨m, h, a, _, rel, rs, q, fun H1 m1 h1 v x q1 rel1 r1 g1 => ⟨m1, h1, a, x, _, rel1, rs.mono g1, r1, q1, LkN.on lk.nx g1⟩⟩
theorem as_set {i : Nat} {x : Str} {p : Pos} (hN : X.N.Nodup) (hi : X.N[i]? = some x) (hx : Loc X.env.scope x) (he : AE X e te) (hs : swapsWith e (some (.Name x p)) pos.line X.env = pure false := by rfl)
    (hf : X.fn x = true ∨ X.env.scope.names.lookup x = some .local := by first | exact .inl rfl | exact .inr rfl | assumption) : AS X (.Assign [.Name x p] e pos) (asgT te (gNameT i)) := wkS (ps_set hN hi hx he hs hf) fun D σ H ⟨m, h, a, DA, rel, rs, q, lk⟩ =>
  ⟨m, h, a, _, rel, rs, q, fun H1 m1 h1 v x q1 rel1 r1 g1 => lk.nx _ _ _ _ _ q1 rel1 ((rs.mono g1).set r1 i) g1⟩
theorem as_par {i j : Nat} {x y : Str} {a b : Expr} {px py pt : Pos} {kt k2 pt2} (hc : X.calm = true) (hN : X.N.Nodup) (hi : X.N[i]? = some x) (hj : X.N[j]? = some y) (hij : i ≠ j)
    (hx : X.env.scope.names.lookup x = some .local) (hy : X.env.scope.names.lookup y = some .local) (ha : AA X [a, b] tl)
    (hw : swappedStores [.Tuple [.Name x px, .Name y py] kt pt] (.Tuple [a, b] k2 pt2) X.env = pure (some [x, y]))
    (hs : swapsWithSole [.Tuple [.Name x px, .Name y py] kt pt] (.Tuple [a, b] k2 pt2) pos.line X.env = pure false := by rfl) :
    AS X (.Assign [.Tuple [.Name x px, .Name y py] kt pt] (.Tuple [a, b] k2 pt2) pos) (parT i j tl) := wkS (ps_par hc hN hi hj hij hx hy ha hw hs) fun D σ H ⟨m, h, a, DA, rel, rs, q, lk⟩ =>
  ⟨m, h, a, _, rel, rs, q, fun H1 m1 h1 vs xs q1 rel1 r1 g1 => by
    match xs, q1, r1 with
    | [x, y], q1, r1 =>
      obtain ⟨v, ws, rfl, r2, r3⟩ := r1.cons_inv
      obtain ⟨w, ws2, rfl, r4, r5⟩ := r3.cons_inv
      obtain rfl := r5.nil_inv
      exact ⟨v, w, rfl, lk.nx _ _ _ _ _ q1 rel1 (((rs.mono g1).set r2 i).set r4 j) g1⟩
    | [], q1, _ => exact q1.elim
    | [_], q1, _ => exact q1.elim
    | _ :: _ :: _ :: _, q1, _ => exact q1.elim⟩
theorem as_aug {i : Nat} {x : Str} {op : Operator} {r : AR2} {p : Pos} (hN : X.N.Nodup) (hi : X.N[i]? = some x) (hx : Loc X.env.scope x) (he : AE X e te) (ho : PIp X op (up2 X.K r))
    (hf : X.fn x = true ∨ X.env.scope.names.lookup x = some .local := by first | exact .inl rfl | exact .inr rfl | assumption) : AS X (.AugAssign (.Name x p) op e pos) (augT i te r) := wkS (ps_aug hN hi hx he ho hf) fun D σ H ⟨m, h, a, DA, rel, rs, q, lk⟩ => by
  unfold augT at q
  cases hg : gv a i with
  | none =>
    rw [hg] at q
    exact q.elim
  | some y =>
    rw [hg] at q
    obtain ⟨v, e1, r1⟩ := rs.get i y hg
    exact ⟨v, e1, m, h, a, _, rel, rs, q, fun H1 m1 h1 w z q1 rel1 r2 g1 => ⟨m1, h1, y, z, _, rel1, r1.mono g1, r2, q1, fun H2 m2 h2 w2 z2 q2 rel2 r3 g2 => lk.nx _ _ _ _ _ q2 rel2 ((rs.mono (g1.trans g2)).set r3 i) (g1.trans g2)⟩⟩
theorem as_augS {o i : Expr} {op : Operator} {r : AR2} {p : Pos} (ho : AE X o ta) (hi : AE X i tb) (hg : PGet X (up2 X.K ixR)) (he : AE X e te) (hp : PIp X op (up2 X.K r)) (hs : PSet X (upSet X.K setR))
    (ha : ∀ ov iv new, augStore i ov iv new = (do holding [new, ov, iv] (setItem ov iv new); release [new, ov, iv] []; pure .next) := by intros; rfl) : AS X (.AugAssign (.Subscript o i p) op e pos) (augST ta tb te r) :=
  wkS (ps_augS ho hi hg he hp hs ha) fun D σ H ⟨m, h, a, DA, rel, rs, q, lk⟩ =>
  ⟨m, h, a, _, rel, rs, q, fun H1 m1 h1 o1 x1 q1 rel1 r1 g1 => ⟨m1, h1, a, _, rel1, rs.mono g1, q1, fun H2 m2 h2 i2 x2 q2 rel2 r2 g2 => ⟨m2, h2, x1, x2, _, rel2, r1.mono g2, r2, q2, fun H3 m3 h3 v3 x3 q3 rel3 r3 g3 =>
    ⟨m3, h3, a, _, rel3, rs.mono ((g1.trans g2).trans g3), q3, fun H4 m4 h4 v4 x4 q4 rel4 r4 g4 => ⟨m4, h4, x3, x4, _, rel4, r3.mono g4, r4, q4, fun H5 m5 h5 v5 x5 q5 rel5 r5 g5 =>
      ⟨m5, h5, x1, x2, x5, _, rel5, r1.mono (((g2.trans g3).trans g4).trans g5), r2.mono ((g3.trans g4).trans g5), r5, q5, fun H6 m6 h6 q6 rel6 g6 =>
        lk.nx _ _ _ _ _ q6 rel6 (rs.mono (((((g1.trans g2).trans g3).trans g4).trans g5).trans g6)) (((((g1.trans g2).trans g3).trans g4).trans g5).trans g6)⟩⟩⟩⟩⟩⟩
theorem ip_addA : PIp X .Add (up2 X.K iaddR) := by
  intro pins s σ H x y v u Q I rx ry ⟨m, h, ax, ay, R, rel, r1, r2, q, lk⟩
  cases ax with
  | int i =>
    cases r1
    cases ay with
    | int j =>
      cases r2
      exact iop_add pins s σ H _ _ v u Q I rx ry ⟨i, j, rfl, rfl, fin0 rel lk q (.int _)⟩
    | _ => exact (show False from q).elim
  | str a =>
    cases r1
    cases ay with
    | str b =>
      cases r2
      obtain ⟨q1, q2⟩ := q
      exact iop_add_str pins s σ H _ _ v u Q I rx ry ⟨a, b, rfl, rfl, by rw [line]; exact q1, fin0 rel lk q2 (.str _)⟩
    | _ => exact (show False from q).elim
  | _ => exact (show False from q).elim
theorem ip_subA : PIp X .Sub (up2 X.K isubR) := op_ints0 iop_sub (fun _ _ _ _ q => q) (two_ints fun x y _ _ q => by cases x <;> cases y <;> first | trivial | exact q) fun _ _ _ _ => .int _
/-! ### methods -/
def upOk (K : PySem.W.Frag) (ok : AV → AH → Prop) (T : String) : Prop := ∀ H m h v x, Rel K H m h → Rep K H m v x → ok x h → tyV K T v H
theorem ae_bm {ok : AV → AH → Prop} {r : ARM} {T : String} {name : Str} {o : Expr} {apos : Pos} {ts : TA} (hok : upOk X.K ok T) (h : PE X (.Call (.Attribute o name apos) (e :: es) [] pos) (tBM X.K T (upM X.K r) (upE X.K ta) (upA X.K tl))) :
    AE X (.Call (.Attribute o name apos) (e :: es) [] pos) (mtT ok r ta tl) := wkE h fun σ H Q ⟨m, h, a, R, rel, rs, q, lk⟩ =>
  ⟨m, h, a, _, rel, rs, q, fun H1 m1 h1 v x q1 rel1 r1 g1 => ⟨hok H1 m1 h1 v x rel1 r1 q1.1, m1, h1, a, _, rel1, rs.mono g1, q1.2, fun H2 m2 h2 vs xs q2 rel2 r2 g2 => ⟨m2, h2, x, xs, R, rel2, r1.mono g2, r2, q2, Lk.on lk (g1.trans g2)⟩⟩⟩
theorem isLst_inv {x : AV} {h : AH} (q : isLst x h) : ∃ n xs, x = .ref n ∧ h[n]? = some (.lst xs) := by
  cases x with
  | ref n =>
    simp only [isLst] at q
    split at q
    · rename_i xs e
      exact ⟨n, xs, rfl, e⟩
    · exact q.elim
  | _ => exact (show False from q).elim
theorem ok_lst : upOk X.K isLst "list" := fun H m h v x rel r q => by
  obtain ⟨n, xs, rfl, e⟩ := isLst_inv q
  obtain ⟨p, vs, rfl, _, hp, _⟩ := rel.lst r e
  exact .inl ⟨rfl, vs, SqL.of hp⟩
theorem appendR_inv {n : Nat} {y : AV} {h : AH} {R : AK} (q : appendR (.ref n) [y] h R) : ∃ xs, h[n]? = some (.lst xs) ∧ xs.length < 16777216 ∧ R .non (h.set n (.lst (xs ++ [y]))) := by
  simp only [appendR] at q
  split at q
  · rename_i xs e
    exact ⟨xs, e, q⟩
  · exact q.elim
theorem mt_appendA : MtM X "list.append" (upM X.K appendR) := by
  intro pins s σ H x xs v us Q I rx rs ⟨m, h, ax, as, R, rel, r1, ra, q, lk⟩
  cases ax with
  | ref n =>
    match as, q, ra with
    | [y], q, ra =>
      obtain ⟨w, ws, rfl, rw, rn⟩ := ra.cons_inv
      obtain rfl := rn.nil_inv
      obtain ⟨ys, e, hz, q⟩ := appendR_inv q
      obtain ⟨p, vs, rfl, hn, hp, rp⟩ := rel.lst r1 e
      refine mt_append pins s σ H _ _ v us Q I rx rs ⟨p, vs, w, rfl, rfl, hp, by rw [rp.len, line]; exact hz, ?_⟩
      exact lk _ _ _ _ _ q (rel.write hn e (.lst hp) ⟨_, upd_same, (rp.append (.cons rw .nil)).mono (.lst hp)⟩) .non (.lst hp)
    | [], q, _ => exact (show False from q).elim
    | _ :: _ :: _, q, _ => exact (show False from q).elim
  | _ => exact (show False by (match as, q with
    | [], q => exact q
    | [_], q => exact q
    | _ :: _ :: _, q => exact q)).elim
/-! ### what is walked -/
structure GoodIt (K : PySem.W.Frag) (J : It) (items : List AV) (guard : AH → Prop) (H0 : Hp) (m0 : List Addr) : Prop where
  go : ∀ (i : Nat) x H m h, items[i]? = some x → Rel K H m h → guard h → Grow K H0 m0 H m → J.go i H ∧ ∀ v H', J.yld i H v H' → Rel K H' m h ∧ Rep K H' m v x ∧ Grow K H m H' m
  stop : ∀ H m h, Rel K H m h → guard h → Grow K H0 m0 H m → J.stop items.length H
def upI (K : PySem.W.Frag) (ta : ATI) : TI := fun σ H R => ∃ m h a RA, Rel K H m h ∧ RepS K H m σ a ∧ ta a h RA ∧ ∀ H' m' h' items guard, RA items guard h' → Rel K H' m' h' → Grow K H m H' m' → ∀ J : It, GoodIt K J items guard H' m' → R J H'
abbrev AI (X : Cx) (tg e : Expr) (t : ATI) : Prop := PI X tg e (upI X.K t)
theorem wkI {t t' : TI} (h : PI X tg e t) (w : ∀ σ H R, t' σ H R → t σ H R) : PI X tg e t' := ⟨fun pins s σ H R I q => h.run pins s σ H R I (w σ H R q)⟩
theorem as_for {iter : Expr} {body : List Stmt} (hp : PassesOwn (model X.prog X.w) X.A X.env X.xe) (hc : X.calm = true) (hi : AI X tg iter it) (hg : AG X tg g) (hb : ASs X body tbd)
    (hs : ∀ x, foldedSetIterable iter X.env x = pure x := by intro _; rfl) : AS X (.For tg iter body [] pos) (forT it g tbd) := wkS (ps_for hp hc hi hg hb hs) fun D σ H ⟨m, h, a, DA, rel, rs, q, lk⟩ => by
  refine ⟨m, h, a, _, rel, rs, q, fun H1 m1 h1 items guard q1 rel1 g1 J good => ?_⟩
  obtain ⟨I, i0, hst, hd⟩ := q1
  refine ⟨fun i k σ' H' => k = items.length - i ∧ i ≤ items.length ∧ ∃ m' h' a', Rel X.K H' m' h' ∧ RepS X.K H' m' σ' a' ∧ Grow X.K H1 m1 H' m' ∧ I i a' h', ⟨items.length, rfl, Nat.zero_le _, m1, h1, a, rel1, rs.mono g1, .refl, i0⟩, ?_⟩
  rintro i k σ2 H2 ⟨rfl, hi, m2, h2, a2, rel2, rs2, g2, hI⟩
  by_cases hlt : i < items.length
  · have hx : items[i]? = some items[i] := List.getElem?_eq_getElem hlt
    obtain ⟨gd, stp⟩ := hst i _ a2 h2 hx hI
    obtain ⟨go, yl⟩ := good.go i _ H2 m2 h2 hx rel2 gd g2
    refine .inr ⟨go, fun σ' H' => ∃ m' h' a', Rel X.K H' m' h' ∧ RepS X.K H' m' σ' a' ∧ Grow X.K H1 m1 H' m' ∧ I (i + 1) a' h', fun σ' H' n => ⟨items.length - (i + 1), by omega, rfl, hlt, n⟩, fun v H' y => ?_⟩
    obtain ⟨rel3, rv, g3⟩ := yl v H' y
    refine ⟨m2, h2, a2, _, _, rel3, rs2.mono g3, rv, stp, fun H4 m4 h4 σ4 a4 q4 rel4 rs4 g4 => ⟨m4, h4, a4, _, rel4, rs4, q4, ?_⟩⟩
    have gg : Grow X.K H1 m1 H4 m4 := (g2.trans g3).trans g4
    exact ⟨fun H5 m5 h5 σ5 a5 q5 rel5 rs5 g5 => ⟨m5, h5, a5, rel5, rs5, gg.trans g5, q5⟩, Lk.on lk.rt (g1.trans gg), LkN.on lk.nx (g1.trans gg), fun H5 m5 h5 σ5 a5 q5 rel5 rs5 g5 => ⟨m5, h5, a5, rel5, rs5, gg.trans g5, q5⟩⟩
  · have e : i = items.length := by omega
    subst e
    obtain ⟨gd, nx⟩ := hd a2 h2 hI
    exact .inl ⟨good.stop H2 m2 h2 rel2 gd g2, lk.nx _ _ _ _ _ nx rel2 rs2 (g1.trans g2)⟩
theorem as_while {c : Expr} {body : List Stmt} (hp : PassesOwn (model X.prog X.w) X.A X.env X.xe) (hc : ATst X c tt) (hb : ASs X body tbd) : AS X (.While c body [] pos) (whileT tt tbd) := wkS (ps_while hp hc hb) fun D σ H ⟨m, h, a, DA, rel, rs, q, lk⟩ => by
  obtain ⟨W, ⟨k0, w0⟩, stp⟩ := q
  refine ⟨fun k σ' H' => ∃ m' h' a', Rel X.K H' m' h' ∧ RepS X.K H' m' σ' a' ∧ Grow X.K H m H' m' ∧ W k a' h', ⟨k0, m, h, a, rel, rs, .refl, w0⟩, ?_⟩
  rintro k σ2 H2 ⟨m2, h2, a2, rel2, rs2, g2, hW⟩
  refine ⟨m2, h2, a2, _, rel2, rs2, stp k a2 h2 hW, fun H3 m3 h3 b q3 rel3 g3 => ?_⟩
  cases b with
  | true =>
    rw [if_pos rfl] at q3 ⊢
    obtain ⟨N, hN, q3⟩ := q3
    refine ⟨fun σ' H' => ∃ m' h' a', Rel X.K H' m' h' ∧ RepS X.K H' m' σ' a' ∧ Grow X.K H m H' m' ∧ N a' h', fun σ' H' ⟨m', h', a', x1, x2, x3, x4⟩ => ?_, m3, h3, a2, _, rel3, rs2.mono g3, q3, ?_⟩
    · obtain ⟨k', hk, w'⟩ := hN a' h' x4
      exact ⟨k', hk, m', h', a', x1, x2, x3, w'⟩
    · have gg : Grow X.K H m H3 m3 := g2.trans g3
      exact ⟨fun H5 m5 h5 σ5 a5 q5 rel5 rs5 g5 => ⟨m5, h5, a5, rel5, rs5, gg.trans g5, q5⟩, Lk.on lk.rt gg, LkN.on lk.nx gg, fun H5 m5 h5 σ5 a5 q5 rel5 rs5 g5 => ⟨m5, h5, a5, rel5, rs5, gg.trans g5, q5⟩⟩
  | false =>
    rw [if_neg Bool.false_ne_true] at q3 ⊢
    exact lk.nx _ _ _ _ _ q3 rel3 (rs2.mono g3) (g2.trans g3)
/-! ### comprehensions -/
theorem wipe_in {σ : L2.St} {i : Nat} {x : Option V} : ∀ {vs : List Nat}, i ∈ vs → L2.wipe (σ.set i x) vs = L2.wipe σ vs
  | v :: vs, hm => by
    show (L2.wipe (σ.set i x) vs).set v none = (L2.wipe σ vs).set v none
    by_cases h : i ∈ vs
    · rw [wipe_in h]
    · have e : i = v := by
        rcases List.mem_cons.mp hm with e | e
        · exact e
        · exact absurd e h
      subst e
      have go : ∀ (ws : List Nat), i ∉ ws → L2.wipe (σ.set i x) ws = (L2.wipe σ ws).set i x := by
        intro ws
        induction ws with
        | nil => intro _; rfl
        | cons w ws ih =>
          intro hw
          simp only [List.mem_cons, not_or] at hw
          show (L2.wipe (σ.set i x) ws).set w none = ((L2.wipe σ ws).set w none).set i x
          rw [ih hw.2, List.set_comm _ _ hw.1]
      rw [go vs h, List.set_set]
theorem wipe_idem {σ : L2.St} : ∀ (vs ws : List Nat), (∀ v ∈ ws, v ∈ vs) → L2.wipe (L2.wipe σ ws) vs = L2.wipe σ vs
  | vs, [], _ => rfl
  | vs, w :: ws, h => by
    show L2.wipe ((L2.wipe σ ws).set w none) vs = _
    rw [wipe_in (h w List.mem_cons_self)]
    exact wipe_idem vs ws fun v hv => h v (List.mem_cons_of_mem _ hv)
/-- a comprehension's target: a real one beside the plain one, that turns its own slots alone -/
structure CG (K : PySem.W.Frag) (vs : List Nat) (t : TG) (g : ATG) : Prop where
  run : ∀ v σ H (Q : L2.St → Hp → Prop), upG K g v σ H Q → t v σ H fun σ2 H2 => L2.wipe σ2 vs = L2.wipe σ vs ∧ Q σ2 H2
structure CGs (K : PySem.W.Frag) (vs : List Nat) (t : TGs) (g : ATGs) : Prop where
  run : ∀ ws σ H (Q : L2.St → Hp → Prop), upGs K g ws σ H Q → t ws σ H fun σ2 H2 => L2.wipe σ2 vs = L2.wipe σ vs ∧ Q σ2 H2
theorem cg_name {K : PySem.W.Frag} {vs : List Nat} {i : Nat} (hi : i ∈ vs) : CG K vs (gName i) (gNameT i) := ⟨fun v σ H Q ⟨m, h, a, x, R, rel, rs, rv, q, lk⟩ => ⟨wipe_in hi, lk _ _ _ _ _ q rel (rs.set rv i) .refl⟩⟩
theorem cgs_nil {K : PySem.W.Frag} {vs : List Nat} : CGs K vs gNil gNilT := ⟨fun ws σ H Q ⟨m, h, a, xs, R, rel, rs, rv, q, lk⟩ => by
  cases xs with
  | nil => exact ⟨rv.nil_inv, rfl, lk _ _ _ _ _ q rel rs .refl⟩
  | cons x xs => exact q.elim⟩
theorem cgs_cons {K : PySem.W.Frag} {vs : List Nat} {t : TG} {ts : TGs} {g : ATG} {gs : ATGs} (h1 : CG K vs t g) (h2 : CGs K vs ts gs) (mono : ∀ v σ H (Q Q' : L2.St → Hp → Prop), (∀ s h, Q s h → Q' s h) → t v σ H Q → t v σ H Q') (mono2 : ∀ v σ H (Q Q' : L2.St → Hp → Prop), (∀ s h, Q s h → Q' s h) → ts v σ H Q → ts v σ H Q') : CGs K vs (gCons t ts) (gConsT g gs) := ⟨fun ws σ H Q ⟨m, h, a, xs, R, rel, rs, rv, q, lk⟩ => by
  cases xs with
  | nil => exact q.elim
  | cons x xs =>
    obtain ⟨v, ws, rfl, r1, r2⟩ := rv.cons_inv
    refine ⟨v, ws, rfl, mono _ _ _ _ _ (fun s1 h1 ⟨e1, k1⟩ => ?_) (h1.run v σ H (fun σ2 H2 => upGs K gs ws σ2 H2 Q) ⟨m, h, a, x, _, rel, rs, r1, q, fun H1 m1 h1 σ1 a1 q1 rel1 rs1 g1 => ⟨m1, h1, a1, xs, R, rel1, rs1, r2.mono g1, q1, LkN.on lk g1⟩⟩)⟩
    exact mono2 _ _ _ _ _ (fun s2 h2 ⟨e2, k2⟩ => ⟨e2.trans e1, k2⟩) (h2.run ws s1 h1 Q k1)⟩
theorem cg_tup {K : PySem.W.Frag} {vs : List Nat} {n : Nat} {ts : TGs} {gs : ATGs} (h2 : CGs K vs ts gs) : CG K vs (gTup K n ts) (gTupT n gs) := ⟨fun v σ H Q ⟨m, h, a, x, R, rel, rs, rv, q, lk⟩ => by
  cases x with
  | tup xs =>
    obtain ⟨q1, q2⟩ := q
    obtain ⟨p, ws, rfl, hp, rp⟩ := rv.tup_inv
    exact ⟨p, ws, rfl, hp, rp.len.trans q1, h2.run ws σ H Q ⟨m, h, a, xs, R, rel, rs, rp, q2, lk⟩⟩
  | _ => exact (show False from q).elim⟩
/-- the real side of a tuple of names -/
def rNms : List Nat → TGs
  | [] => gNil
  | i :: r => gCons (gName i) (rNms r)
theorem rNms_mono : ∀ (is : List Nat) v σ H (Q Q' : L2.St → Hp → Prop), (∀ s h, Q s h → Q' s h) → rNms is v σ H Q → rNms is v σ H Q'
  | [], v, σ, H, Q, Q', hq, ⟨e, q⟩ => ⟨e, hq _ _ q⟩
  | i :: r, v, σ, H, Q, Q', hq, ⟨w, ws, e, q⟩ => ⟨w, ws, e, rNms_mono r ws _ _ Q Q' hq q⟩
theorem cgs_nms {K : PySem.W.Frag} {vs : List Nat} : ∀ is : List Nat, (∀ i ∈ is, i ∈ vs) → CGs K vs (rNms is) (gNmsT is)
  | [], _ => cgs_nil
  | i :: r, h => cgs_cons (cg_name (h i List.mem_cons_self)) (cgs_nms r fun j hj => h j (List.mem_cons_of_mem _ hj)) (fun v σ H Q Q' hq q => hq _ _ q) (rNms_mono r)
abbrev ATs (X : Cx) (ifs : List Expr) (t : ATT) : Prop := PTs X ifs (upT X.K t)
theorem ats_nil : ATs X [] yesT := ⟨fun pins s σ H Q I ⟨m, h, a, R, rel, rs, q, lk⟩ => wpAny_tests_nil ⟨H, I, lk _ _ _ _ q rel .refl⟩⟩
theorem ats_one {c : Expr} (h : ATst X c tt) : ATs X [c] tt := pts_one h
theorem lift_lc {wi : TI} {gr : TG} {vs : List Nat} (hcg : CG X.K vs gr g) (mono : ∀ v σ H (Q Q' : L2.St → Hp → Prop), (∀ s h, Q s h → Q' s h) → gr v σ H Q → gr v σ H Q') {σ : L2.St} {H : Hp} {Q : VK} (q : upE X.K (lcT it g tt te vs) σ H Q) :
    tLc (upI X.K it) gr (upT X.K tt) (upE X.K te) vs σ H Q := by
  obtain ⟨m, h, a, R, rel, rs, q, lk⟩ := q
  refine ⟨m, h, a, _, rel, rs, q, fun H1 m1 h1 items guard q1 rel1 g1 J good D hD => ?_⟩
  obtain ⟨I, i0, hst, hd⟩ := q1
  have gD : Grow X.K H1 m1 (L2.upd H1 D (.lst [])) (m1 ++ [D]) := .new hD [D]
  have relD := rel1.pushL hD (vs := []) (xs := []) .nil
  have atD : (m1 ++ [D])[h1.length]? = some D := rel1.last
  refine ⟨fun i k H' => k = items.length - i ∧ i ≤ items.length ∧ ∃ m' h' acc, Rel X.K H' m' h' ∧ Grow X.K (L2.upd H1 D (.lst [])) (m1 ++ [D]) H' m' ∧ I i acc h', ⟨items.length, rfl, Nat.zero_le _, _, _, [], relD, .refl, i0⟩, ?_⟩
  rintro i k H2 ⟨rfl, hi, m2, h2, acc, rel2, g2, hI⟩
  by_cases hlt : i < items.length
  · have hx : items[i]? = some items[i] := List.getElem?_eq_getElem hlt
    obtain ⟨gd, stp⟩ := hst i _ acc h2 hx hI
    obtain ⟨go, yl⟩ := good.go i _ H2 m2 h2 hx rel2 gd (gD.trans g2)
    refine .inr ⟨go, fun H' => ∃ m' h' acc, Rel X.K H' m' h' ∧ Grow X.K (L2.upd H1 D (.lst [])) (m1 ++ [D]) H' m' ∧ I (i + 1) acc h', fun H' n => ⟨items.length - (i + 1), by omega, rfl, hlt, n⟩, fun v H' y => ?_⟩
    obtain ⟨rel3, rv, g3⟩ := yl v H' y
    have gA : Grow X.K H m H' m2 := ((g1.trans gD).trans g2).trans g3
    refine mono _ _ _ _ _ (fun σ4 H4 hq => ?_) (hcg.run v (L2.wipe σ vs) H' (fun σ4 H4 => upT X.K tt σ4 H4 fun b H5 => if b = true then upE X.K te σ4 H5 fun y H6 => ∃ acc, H6 D = some (.lst acc) ∧ acc.length < sizeLine ∧
      (∃ m' h' ac, Rel X.K (L2.upd H6 D (.lst (acc ++ [y]))) m' h' ∧ Grow X.K (L2.upd H1 D (.lst [])) (m1 ++ [D]) (L2.upd H6 D (.lst (acc ++ [y]))) m' ∧ I (i + 1) ac h') else ∃ m' h' ac, Rel X.K H5 m' h' ∧ Grow X.K (L2.upd H1 D (.lst [])) (m1 ++ [D]) H5 m' ∧ I (i + 1) ac h') ?_)
    · exact ⟨hq.1.trans (wipe_idem vs vs fun _ z => z), hq.2⟩
    · refine ⟨m2, h2, wipeA a vs, _, _, rel3, (rs.mono gA).wipe vs, rv, stp, fun H4 m4 h4 σ4 a4 q4 rel4 rs4 g4 => ⟨m4, h4, a4, _, rel4, rs4, q4, fun H5 m5 h5 b q5 rel5 g5 => ?_⟩⟩
      have gB : Grow X.K (L2.upd H1 D (.lst [])) (m1 ++ [D]) H5 m5 := ((g2.trans g3).trans g4).trans g5
      cases b with
      | false =>
        dsimp only
        rw [if_neg Bool.false_ne_true] at q5 ⊢
        exact ⟨m5, h5, acc, rel5, gB, q5⟩
      | true =>
        dsimp only
        rw [if_pos rfl] at q5 ⊢
        refine ⟨m5, h5, a4, _, rel5, rs4.mono g5, q5, fun H6 m6 h6 w y q6 rel6 rw g6 => ?_⟩
        obtain ⟨e6, hz, hI6⟩ := q6
        have gC := gB.trans g6
        have at6 : m6[h1.length]? = some D := gC.at atD
        obtain ⟨vs6, hp6, rp6⟩ := rel6.obj _ _ _ at6 e6
        refine ⟨vs6, hp6, by rw [rp6.len, line]; exact hz, m6, _, acc ++ [y], rel6.write (ao' := .lst (acc ++ [y])) at6 e6 (.lst hp6) ⟨_, upd_same, (rp6.append (.cons rw .nil)).mono (.lst hp6)⟩, gC.trans (.lst hp6), hI6⟩
  · have e : i = items.length := by omega
    subst e
    obtain ⟨gd, ea, nx⟩ := hd acc h2 hI
    have at2 : m2[h1.length]? = some D := g2.at atD
    exact .inl ⟨good.stop H2 m2 h2 rel2 gd (gD.trans g2), lk _ _ _ _ _ nx rel2 (.ref at2) ((g1.trans gD).trans g2)⟩
theorem ae_lc {iter elt : Expr} {ifs : List Expr} {scope : Scope} {own : List (Str × Nat)} {gr : TG} (hc : X.calm = true) (hN : X.N.Nodup) (hi : AI X tg iter it) (ok : BlkOk X.N X.env.scope scope own)
    (hcg : CG X.K (own.map (·.2)) gr g) (mono : ∀ v σ H (Q Q' : L2.St → Hp → Prop), (∀ s h, Q s h → Q' s h) → gr v σ H Q → gr v σ H Q')
    (hg : ∀ (s : Shared) (H : Hp) (C : Addr) (cl : List (Str × Addr)) (fp : List Addr), PG (X.blk s H scope (compEnvC scope cl C X.env) fp) tg gr) (ht : ∀ (s : Shared) (H : Hp) (C : Addr) (cl : List (Str × Addr)) (fp : List Addr), ATs (X.blk s H scope (compEnvC scope cl C X.env) fp) ifs tt)
    (he : ∀ (s : Shared) (H : Hp) (C : Addr) (cl : List (Str × Addr)) (fp : List Addr), AE (X.blk s H scope (compEnvC scope cl C X.env) fp) elt te) (hs : ∀ x, foldedSetIterable iter X.env x = pure x := by intro _; rfl) :
    AE X (.ListComp elt [⟨tg, iter, ifs, 0⟩] scope pos) (lcT it g tt te (own.map (·.2))) := wkE (pe_lc hc hN hi ok hg ht he hs) fun _ _ _ q => lift_lc (wi := upI X.K it) hcg mono q
theorem as_setLc {i : Nat} {y : Str} {py spos : Pos} {iter elt : Expr} {ifs : List Expr} {scope : Scope} {own : List (Str × Nat)} {gr : TG} (hc : X.calm = true) (hN : X.N.Nodup) (hy : X.N[i]? = some y) (hyl : X.env.scope.names.lookup y = some .local)
    (hsw : swapsWith (.ListComp elt [⟨tg, iter, ifs, 0⟩] scope pos) (some (.Name y py)) spos.line X.env = pure true) (hi : AI X tg iter it) (ok : BlkOk X.N X.env.scope scope own)
    (hcg : CG X.K (own.map (·.2)) gr g) (mono : ∀ v σ H (Q Q' : L2.St → Hp → Prop), (∀ s h, Q s h → Q' s h) → gr v σ H Q → gr v σ H Q')
    (hg : ∀ (s : Shared) (H : Hp) (C : Addr) (cl : List (Str × Addr)) (fp : List Addr), PG (X.blk s H scope (compEnvC scope cl C X.env) fp) tg gr) (ht : ∀ (s : Shared) (H : Hp) (C : Addr) (cl : List (Str × Addr)) (fp : List Addr), ATs (X.blk s H scope (compEnvC scope cl C X.env) fp) ifs tt)
    (he : ∀ (s : Shared) (H : Hp) (C : Addr) (cl : List (Str × Addr)) (fp : List Addr), AE (X.blk s H scope (compEnvC scope cl C X.env) fp) elt te) (hs : ∀ x, foldedSetIterable iter X.env x = pure x := by intro _; rfl) :
    AS X (.Assign [.Name y py] (.ListComp elt [⟨tg, iter, ifs, 0⟩] scope pos) spos) (asgT (lcT it g tt te (own.map (·.2))) (gNameT i)) := wkS (ps_setLc hc hN hy hyl hsw hi ok hg ht he hs) fun D σ H ⟨m, h, a, DA, rel, rs, q, lk⟩ =>
  lift_lc (wi := upI X.K it) hcg mono ⟨m, h, a, _, rel, rs, q, fun H1 m1 h1 v x q1 rel1 r1 g1 => lk.nx _ _ _ _ _ q1 rel1 ((rs.mono g1).set r1 i) g1⟩

/-! ### iterators -/
/-- a list or a tuple: an iterator of the kind that the value has -/
theorem pi_seq {l : Expr} {tl : TE} (hl : PE X l tl) : PI X tg l (fun σ H R => tl σ H fun x H1 => (∃ a, x = .ref a ∧ (∃ xs, SqL X.K H1 a xs) ∧ R (Itl X.K a) H1) ∨ ∃ a, x = .ref a ∧ (∃ xs, SqT X.K H1 a xs) ∧ R (Itt X.K a) H1) := by
  refine ⟨fun pins s σ H R I h => ?_⟩
  refine thn (hl.run pins s σ H _ I h) fun vv s1 ⟨x, H1, J1, rr, qq⟩ => ?_
  have isz : ∀ b ∈ [s1.heap.objs.size], FpOk X pins H1 b := fun b hb => by
    cases List.mem_singleton.mp hb
    exact J1.fpOk (Nat.le_refl _) (J1.hok.fresh (Nat.le_refl _))
  rcases qq with ⟨a, rfl, ⟨xs, hx⟩, hR⟩ | ⟨a, rfl, ⟨xs, hx⟩, hR⟩
  · cases (show vv = Value.ref a from rr)
    obtain ⟨ws, w1, w2, _⟩ := J1.list hx
    exact wpAny_pyIter_list w2.isList ⟨_, [_], _, _, H1, rfl, J1.kept (t' := s1.toks) fun b o z => Heap.get?_push_of_some _ z, turn_list a _, ⟨_, Heap.get?_push_size _ rfl, rfl, rfl⟩, isz, hR⟩
  · cases (show vv = Value.ref a from rr)
    obtain ⟨ws, w1, w2, _⟩ := J1.tuple hx
    exact wpAny_pyIter_tuple (show s1.heap.IsTuple a ws.toArray from w2) ⟨_, [_], _, _, H1, rfl, J1.kept (t' := s1.toks) fun b o z => Heap.get?_push_of_some _ z, turn_tuple a _, ⟨_, Heap.get?_push_size _ rfl, rfl, rfl⟩, isz, hR⟩
theorem good_list {K : PySem.W.Frag} {p : Addr} {xs : List AV} {guard : AH → Prop} {H0 : Hp} {m0 : List Addr} (hq : ∀ H m h, Rel K H m h → guard h → Grow K H0 m0 H m → ∃ vs, SqL K H p vs ∧ RepL K H m vs xs) : GoodIt K (Itl K p) xs guard H0 m0 :=
  ⟨fun i x H m h hx rel gd g => by
    obtain ⟨vs, s, r⟩ := hq H m h rel gd g
    obtain ⟨v, hv, rv⟩ := r.at hx
    refine ⟨⟨vs, v, s, hv⟩, fun w H' ⟨e, y⟩ => ?_⟩
    subst e
    have := y vs s
    rw [hv] at this
    cases this
    exact ⟨rel, rv, .refl⟩,
  fun H m h rel gd g => by
    obtain ⟨vs, s, r⟩ := hq H m h rel gd g
    exact ⟨vs, s, by rw [r.len]; exact Nat.le_refl _⟩⟩
theorem good_tup {K : PySem.W.Frag} {p : Addr} {vs : List V} {xs : List AV} {guard : AH → Prop} {H0 : Hp} {m0 : List Addr} (hs : SqT K H0 p vs) (hr : RepL K H0 m0 vs xs) : GoodIt K (Itt K p) xs guard H0 m0 :=
  ⟨fun i x H m h hx rel gd g => by
    have s := g.tup p vs hs
    have r := hr.mono g
    obtain ⟨v, hv, rv⟩ := r.at hx
    refine ⟨⟨vs, v, s, hv⟩, fun w H' ⟨e, y⟩ => ?_⟩
    subst e
    have := y vs s
    rw [hv] at this
    cases this
    exact ⟨rel, rv, .refl⟩,
  fun H m h rel gd g => ⟨vs, g.tup p vs hs, by rw [hr.len]; exact Nat.le_refl _⟩⟩
theorem iSeq_inv {n : Nat} {h1 : AH} {R : List AV → (AH → Prop) → AH → Prop} (q : (match h1[n]? with
    | some (.lst xs) => R xs (fun h => h[n]? = some (.lst xs)) h1
    | _ => False)) : ∃ xs, h1[n]? = some (.lst xs) ∧ R xs (fun h => h[n]? = some (.lst xs)) h1 := by
  split at q
  · rename_i xs e
    exact ⟨xs, e, q⟩
  · exact q.elim
theorem ai_seq {l : Expr} (hl : AE X l te) : AI X tg l (iSeqT te) := wkI (pi_seq hl) fun σ H R ⟨m, h, a, RA, rel, rs, q, lk⟩ => by
  refine ⟨m, h, a, _, rel, rs, q, fun H1 m1 h1 v x q1 rel1 r1 g1 => ?_⟩
  cases x with
  | tup xs =>
    obtain ⟨p, vs, rfl, hp, rp⟩ := r1.tup_inv
    exact .inr ⟨p, rfl, ⟨vs, hp⟩, lk _ _ _ _ _ q1 rel1 g1 _ (good_tup hp rp)⟩
  | rol xs =>
    obtain ⟨p, vs, rfl, hp, rp⟩ := r1.rol_inv
    exact .inl ⟨p, rfl, ⟨vs, hp.sq⟩, lk _ _ _ _ _ q1 rel1 g1 _ (good_list fun H m h _ _ g => ⟨vs, (g.rol p vs hp).sq, rp.mono g⟩)⟩
  | ref n =>
    obtain ⟨xs, e, q2⟩ := iSeq_inv q1
    obtain ⟨p, vs, rfl, hn, hp, rp⟩ := rel1.lst r1 e
    refine .inl ⟨p, rfl, ⟨vs, SqL.of hp⟩, lk _ _ _ _ _ q2 rel1 g1 _ (good_list fun H m h rel gd g => ?_)⟩
    obtain ⟨ws, e1, e2⟩ := rel.obj _ _ _ (g.at hn) gd
    exact ⟨ws, SqL.of e1, e2⟩
  | _ => exact (show False from q1).elim
theorem zrange_get {lo : Int} {n i : Nat} {x : AV} (h : (zrange lo n)[i]? = some x) : i < n ∧ x = .int (lo + i) := by
  unfold zrange at h
  rw [List.getElem?_map] at h
  by_cases hi : i < n
  · rw [List.getElem?_range hi] at h
    cases h
    exact ⟨hi, rfl⟩
  · rw [List.getElem?_eq_none (by simp; omega)] at h
    cases h
theorem zrange_len {lo : Int} {n : Nat} : (zrange lo n).length = n := by
  unfold zrange
  simp
theorem good_rng {K : PySem.W.Frag} {lo : Int} {n : Nat} {guard : AH → Prop} {H0 : Hp} {m0 : List Addr} : GoodIt K (Itr lo n) (zrange lo n) guard H0 m0 :=
  ⟨fun i x H m h hx rel gd g => by
    obtain ⟨hi, rfl⟩ := zrange_get hx
    refine ⟨hi, fun w H' ⟨e, y⟩ => ?_⟩
    subst e y
    exact ⟨rel, .int _, .refl⟩,
  fun H m h rel gd g => by
    rw [zrange_len]
    exact Nat.le_refl _⟩
theorem ai_range1 {b : Expr} {p : Pos} (hg : Gl X "range") (hm : X.mg "range" = none) (ha : AA X [b] tl) (hs : starEach [b] X.env = [(false, eval b X.env)] := by rfl) : AI X tg (.Call (.Name "range" p) [b] [] pos) (iRng1T tl) :=
  wkI (pi_range1 hg hm ha hs) fun σ H R ⟨m, h, a, RA, rel, rs, q, lk⟩ => by
  refine ⟨m, h, a, _, rel, rs, q, fun H1 m1 h1 vs xs q1 rel1 r1 g1 => ?_⟩
  split at q1
  · rename_i n
    obtain ⟨v, ws, rfl, rv, rn⟩ := r1.cons_inv
    obtain rfl := rn.nil_inv
    cases rv
    obtain ⟨z1, z2, q2⟩ := q1
    exact ⟨n, rfl, z2, z1, lk _ _ _ _ _ q2 rel1 g1 _ good_rng⟩
  · exact q1.elim
theorem ai_range2 {b c : Expr} {p : Pos} (hg : Gl X "range") (hm : X.mg "range" = none) (ha : AA X [b, c] tl) (hs : starEach [b, c] X.env = [(false, eval b X.env), (false, eval c X.env)] := by rfl) (hs2 : starEach [c] X.env = [(false, eval c X.env)] := by rfl) :
    AI X tg (.Call (.Name "range" p) [b, c] [] pos) (iRng2T tl) :=
  wkI (pi_range2 hg hm ha hs hs2) fun σ H R ⟨m, h, a, RA, rel, rs, q, lk⟩ => by
  refine ⟨m, h, a, _, rel, rs, q, fun H1 m1 h1 vs xs q1 rel1 r1 g1 => ?_⟩
  split at q1
  · rename_i i n
    obtain ⟨v, ws, rfl, rv, rn⟩ := r1.cons_inv
    obtain ⟨v2, ws2, rfl, rv2, rn2⟩ := rn.cons_inv
    obtain rfl := rn2.nil_inv
    cases rv
    cases rv2
    obtain ⟨z1, q2⟩ := q1
    exact ⟨i, n, rfl, z1, lk _ _ _ _ _ q2 rel1 g1 _ good_rng⟩
  · exact q1.elim
end
end AL

/-! AL4: zip, enumerate, a text's signs; a def by its body; the law's end. -/
namespace AL
open PySem PySem.Spec PyProof.Rows L2
/-! ### enumerate over a tuple -/
set_option maxHeartbeats 4000000 in
theorem meets_enum1 {v : Value} {o : Obj} {Z : Heap → Prop} (B : Begins v o Z) :
    Meets (Builtin.«enumerate.__new__» ⟨[.type "enumerate", v], []⟩) (fun _ C z => Z z.heap ∧
      C (.ok (.ret (.ref (z.heap.push o).objs.size))) { z with heap := (z.heap.push o).push { cls := .type "enumerate", data := .fields #[.none, .bool false, .ref z.heap.objs.size, rawInt 0, .none, .none] } }) :=
  .of_wp fun pr ww AA C z hz => by
    obtain ⟨z1, z2, z3, z4, z5⟩ := z
    obtain ⟨k1, k2⟩ := hz
    have hsub := sub_enumerate
    have st1 : ∀ {A1 : Around} {E1 : Value → Shared → Prop} {Q1 : Value → Shared → Prop}, Q1 (.ref z1.objs.size) ⟨z1.push o, z2, z3, z4, z5⟩ → wpAny (model pr ww) A1 (pyIter v) Q1 E1 ⟨z1, z2, z3, z4, z5⟩ :=
      fun hh => B.iter pr ww _ _ ⟨z1, z2, z3, z4, z5⟩ _ k1 hh
    wp_walk using st1
    refine wpAny_stack_any fun sk => wpAny_pure ?_
    split
    · rename_i cc _ _ _ _ _
      cases (cc == Value.type "enumerate")
      · wp_walk using st1
        exact ⟨_, rfl, k2⟩
      · wp_walk using st1
        exact ⟨_, rfl, k2⟩
    · wp_walk using st1
      exact ⟨_, rfl, k2⟩
def Itet (K : PySem.W.Frag) (a : Addr) : It where
  go := fun i H => ∃ (xs : List V) (x : V), SqT K H a xs ∧ xs[i]? = some x
  yld := fun i H v H' => ∃ T x, v = .ref T ∧ H T = none ∧ H' = L2.upd H T (.tup [.int (i : Nat), x]) ∧ ∀ xs, SqT K H a xs → xs[i]? = some x
  stop := fun i H => ∃ xs : List V, SqT K H a xs ∧ xs.length = i
theorem turn_enumT {P : Program} {w : World} {K : PySem.W.Frag} {elts : List Expr} {kk : Nat} {tpos : Pos} (a e it : Addr) (hne : e ≠ it) :
    Turn P w K (.Tuple elts kk tpos) (Itet K a) [e, it] e (fun i h => (∃ old, IsEnum h e it (0 + (i : Int)) old) ∧ h.IsTupleIter it a i) where
  mem := by simp
  obj := fun i h ⟨⟨old, he⟩, ⟨o, ho, hc, hd⟩⟩ b hb => by
    rcases List.mem_cons.mp hb with z | z
    · subst z
      exact ⟨_, he, fun v q => nomatch q⟩
    · cases List.mem_singleton.mp z
      exact ⟨o, ho, fun v q => by rw [hd] at q; cases q⟩
  keep := fun i h h' ⟨⟨old, he⟩, hi⟩ k => ⟨⟨old, k e (by simp) _ he⟩, hi.at fun o q => k it (by simp) o q⟩
  item := by
    intro X hP hw hK hc i pins s σ H E I hf ⟨⟨old, he⟩, hit⟩ ⟨xs, x, hq, hx⟩
    subst hP hw hK
    obtain ⟨its, rv, p, hz⟩ := I.tuple hq
    obtain ⟨u, hu, ru⟩ := rv.get hx
    have hai : a ≠ it := by
      rintro rfl
      obtain ⟨o1, h1, c1, _⟩ := p
      obtain ⟨o2, h2, c2, _⟩ := hit
      rw [h1] at h2
      cases h2
      rw [c1] at c2
      exact absurd c2 (by decide)
    have hae : e ≠ a := by
      rintro rfl
      obtain ⟨o1, h1, c1, _⟩ := p
      have he' : s.heap.get? e = some _ := he
      rw [h1] at he'
      cases he'
      exact absurd (show Value.type "enumerate" = Value.type "tuple" from c1) (by decide)
    have hh : X.A.in1.handled = none := I.ok.hd hc
    have D := Draws.tuple (prog := X.prog) (w := X.w) hh it a hai its.toArray
    have W := WalksT.enumFrom 0 D e hne (by simp [hne, hae]) (by simp)
    have hlt : i < its.toArray.size := by
      have := (List.getElem?_eq_some_iff.mp hu).1
      simpa using this
    refine W.item i s _ E hlt ⟨⟨old, he⟩, hit, p⟩ fun T vals h' tk ⟨t, y, hy, ev⟩ hT hTup hMid hk => ?_
    subst ev
    have hyu : y = u := by
      have h2 : its[i]? = some y := by simpa using hy
      rw [hu] at h2
      exact (Option.some.inj h2).symm
    subst hyu
    have hap := W.apart i T h' hMid
    refine ⟨_, rfl, W.go elts kk tpos i T _ _ E hMid fun h'' hSt hk2 => ?_⟩
    have new : ObjOk X.prog X.w (L2.upd H T (.tup [.int (i : Nat), x])) h'' T (.tup [.int (i : Nat), x]) := by
      obtain ⟨o, ho, hc2, n, hd⟩ := hTup
      refine ⟨by show 2 ≤ sizeLine; rw [sizeLine_eq]; decide, [.int (0 + (i : Int)) t, y], .cons ⟨t, ?_⟩ (.cons ru .nil), ⟨o, hk2 T o hap ho, hc2, n, hd⟩⟩
      rw [Int.zero_add]
    have I1 : Inv X pins σ (L2.upd H T (.tup [.int (i : Nat), x])) { s with heap := h'', toks := tk } :=
      I.turnedNew (ch := [e, it]) (fun b ob hb q => hk2 b ob hb (hk b ob hb q)) hf hT new
    refine ⟨.ref T, _, I1, rfl, ⟨T, x, rfl, I.hok.fresh hT, rfl, fun ys hy => by rw [I.tuple_inj hy hq]; exact hx⟩, ⟨hSt.1, hSt.2.1⟩, fun b hb => ?_⟩
    have hb' : b ≠ T := fun z => hap (z ▸ hb)
    rw [upd_ne hb']
    exact (hf b hb).1
  done := by
    intro X hP hw hK hc i pins s σ H E I hf ⟨⟨old, he⟩, hit⟩ ⟨xs, hq, hx⟩
    subst hP hw hK
    obtain ⟨its, rv, p, hz⟩ := I.tuple hq
    have hai : a ≠ it := by
      rintro rfl
      obtain ⟨o1, h1, c1, _⟩ := p
      obtain ⟨o2, h2, c2, _⟩ := hit
      rw [h1] at h2
      cases h2
      rw [c1] at c2
      exact absurd c2 (by decide)
    have hh : X.A.in1.handled = none := I.ok.hd hc
    have hae : e ≠ a := by
      rintro rfl
      obtain ⟨o1, h1, c1, _⟩ := p
      have he' : s.heap.get? e = some _ := he
      rw [h1] at he'
      cases he'
      exact absurd (show Value.type "enumerate" = Value.type "tuple" from c1) (by decide)
    have D := Draws.tuple (prog := X.prog) (w := X.w) hh it a hai its.toArray
    have W := WalksT.enumFrom 0 D e hne (by simp [hne, hae]) (by simp)
    have hlen : i = its.toArray.size := by
      have := rv.length
      simp
      omega
    subst hlen
    refine W.done s _ E ⟨⟨old, he⟩, hit, p⟩ fun h' tk hk => ⟨rfl, I.turnedL (t' := tk) (ch := [e, it]) (fun b o hb q => hk b o hb q) hf⟩
  self := fun A i s Q E ⟨⟨_, he⟩, _⟩ h => wpAny_pyIter_enum he h

section
variable {X : Cx} {e tg : Expr} {es : List Expr} {pos : Pos} {te : ATE} {tl : ATA}
/-- enumerate of a list or a tuple -/
theorem pi_enumA {ta : TA} {p tpos : Pos} {elts : List Expr} {kk : Nat} (hg : Gl X "enumerate") (hm : X.mg "enumerate" = none) (ha : PA X [e] ta) (hs : starEach [e] X.env = [(false, eval e X.env)] := by rfl) :
    PI X (.Tuple elts kk tpos) (.Call (.Name "enumerate" p) [e] [] pos) (fun σ H R => ta σ H fun vs H1 => ∃ a, vs = [.ref a] ∧ ((∃ xs, SqL X.K H1 a xs ∧ R (Ite X.K a) H1) ∨ ∃ xs, SqT X.K H1 a xs ∧ R (Itet X.K a) H1)) := by
  refine ⟨fun pins s σ H R I h => ?_⟩
  refine Call_ (ld_blt I hg hm boot_enumerate (PyProof.Rows.callWith_type1 (thn (ha.run pos pins s σ H _ I h) fun us s1 ⟨vs, H1, J, rr, qq⟩ => ?_) hs rfl))
  obtain ⟨a, ex, qq⟩ := qq
  subst ex
  obtain ⟨u1, rfl, ru⟩ := vals1 rr
  cases (show u1 = Value.ref a from ru)
  have two : ∀ b ∈ [s1.heap.objs.size + 1, s1.heap.objs.size], FpOk X pins H1 b := fun b hb => by
    have hle : s1.heap.objs.size ≤ b := by
      rcases List.mem_cons.mp hb with z | z
      · omega
      · have := List.mem_singleton.mp z
        omega
    exact J.fpOk hle (J.hok.fresh hle)
  rcases qq with ⟨xs, hx, hR⟩ | ⟨xs, hx, hR⟩
  · obtain ⟨ws, w1, w2, _⟩ := J.list hx
    refine call_enumerate_list w2.isList fun h' he hit hsz hk => wpAny_pyIter_enum he ?_
    exact ⟨s1.heap.objs.size + 1, [s1.heap.objs.size + 1, s1.heap.objs.size], _, _, H1, rfl, J.kept (t' := s1.toks) hk, turn_enum a (s1.heap.objs.size + 1) s1.heap.objs.size, ⟨⟨.none, he⟩, hit, Nat.succ_ne_self _⟩, two, hR⟩
  · obtain ⟨ws, w1, w2, _⟩ := J.tuple hx
    refine callType_new F.called_enumerate (by decide) (F.typeCall_enumerate_1 _) (F.newCall_enumerate_1 _) (fun obj => F.args_object_init_2 obj _) F.entry_enumerate_new
      (meets_enum1 (begins_tuple a ws.toArray)) ⟨w2, ?_⟩
    have B := begins_tuple a ws.toArray
    have hz : (s1.heap.push { cls := .type "tuple_iterator", data := .fields #[.ref a, .int 0 0] }).objs.size = s1.heap.objs.size + 1 := Heap.size_push ..
    show _ ∧ _
    rw [hz]
    have he := Heap.get?_push_size (s1.heap.push { cls := .type "tuple_iterator", data := .fields #[.ref a, .int 0 0] }) (o := { cls := .type "enumerate", data := .fields #[.none, .bool false, .ref s1.heap.objs.size, rawInt 0, .none, .none] }) rfl
    rw [hz] at he
    refine ⟨⟨_, he, rfl⟩, wpAny_pyIter_enum (i := 0) (old := .none) (it := s1.heap.objs.size) he ?_⟩
    have kp : ∀ b o, s1.heap.get? b = some o → _ := fun b o z => Heap.get?_push_of_some { cls := .type "enumerate", data := .fields #[.none, .bool false, .ref s1.heap.objs.size, rawInt 0, .none, .none] } (Heap.get?_push_of_some { cls := .type "tuple_iterator", data := .fields #[.ref a, .int 0 0] } z)
    exact ⟨s1.heap.objs.size + 1, [s1.heap.objs.size + 1, s1.heap.objs.size], _, _, H1, rfl, J.kept (t' := s1.toks) kp, turn_enumT a (s1.heap.objs.size + 1) s1.heap.objs.size (Nat.succ_ne_self _),
      ⟨⟨.none, he⟩, ⟨_, Heap.get?_push_of_some _ (Heap.get?_push_size _ rfl), rfl, rfl⟩⟩, two, hR⟩
/-! ### the plain side -/
theorem enumV_get : ∀ {xs : List AV} {k i : Nat} {y : AV}, (enumV k xs)[i]? = some y → ∃ x, xs[i]? = some x ∧ y = .tup [.int ((k + i : Nat) : Int), x]
  | [], k, i, y, h => by simp [enumV] at h
  | x :: xs, k, 0, y, h => by
    simp [enumV] at h
    exact ⟨x, rfl, h.symm⟩
  | x :: xs, k, i + 1, y, h => by
    have h : (enumV (k + 1) xs)[i]? = some y := by simpa [enumV] using h
    obtain ⟨z, e1, e2⟩ := enumV_get h
    refine ⟨z, by simpa using e1, ?_⟩
    rw [e2]
    congr 4
    omega
theorem enumV_len : ∀ {xs : List AV} {k : Nat}, (enumV k xs).length = xs.length
  | [], _ => rfl
  | _ :: xs, k => by
    show (enumV (k + 1) xs).length + 1 = xs.length + 1
    rw [enumV_len]
theorem good_enumT {K : PySem.W.Frag} {p : Addr} {vs : List V} {xs : List AV} {guard : AH → Prop} {H0 : Hp} {m0 : List Addr} (hs : SqT K H0 p vs) (hr : RepL K H0 m0 vs xs) : GoodIt K (Itet K p) (enumV 0 xs) guard H0 m0 :=
  ⟨fun i x H m h hx rel gd g => by
    obtain ⟨z, hz, rfl⟩ := enumV_get hx
    have s := g.tup p vs hs
    obtain ⟨v, hv, rv⟩ := (hr.mono g).at hz
    refine ⟨⟨vs, v, s, hv⟩, fun w H' ⟨T, y, e1, hT, e2, hy⟩ => ?_⟩
    subst e1 e2
    have := hy vs s
    rw [hv] at this
    cases this
    rw [Nat.zero_add]
    exact ⟨rel.off hT, RepL.tup (SqT.of upd_same) (.cons (.int _) (.cons (rv.mono (.off hT)) .nil)), .off hT⟩,
  fun H m h rel gd g => ⟨vs, g.tup p vs hs, by rw [hr.len, enumV_len]⟩⟩
theorem good_enumL {K : PySem.W.Frag} {p : Addr} {xs : List AV} {guard : AH → Prop} {H0 : Hp} {m0 : List Addr} (hq : ∀ H m h, Rel K H m h → guard h → Grow K H0 m0 H m → ∃ vs, SqL K H p vs ∧ RepL K H m vs xs) : GoodIt K (Ite K p) (enumV 0 xs) guard H0 m0 :=
  ⟨fun i x H m h hx rel gd g => by
    obtain ⟨z, hz, rfl⟩ := enumV_get hx
    obtain ⟨vs, s, r⟩ := hq H m h rel gd g
    obtain ⟨v, hv, rv⟩ := r.at hz
    refine ⟨⟨vs, v, s, hv⟩, fun w H' ⟨T, y, e1, hT, e2, hy⟩ => ?_⟩
    subst e1 e2
    have := hy vs s
    rw [hv] at this
    cases this
    rw [Nat.zero_add]
    exact ⟨rel.off hT, RepL.tup (SqT.of upd_same) (.cons (.int _) (.cons (rv.mono (.off hT)) .nil)), .off hT⟩,
  fun H m h rel gd g => by
    obtain ⟨vs, s, r⟩ := hq H m h rel gd g
    exact ⟨vs, s, by rw [r.len, enumV_len]; exact Nat.le_refl _⟩⟩
/-- a list by its kind, for ever -/
theorem lst_at {K : PySem.W.Frag} {H : Hp} {m : List Addr} {h : AH} {v : V} {x : AV} {xs : List AV} (rel : Rel K H m h) (r : Rep K H m v x) (e : lstOf x h = some xs) :
    ∃ p vs, v = .ref p ∧ SqL K H p vs ∧ RepL K H m vs xs ∧ ∀ H' m' h', Rel K H' m' h' → lstOf x h' = some xs → Grow K H m H' m' → ∃ ws, SqL K H' p ws ∧ RepL K H' m' ws xs := by
  cases x with
  | ref n =>
    simp only [lstOf] at e
    split at e
    · rename_i ys e1
      cases e
      obtain ⟨p, vs, rfl, hn, hp, rp⟩ := rel.lst r e1
      refine ⟨p, vs, rfl, SqL.of hp, rp, fun H' m' h' rel' e' g => ?_⟩
      simp only [lstOf] at e'
      split at e'
      · rename_i zs e2
        cases e'
        obtain ⟨ws, w1, w2⟩ := rel'.obj _ _ _ (g.at hn) e2
        exact ⟨ws, SqL.of w1, w2⟩
      · cases e'
    · cases e
  | rol ys =>
    cases e
    obtain ⟨p, vs, rfl, hp, rp⟩ := r.rol_inv
    exact ⟨p, vs, rfl, hp.sq, rp, fun H' m' h' rel' e' g => ⟨vs, (g.rol p vs hp).sq, rp.mono g⟩⟩
  | _ => cases e
theorem ai_enum {p tpos : Pos} {elts : List Expr} {kk : Nat} (hg : Gl X "enumerate") (hm : X.mg "enumerate" = none) (ha : AA X [e] tl) (hs : starEach [e] X.env = [(false, eval e X.env)] := by rfl) :
    AI X (.Tuple elts kk tpos) (.Call (.Name "enumerate" p) [e] [] pos) (iEnumT tl) := wkI (pi_enumA hg hm ha hs) fun σ H R ⟨m, h, a, RA, rel, rs, q, lk⟩ => by
  refine ⟨m, h, a, _, rel, rs, q, fun H1 m1 h1 vs xs q1 rel1 r1 g1 => ?_⟩
  split at q1
  · rename_i ys
    obtain ⟨v, ws, rfl, rv, rn⟩ := r1.cons_inv
    obtain rfl := rn.nil_inv
    obtain ⟨p, vs, rfl, hp, rp⟩ := rv.tup_inv
    exact ⟨p, rfl, .inr ⟨vs, hp, lk _ _ _ _ _ q1 rel1 g1 _ (good_enumT hp rp)⟩⟩
  · rename_i y _
    obtain ⟨v, ws, rfl, rv, rn⟩ := r1.cons_inv
    obtain rfl := rn.nil_inv
    split at q1
    · rename_i ys e
      obtain ⟨p, vs, rfl, hp, rp, al⟩ := lst_at rel1 rv e
      exact ⟨p, rfl, .inl ⟨vs, hp, lk _ _ _ _ _ q1 rel1 g1 _ (good_enumL al)⟩⟩
    · exact q1.elim
  · exact q1.elim
theorem zip2_get : ∀ {xs ys : List AV} {i : Nat} {z : AV}, (zip2 xs ys)[i]? = some z → ∃ x y, xs[i]? = some x ∧ ys[i]? = some y ∧ z = .tup [x, y]
  | [], ys, i, z, h => by simp [zip2] at h
  | _ :: _, [], i, z, h => by simp [zip2] at h
  | x :: xs, y :: ys, 0, z, h => by
    simp [zip2] at h
    exact ⟨x, y, rfl, rfl, h.symm⟩
  | x :: xs, y :: ys, i + 1, z, h => by
    have h : (zip2 xs ys)[i]? = some z := by simpa [zip2] using h
    obtain ⟨a, b, h1, h2, h3⟩ := zip2_get h
    exact ⟨a, b, by simpa using h1, by simpa using h2, h3⟩
theorem zip2_len : ∀ {xs ys : List AV}, (zip2 xs ys).length = min xs.length ys.length
  | [], ys => by simp [zip2]
  | _ :: _, [] => by simp [zip2]
  | x :: xs, y :: ys => by
    simp only [zip2, List.length_cons]
    rw [zip2_len]
    omega
theorem ai_zip {e2 : Expr} {p tpos : Pos} {elts : List Expr} {kk : Nat} (hg : Gl X "zip") (hm : X.mg "zip" = none) (ha : AA X [e, e2] tl)
    (hs : starEach [e, e2] X.env = (false, eval e X.env) :: starEach [e2] X.env := by rfl) (hpl : (backTo pos (starEach [e2] X.env)).any (·.1) = false := by rfl) :
    AI X (.Tuple elts kk tpos) (.Call (.Name "zip" p) [e, e2] [] pos) (iZipT tl) := wkI (RZ.pi_zipA hg hm ha hs hpl) fun σ H R ⟨m, h, a, RA, rel, rs, q, lk⟩ => by
  refine ⟨m, h, a, _, rel, rs, q, fun H1 m1 h1 vs xs q1 rel1 r1 g1 => ?_⟩
  split at q1
  · rename_i xs ys
    obtain ⟨v, ws, rfl, rv, rn⟩ := r1.cons_inv
    obtain ⟨v2, ws2, rfl, rv2, rn2⟩ := rn.cons_inv
    obtain rfl := rn2.nil_inv
    obtain ⟨p, vs, rfl, hp, rp⟩ := rv.tup_inv
    obtain ⟨p2, vs2, rfl, hp2, rp2⟩ := rv2.tup_inv
    refine ⟨p, p2, vs, vs2, rfl, .inr ⟨hp, hp2, lk _ _ _ _ _ q1 rel1 g1 _ ⟨fun i x H m h hx rel gd g => ?_, fun H m h rel gd g => ?_⟩⟩⟩
    · obtain ⟨x1, y1, e1, e2, rfl⟩ := zip2_get hx
      obtain ⟨w1, k1, k2⟩ := (rp.mono g).at e1
      obtain ⟨w2, k3, k4⟩ := (rp2.mono g).at e2
      have s1 := g.tup _ _ hp
      have s2 := g.tup _ _ hp2
      refine ⟨⟨vs, vs2, w1, w2, s1, s2, k1, k3⟩, fun w H' ⟨T, y, z, z1, hT, z2, z3, z4⟩ => ?_⟩
      subst z1 z2
      have a1 := z3 vs s1
      have a2 := z4 vs2 s2
      rw [k1] at a1
      rw [k3] at a2
      cases a1
      cases a2
      exact ⟨rel.off hT, RepL.tup (SqT.of upd_same) (.cons (k2.mono (.off hT)) (.cons (k4.mono (.off hT)) .nil)), .off hT⟩
    · refine ⟨vs, vs2, g.tup _ _ hp, g.tup _ _ hp2, ?_⟩
      have l1 := rp.len
      have l2 := rp2.len
      rw [zip2_len]
      omega
  · rename_i x y _
    split at q1
    · rename_i xs ys e1 e2
      obtain ⟨v, ws, rfl, rv, rn⟩ := r1.cons_inv
      obtain ⟨v2, ws2, rfl, rv2, rn2⟩ := rn.cons_inv
      obtain rfl := rn2.nil_inv
      obtain ⟨p, vs, rfl, hp, rp, al⟩ := lst_at rel1 rv e1
      obtain ⟨p2, vs2, rfl, hp2, rp2, al2⟩ := lst_at rel1 rv2 e2
      refine ⟨p, p2, vs, vs2, rfl, .inl ⟨hp, hp2, lk _ _ _ _ _ q1 rel1 g1 _ ⟨fun i x H m h hx rel gd g => ?_, fun H m h rel gd g => ?_⟩⟩⟩
      · obtain ⟨x1, y1, e1, e2, rfl⟩ := zip2_get hx
        obtain ⟨us, s1, t1⟩ := al H m h rel gd.1 g
        obtain ⟨us2, s2, t2⟩ := al2 H m h rel gd.2 g
        obtain ⟨w1, k1, k2⟩ := t1.at e1
        obtain ⟨w2, k3, k4⟩ := t2.at e2
        refine ⟨⟨us, us2, w1, w2, s1, s2, k1, k3⟩, fun w H' ⟨T, y, z, z1, hT, z2, z3, z4⟩ => ?_⟩
        subst z1 z2
        have a1 := z3 us s1
        have a2 := z4 us2 s2
        rw [k1] at a1
        rw [k3] at a2
        cases a1
        cases a2
        exact ⟨rel.off hT, RepL.tup (SqT.of upd_same) (.cons (k2.mono (.off hT)) (.cons (k4.mono (.off hT)) .nil)), .off hT⟩
      · obtain ⟨us, s1, t1⟩ := al H m h rel gd.1 g
        obtain ⟨us2, s2, t2⟩ := al2 H m h rel gd.2 g
        refine ⟨us, us2, s1, s2, ?_⟩
        have l1 := t1.len
        have l2 := t2.len
        rw [zip2_len]
        omega
    · exact q1.elim
  · exact q1.elim
theorem ai_str {l : Expr} (hl : AE X l te) : AI X tg l (iStrT te) := wkI (pi_str hl) fun σ H R ⟨m, h, a, RA, rel, rs, q, lk⟩ => by
  refine ⟨m, h, a, _, rel, rs, q, fun H1 m1 h1 v x q1 rel1 r1 g1 => ?_⟩
  cases x with
  | str z =>
    cases r1
    refine ⟨z, rfl, lk _ _ _ _ _ q1 rel1 g1 _ ⟨fun i x H m h hx rel gd g => ?_, fun H m h rel gd g => ?_⟩⟩
    · unfold signs at hx
      rw [List.getElem?_map] at hx
      cases hc : z.cps.toList[i]? with
      | none =>
        rw [hc] at hx
        cases hx
      | some c =>
        rw [hc] at hx
        cases hx
        have hi : i < z.cps.size := by
          have := (List.getElem?_eq_some_iff.mp hc).1
          simpa using this
        refine ⟨hi, fun w H' ⟨e1, d, e2, e3⟩ => ?_⟩
        subst e1 e3
        have e4 : z.cps.toList[i]? = some d := by simpa using e2
        rw [hc] at e4
        cases e4
        exact ⟨rel, .str _, .refl⟩
    · show z.cps.size ≤ (signs z).length
      unfold signs
      simp
  | _ => exact (show False from q1).elim
end

/-! ### numbers within a bound -/
section
variable {K : PySem.W.Frag} {H : Hp} {m : List Addr} {h : AH} {v : V} {x : AV} {vs : List V} {xs : List AV}
theorem clBs_all {n : Nat} : ∀ {xs : List AV}, clBs n xs = true ↔ ∀ x ∈ xs, clB n x = true
  | [] => by simp [clBs]
  | x :: xs => by
    simp only [clBs, Bool.and_eq_true, List.mem_cons, forall_eq_or_imp]
    rw [clBs_all]
theorem Rep.cl (r : Rep K H m v x) : clB m.length x = true := by
  induction r with
  | ref hn => exact decide_eq_true (List.getElem?_eq_some_iff.mp hn).1
  | @tup p vs xs hs hl hg ih =>
    show clBs m.length xs = true
    rw [clBs_all]
    intro y hy
    obtain ⟨i, hi, rfl⟩ := List.getElem_of_mem hy
    exact ih i vs[i] xs[i] (List.getElem?_eq_getElem (by omega)) (List.getElem?_eq_getElem hi)
  | @rol p vs xs hs hl hg ih =>
    show clBs m.length xs = true
    rw [clBs_all]
    intro y hy
    obtain ⟨i, hi, rfl⟩ := List.getElem_of_mem hy
    exact ih i vs[i] xs[i] (List.getElem?_eq_getElem (by omega)) (List.getElem?_eq_getElem hi)
  | _ => rfl
theorem RepL.cl (r : RepL K H m vs xs) : clBs m.length xs = true := by
  rw [clBs_all]
  intro y hy
  obtain ⟨i, hi, rfl⟩ := List.getElem_of_mem hy
  have hl := r.len
  exact (r.get i vs[i] xs[i] (List.getElem?_eq_getElem (by omega)) (List.getElem?_eq_getElem hi)).cl
theorem Rel.cl (r : Rel K H m h) : clH h := fun o ho => by
  obtain ⟨i, hi, rfl⟩ := List.getElem_of_mem ho
  have hl := r.len
  have q := r.obj i m[i] h[i] (List.getElem?_eq_getElem (by omega)) (List.getElem?_eq_getElem hi)
  rw [← hl]
  cases he : h[i] with
  | lst xs =>
    rw [he] at q
    obtain ⟨ws, _, q⟩ := q
    exact q.cl
  | dct kvs =>
    rw [he] at q
    obtain ⟨ws, _, _, q⟩ := q
    exact q.cl
/-- fewer numbers -/
theorem Rep.cut {e : List Addr} (r : Rep K H (m ++ e) v x) (hc : clB m.length x = true) : Rep K H m v x := by
  generalize hm : m ++ e = m' at r
  induction r with
  | non => exact .non
  | bl b => exact .bl b
  | int b => exact .int b
  | str b => exact .str b
  | ty b => exact .ty b
  | @ref n p hn =>
    subst hm
    have h1 : n < m.length := of_decide_eq_true hc
    rw [List.getElem?_append_left h1] at hn
    exact .ref hn
  | @tup p vs xs hs hl hg ih =>
    have hc : clBs m.length xs = true := hc
    rw [clBs_all] at hc
    exact .tup hs hl fun i w y h1 h2 => ih i w y h1 h2 (hc y (List.mem_of_getElem? h2))
  | @rol p vs xs hs hl hg ih =>
    have hc : clBs m.length xs = true := hc
    rw [clBs_all] at hc
    exact .rol hs hl fun i w y h1 h2 => ih i w y h1 h2 (hc y (List.mem_of_getElem? h2))
theorem RepL.cut {e : List Addr} (r : RepL K H (m ++ e) vs xs) (hc : clBs m.length xs = true) : RepL K H m vs xs :=
  ⟨r.len, fun i w y h1 h2 => (r.get i w y h1 h2).cut (clBs_all.mp hc y (List.mem_of_getElem? h2))⟩
theorem ORep.cut {e : List Addr} {p : Addr} {o : AO} (r : ORep K H (m ++ e) p o) (hc : clO m.length o = true) : ORep K H m p o := by
  cases o with
  | lst xs =>
    obtain ⟨ws, h1, h2⟩ := r
    exact ⟨ws, h1, h2.cut hc⟩
  | dct kvs =>
    obtain ⟨ws, h1, h2, h3⟩ := r
    exact ⟨ws, h1, h2, h3.cut hc⟩
theorem Rel.cut {e : List Addr} {h1 j : AH} (r : Rel K H (m ++ e) (h1 ++ j)) (hl : m.length = h1.length) (hc : clH h1) : Rel K H m h1 := by
  refine ⟨(List.nodup_append.mp r.nd).1, hl, fun n p o a b => ?_⟩
  have hn : n < m.length := (List.getElem?_eq_some_iff.mp a).1
  have q := r.obj n p o (by rw [List.getElem?_append_left hn]; exact a) (by rw [List.getElem?_append_left (by omega)]; exact b)
  exact q.cut (by rw [hl]; exact hc o (List.mem_of_getElem? b))
/-- what a def's end gives its caller -/
theorem Lk.ret {R : AK} {Q : VK} (rel : Rel K H m h) (lk : Lk K H m R Q) : Lk K H m (retG h R) Q := by
  intro H' m' h' v x q rel' rv g
  rcases q with q | ⟨h1, j, rfl, hl, hc, cx, q⟩ | ⟨h1, j1, ys, j2, rfl, rfl, hl, hc, cx, q⟩
  · exact lk _ _ _ _ _ q rel' rv g
  · obtain ⟨e, rfl⟩ := g.pre
    have hm : m.length = h1.length := by rw [rel.len, hl]
    exact lk H' m h1 v x q (rel'.cut hm hc) (rv.cut (by rw [hm]; exact cx)) ⟨g.tup, g.rol, [], (List.append_nil m).symm⟩
  · obtain ⟨e, rfl⟩ := g.pre
    have hm : m.length = h1.length := by rw [rel.len, hl]
    cases rv with
    | @ref _ p hn =>
      have hx : (h1 ++ (j1 ++ AO.lst ys :: j2))[h1.length + j1.length]? = some (.lst ys) := by
        rw [List.getElem?_append_right (by omega), Nat.add_sub_cancel_left, List.getElem?_append_right (Nat.le_refl _), Nat.sub_self]
        rfl
      obtain ⟨ws, e1, e2⟩ := rel'.obj _ _ _ hn hx
      have r0 : Rel K H' m h1 := rel'.cut hm hc
      have hp : p ∉ m := fun hmem => by
        obtain ⟨i, hi, rfl⟩ := List.getElem_of_mem hmem
        have := Rel.write.nodup_at rel'.nd hn (show (m ++ e)[i]? = some m[i] by rw [List.getElem?_append_left hi]; exact List.getElem?_eq_getElem hi)
        omega
      have gg : Grow K H' m H' (m ++ [p]) := ⟨fun _ _ z => z, fun _ _ z => z, [p], rfl⟩
      refine lk H' (m ++ [p]) _ (.ref p) (.ref h1.length) q ⟨?_, by simp [hm], fun i a o q1 q2 => ?_⟩ (.ref ?_) ⟨g.tup, g.rol, [p], rfl⟩
      · rw [List.nodup_append]
        refine ⟨r0.nd, by simp, fun b hb c hc => ?_⟩
        have : c = p := by simpa using hc
        subst this
        rintro rfl
        exact hp hb
      · by_cases hi : i < m.length
        · rw [List.getElem?_append_left hi] at q1
          rw [List.getElem?_append_left (by omega)] at q2
          exact (r0.obj i a o q1 q2).mono gg rfl
        · rw [List.getElem?_append_right (by omega)] at q1
          rw [List.getElem?_append_right (by omega), ← hm] at q2
          cases hk : i - m.length with
          | zero =>
            rw [hk] at q1 q2
            simp at q1 q2
            subst q1 q2
            exact ⟨ws, e1, (e2.cut (by rw [hm]; exact cx)).mono gg⟩
          | succ k =>
            rw [hk] at q1
            simp at q1
      · rw [← hm, List.getElem?_append_right (Nat.le_refl _), Nat.sub_self]
        rfl
end
/-! ### a def -/
theorem gv_start : ∀ {n : Nat} {xs : List AV} {i : Nat} {x : AV}, gv (startA n xs) i = some x → xs[i]? = some x := by
  have rep : ∀ (k i : Nat), gv (List.replicate k none) i = none := by
    intro k
    induction k with
    | zero => intro i; rfl
    | succ k ih => intro i; cases i with
      | zero => rfl
      | succ i => exact ih i
  have go : ∀ (xs : List AV) (k i : Nat) (x : AV), gv (xs.map some ++ List.replicate k none) i = some x → xs[i]? = some x := by
    intro xs
    induction xs with
    | nil =>
      intro k i x h
      have h : gv (List.replicate k none) i = some x := h
      rw [rep] at h
      cases h
    | cons y ys ih =>
      intro k i x h
      cases i with
      | zero =>
        have h : some y = some x := h
        cases h
        rfl
      | succ i => exact ih k i x h
  exact fun {n xs i x} h => go xs _ i x h
theorem RepS.start {K : PySem.W.Frag} {H : Hp} {m : List Addr} {N : List Str} {vs : List V} {xs : List AV} (r : RepL K H m vs xs) : RepS K H m (L2.start N vs) (startA N.length xs) := by
  refine ⟨?_, fun i x h => ?_⟩
  · unfold L2.start startA
    simp [r.len]
  · obtain ⟨v, h1, h2⟩ := r.at (gv_start h)
    refine ⟨v, ?_, h2⟩
    unfold L2.start
    rw [List.getElem?_append_left (by rw [List.length_map]; exact (List.getElem?_eq_some_iff.mp h1).1), List.getElem?_map, h1]
    rfl
section
variable {P : Program} {w : World} {K : PySem.W.Frag} {mg : Str → Option Value} {base : Heap}
/-- A DEF: its body as a term of rules; on the plain side, that the contract gives what the body asks -/
theorem okA {x qual : Str} {st : Stmt} {f : Addr} {fd : FuncData} {N ps : List Str} {k : Nat} {sp : ASp} {body : ATS} (F : Fun K x qual st f fd) (S : FnScope N ps (defScope st)) (hlen : ∀ xs h R E, sp xs h R E → xs.length = ps.length)
    (hb : ∀ (cdv : Value) (A : Around) (outer : List Env) (s : Shared) (H : Hp) (E : XK), Room k (A.deeper (envOfC qual (defScope st) s.heap.objs.size f cdv)) → ASs (cxOf CX0 P w K mg base N qual (defScope st) f cdv A outer s H E).nox (defBody st) body)
    (hp : ∀ xs h R, clH h → clBs h.length xs = true → sp xs h R (fun _ _ => False) → body (ends (retG h R)) (startA N.length xs) h) : FnOk P w K mg base CX0 (k + 1) f fd ps (upSp K sp) := by
  refine F.ok S (fun vs H Q E ⟨m, h, xs, R, rel, r, q, lk⟩ => by rw [r.len]; exact hlen _ _ _ _ q) fun cdv A outer s H vs Q E hr ⟨m, h, xs, R, rel, r, q, lk⟩ => ⟨_, hb cdv A outer s H E hr, ?_⟩
  have hc : clBs h.length xs = true := by
    rw [← rel.len]
    exact r.cl
  refine ⟨m, h, startA N.length xs, ends (retG h R), rel, .start r, hp xs h R rel.cl hc q, ?_⟩
  have lr := Lk.ret rel lk
  exact ⟨fun H' m' h' σ' a' q1 rel' rs g => lr _ _ _ _ _ q1 rel' .non g, lr, fun _ _ _ _ _ z => z.elim, fun _ _ _ _ _ z => z.elim⟩
/-- the law's own -/
theorem law_up {H : Hp} {a : Addr} {ns : List Int} (hl : ns.length ≤ 63) (hO : Only H) (hS : SqL K H a (ns.map V.int)) : upSp K lawSp [.ref a] H (fun v _ => v = .bl true) (fun _ _ _ => False) := by
  have hR : SqR K H a (ns.map V.int) := by
    rcases hS with (h | ⟨o, h⟩) | h
    · rcases hO a with z | ⟨o, xs, z⟩
      · rw [h] at z
        cases z
      · rw [h] at z
        cases z
    · exact .inl ⟨o, h⟩
    · exact .inr (.inr h)
  have rp : RepL K H [] (ns.map V.int) (ns.map AV.int) := by
    refine ⟨by simp, fun i v x h1 h2 => ?_⟩
    rw [List.getElem?_map] at h1 h2
    cases hn : ns[i]? with
    | none =>
      rw [hn] at h1
      cases h1
    | some z =>
      rw [hn] at h1 h2
      cases h1
      cases h2
      exact .int z
  refine ⟨[], [], [.rol (ns.map AV.int)], fun x _ => x = .bl true, ⟨.nil, rfl, fun n p o h => by simp at h⟩, .cons (.rol hR rp.len rp.get) .nil, ⟨ns, rfl, hl, fun _ => rfl⟩, fun H' m' h' v x q _ r _ => ?_⟩
  subst q
  cases r
  rfl
end
end AL

/-! AL5: defs as facts of the text, calls of them; chains, and more. -/
namespace AL
open PySem PySem.Spec PyProof.Rows L2
/-- a def of the text as it stands behind the top -/
structure DefIs (K : PySem.W.Frag) (mg : Str → Option Value) (x : Str) (st : Stmt) : Prop where
  ex : ∃ f fd, Fun K x x st f fd ∧ mg x = some (.ref f)
/-- a def that keeps a contract -/
structure Cal (P : Program) (w : World) (K : PySem.W.Frag) (mg : Str → Option Value) (base : Heap) (k : Nat) (x : Str) (ps : List Str) (sp : ASp) : Prop where
  ex : ∃ f fd, FnOk P w K mg base CX0 k f fd ps (upSp K sp) ∧ PySem.W.keepIn K (.ref f) = true ∧ Binds K fd ps [] ∧ mg x = some (.ref f)
section
variable {P : Program} {w : World} {K : PySem.W.Frag} {mg : Str → Option Value} {base : Heap}
theorem Cal.mk_ {k : Nat} {x : Str} {st : Stmt} {ps : List Str} {sp : ASp} (F : DefIs K mg x st) (hb : ∀ {f : Addr} {fd : FuncData}, Fun K x x st f fd → Binds K fd ps []) (h : ∀ {f : Addr} {fd : FuncData}, Fun K x x st f fd → FnOk P w K mg base CX0 k f fd ps (upSp K sp)) : Cal P w K mg base k x ps sp := by
  obtain ⟨f, fd, F, g⟩ := F.ex
  exact ⟨f, fd, h F, F.kp, hb F, g⟩
theorem none_ok {k : Nat} {f : Addr} {fd : FuncData} {ps : List Str} {sp : ASp} (h : ∀ xs h R E, sp xs h R E → False) : FnOk P w K mg base CX0 k f fd ps (upSp K sp) :=
  ⟨fun vs H Q E ⟨m, hh, xs, R, rel, r, q, lk⟩ => (h _ _ _ _ q).elim, fun A outer s H args us vs Q E hr he hb hv ⟨m, hh, xs, R, rel, r, q, lk⟩ => (h _ _ _ _ q).elim⟩
end
section
variable {X : Cx} {a b c e : Expr} {es : List Expr} {pos : Pos} {ta tb tc te : ATE} {tl : ATA}
theorem ae_cal {k : Nat} {x : Str} {ps : List Str} {s : ASp} {p : Pos} (C : Cal X.prog X.w X.K X.mg X.base k x ps s) (hr : Room k X.A) (hg : Gl X x) (ha : AA X (e :: es) tl) (hdb : (x == ("__debug__" : Str)) = false := by decide)
    (he : starEach (e :: es) X.env = (false, eval e X.env) :: starEach es X.env := by rfl) (hpl : (backTo pos (starEach es X.env)).any (·.1) = false := by rfl) : AE X (.Call (.Name x p) (e :: es) [] pos) (callT s (fun _ _ => False) tl) := by
  obtain ⟨f, fd, F, kp, b, g⟩ := C.ex
  exact ae_call F hr hg g kp b (E := E0) pass0 ha hdb he hpl
theorem ae_cal0 {k : Nat} {x : Str} {ps : List Str} {s : ASp} {p : Pos} (C : Cal X.prog X.w X.K X.mg X.base k x ps s) (hr : Room k X.A) (hg : Gl X x) (hdb : (x == ("__debug__" : Str)) = false := by decide) :
    AE X (.Call (.Name x p) [] [] pos) (callT s (fun _ _ => False) nilT) := by
  obtain ⟨f, fd, F, kp, b, g⟩ := C.ex
  exact ae_call0 F hr hg g kp b (E := E0) pass0 hdb
/-- a module's constant -/
structure ConIs (K : PySem.W.Frag) (mg : Str → Option Value) (x : Str) (k : AV) : Prop where
  ex : ∃ v u, mg x = some u ∧ RelV v u ∧ ∀ H m, Rep K H m v k
theorem ae_const {x : Str} {k : AV} (hg : Gl X x) (C : ConIs X.K X.mg x k) (hd : (x == ("__debug__" : Str)) = false := by decide) : AE X (.Name x pos) (cT k) := by
  obtain ⟨v, u, g, r, rp⟩ := C.ex
  exact ae_c (pe_glob hg g r hd) rp
theorem as_doc {x j pos'} : AS X (.Expr (.Constant (.str x) j pos) pos') nextT := wkS ps_doc fun D σ H ⟨m, h, a, DA, rel, rs, q, lk⟩ => lk.nx _ _ _ _ _ q rel rs .refl
theorem gTup_mono {K : PySem.W.Frag} {n : Nat} (is : List Nat) : ∀ v σ H (Q Q' : L2.St → Hp → Prop), (∀ s h, Q s h → Q' s h) → gTup K n (rNms is) v σ H Q → gTup K n (rNms is) v σ H Q' :=
  fun v σ H Q Q' hq ⟨a, xs, e1, e2, e3, q⟩ => ⟨a, xs, e1, e2, e3, rNms_mono is _ _ _ _ _ hq q⟩
/-! ### a < b < c -/
theorem lift_chain {r r' : AR2} {σ : L2.St} {H : Hp} {Q : VK} (q : upE X.K (chainT r r' ta tb tc) σ H Q) : tChain (up2 X.K r) (up2 X.K r') (upE X.K ta) (upE X.K tb) (upE X.K tc) σ H Q := by
  obtain ⟨m, h, a, R, rel, rs, q, lk⟩ := q
  refine ⟨m, h, a, _, rel, rs, q, fun H1 m1 h1 v x q1 rel1 r1 g1 => ⟨m1, h1, a, _, rel1, rs.mono g1, q1, fun H2 m2 h2 w y q2 rel2 r2 g2 => ⟨m2, h2, x, y, _, rel2, r1.mono g2, r2, q2, fun H3 m3 h3 z zz q3 rel3 r3 g3 => ?_⟩⟩⟩
  obtain ⟨c, rfl, rfl, q4⟩ := bl_inv r3 q3
  refine ⟨c, rfl, ?_⟩
  cases c with
  | true =>
    rw [if_pos rfl] at q4 ⊢
    exact ⟨m3, h3, a, _, rel3, rs.mono ((g1.trans g2).trans g3), q4, fun H5 m5 h5 u uu q5 rel5 r5 g5 => ⟨m5, h5, y, uu, R, rel5, (r2.mono g3).mono g5, r5, q5, Lk.on lk (((g1.trans g2).trans g3).trans g5)⟩⟩
  | false =>
    rw [if_neg Bool.false_ne_true] at q4 ⊢
    exact lk _ _ _ _ _ q4 rel3 (.bl false) ((g1.trans g2).trans g3)
theorem ae_chain {op op' : CmpOp} {r r' : AR2} (ho : OpR X (compareOp op) (up2 X.K r)) (ho' : OpR X (compareOp op') (up2 X.K r')) (ha : AE X a ta) (hb : AE X b tb) (hc : AE X c tc) (hm : lastMarks [op, op'] [b, c] = false := by with_unfolding_all rfl) : AE X (.Compare a [op, op'] [b, c] pos) (chainT r r' ta tb tc) := wkE (pe_chain ho ho' ha hb hc hm) fun _ _ _ q => lift_chain q
theorem at_chain {op op' : CmpOp} {r r' : AR2} (ho : OpR X (compareOp op) (up2 X.K r)) (ho' : OpR X (compareOp op') (up2 X.K r')) (ha : AE X a ta) (hb : AE X b tb) (hc : AE X c tc) (hm : lastMarks [op, op'] [b, c] = false := by with_unfolding_all rfl) : ATst X (.Compare a [op, op'] [b, c] pos) (cmpT (chainT r r' ta tb tc)) := wkT (pt_chain ho ho' ha hb hc hm) fun σ H Q q => by
  obtain ⟨m, h, a, R, rel, rs, q, lk⟩ := q
  refine lift_chain ⟨m, h, a, _, rel, rs, q, fun H1 m1 h1 v x q1 rel1 r1 g1 => ?_⟩
  obtain ⟨k, rfl, rfl, q2⟩ := bl_inv r1 q1
  exact ⟨k, rfl, lk _ _ _ _ q2 rel1 g1⟩
end
end AL

/-! AL6: the law's own contract at the start. -/
namespace AL
open PySem PySem.Spec PyProof.Rows L2
theorem law_up1 {K : PySem.W.Frag} {H : Hp} {a : Addr} {ns : List Int} (hl : ns.length ≤ 63) (hO : Only H) (hS : SqL K H a (ns.map V.int)) : upSp K sp_law [.ref a] H (fun v _ => v = .bl true) (fun _ _ _ => False) := by
  obtain ⟨m, hh, xs, R, rel, r, ⟨ns, rfl, hl, q⟩, lk⟩ := law_up (K := K) hl hO hS
  exact ⟨m, hh, _, R, rel, r, ⟨ns, rfl, hl, q⟩, lk⟩
end AL

/-! AL7: more rules: constants of the text, slices, more methods and built-ins. -/
namespace AL
open PySem PySem.Spec PyProof.Rows L2
/-! ### tuples of the top -/
def toV : AV → V
  | .int i => .int i
  | .str x => .str x
  | .bl b => .bl b
  | _ => .non
def leafA : AV → Bool
  | .int _ => true
  | .str _ => true
  | .bl _ => true
  | .non => true
  | _ => false
theorem con_tup {K : PySem.W.Frag} {mg : Str → Option Value} {x : Str} {p : Addr} (xs : List AV) {od : Option Addr} {its : Array Value} {n : Nat} {sl : Array (Option Value)} (g : mg x = some (.ref p)) (l : K.lookup p = some ⟨.type "tuple", od, .seq its n, sl⟩) (hs : its.size ≤ sizeLine) (hx : xs.all leafA = true) (hv : Vals (xs.map toV) its.toList) : ConIs K mg x (.tup xs) := by
  refine ⟨.ref p, .ref p, g, rfl, fun H m => .tup (vs := xs.map toV) (.inr ⟨_, its, n, l, rfl, rfl, hs, hv⟩) (List.length_map ..) fun i v y h1 h2 => ?_⟩
  rw [List.getElem?_map, h2] at h1
  cases h1
  have := List.all_eq_true.mp hx y (List.mem_of_getElem? h2)
  cases y with
  | int i => exact .int i
  | str x => exact .str x
  | bl b => exact .bl b
  | non => exact .non
  | _ => cases this
/-! ### parts of rows -/
section
variable {K : PySem.W.Frag} {H : Hp} {m : List Addr} {vs : List V} {xs : List AV}
theorem RepL.take (r : RepL K H m vs xs) (n : Nat) : RepL K H m (vs.take n) (xs.take n) := ⟨by simp [r.len], fun i v x h1 h2 => by
  by_cases hi : i < n
  · rw [List.getElem?_take_of_lt hi] at h1 h2
    exact r.get i v x h1 h2
  · rw [List.getElem?_take_eq_none (by omega)] at h1
    cases h1⟩
theorem RepL.drop (r : RepL K H m vs xs) (n : Nat) : RepL K H m (vs.drop n) (xs.drop n) := ⟨by simp [r.len], fun i v x h1 h2 => by
  rw [List.getElem?_drop] at h1 h2
  exact r.get _ v x h1 h2⟩
theorem RepL.rev (r : RepL K H m vs xs) : RepL K H m vs.reverse xs.reverse := ⟨by simp [r.len], fun i v x h1 h2 => by
  have hi : i < vs.length := by
    have := (List.getElem?_eq_some_iff.mp h1).1
    rwa [List.length_reverse] at this
  rw [List.getElem?_reverse hi] at h1
  rw [List.getElem?_reverse (by rw [← r.len]; exact hi), ← r.len] at h2
  exact r.get _ v x h1 h2⟩
theorem RepL.cutS (r : RepL K H m vs xs) (lo hi : Option Int) : RepL K H m (cutV vs lo hi) (cutA xs lo hi) := by
  have e : ∀ (n d : Nat) (o : Option Int), sixA n d o = HT.sIx n d o := fun n d o => by cases o <;> rfl
  unfold cutV cutA
  rw [e, e, ← r.len]
  exact (r.drop _).take _
theorem RepL.last (r : RepL K H m vs xs) : RepL K H m vs.dropLast xs.dropLast := by
  rw [List.dropLast_eq_take, List.dropLast_eq_take, ← r.len]
  exact r.take _
end
section
variable {X : Cx} {e e1 e2 : Expr} {pos p2 : Pos} {te : ATE} {tl th : ATO} {lo hi : Option Expr}
/-! ### slices -/
def upO (K : PySem.W.Frag) (t : ATO) : TO := fun σ H Q => ∃ m h a R, Rel K H m h ∧ RepS K H m σ a ∧ t a h R ∧ ∀ H' m' h' o, R o h' → Rel K H' m' h' → Grow K H m H' m' → Q o H'
abbrev AO' (X : Cx) (e : Option Expr) (t : ATO) : Prop := PO X e (upO X.K t)
theorem ao_none : AO' X none noneT := ⟨fun pins s σ H Q I ⟨m, h, a, R, rel, rs, q, lk⟩ => po_none.run pins s σ H Q I (lk _ _ _ _ q rel .refl)⟩
theorem ao_some (he : AE X e te) : AO' X (some e) (someT te) := ⟨fun pins s σ H Q I ⟨m, h, a, R, rel, rs, q, lk⟩ => (po_some he).run pins s σ H Q I ⟨m, h, a, _, rel, rs, q, fun H1 m1 h1 v x q1 rel1 r1 g1 => by
  cases r1 with
  | int i => exact ⟨i, rfl, lk _ _ _ _ q1 rel1 g1⟩
  | _ => exact (show False from q1).elim⟩⟩
def upSl (K : PySem.W.Frag) : V → Option Int → Option Int → Hp → VK → Prop := fun x lo hi H Q => ∃ m h ax R, Rel K H m h ∧ Rep K H m x ax ∧ sliceR ax lo hi h R ∧ Lk K H m R Q
theorem slR_inv {n : Nat} {lo hi : Option Int} {h : AH} {R : AK} (q : sliceR (.ref n) lo hi h R) : ∃ xs, h[n]? = some (.lst xs) ∧ R (.ref h.length) (h ++ [.lst (cutA xs lo hi)]) := by
  simp only [sliceR] at q
  split at q
  · rename_i xs e
    exact ⟨xs, e, q⟩
  · exact q.elim
theorem sl_A : L2.SlR X (upSl X.K) := by
  intro pins s σ H x v vl vu lo hi sl Q I rx hs pl pu ⟨m, h, ax, R, rel, r1, q, lk⟩
  cases ax with
  | tup xs =>
    obtain ⟨p, vs, rfl, hp, rp⟩ := r1.tup_inv
    refine sl_tupA pins s σ H _ v vl vu lo hi sl Q I rx hs pl pu ⟨p, vs, rfl, hp, fun ⟨w1, w2⟩ => ?_, fun _ t ht => ?_⟩
    · have e : cutA xs lo hi = xs := by
        have e : ∀ (n d : Nat) (o : Option Int), sixA n d o = HT.sIx n d o := fun n d o => by cases o <;> rfl
        unfold cutA
        rw [e, e, ← rp.len, w1, w2, List.drop_zero, Nat.sub_zero, rp.len, List.take_length]
      have q : R (.tup (cutA xs lo hi)) h := q
      rw [e] at q
      exact lk _ _ _ _ _ q rel r1 .refl
    · exact lk _ _ _ _ _ q (rel.off ht) (.tup (SqT.of upd_same) (rp.cutS lo hi).len ((rp.cutS lo hi).mono (.off ht)).get) (.off ht)
  | rol xs =>
    obtain ⟨p, vs, rfl, hp, rp⟩ := r1.rol_inv
    exact sl_list pins s σ H _ v vl vu lo hi sl Q I rx hs pl pu ⟨p, vs, rfl, hp.sq, fun l hl => lk _ _ _ _ _ q (rel.pushL hl (rp.cutS lo hi)) (.ref rel.last) (.new hl [l])⟩
  | ref n =>
    obtain ⟨ys, e, q⟩ := slR_inv q
    obtain ⟨p, vs, rfl, _, hp, rp⟩ := rel.lst r1 e
    exact sl_list pins s σ H _ v vl vu lo hi sl Q I rx hs pl pu ⟨p, vs, rfl, SqL.of hp, fun l hl => lk _ _ _ _ _ q (rel.pushL hl (rp.cutS lo hi)) (.ref rel.last) (.new hl [l])⟩
  | _ => exact (show False from q).elim
theorem ae_slice (hr : L2.SlR X (upSl X.K)) (he : AE X e te) (hl : AO' X lo tl) (hu : AO' X hi th) : AE X (.Subscript e (.Slice lo hi none p2) pos) (sliceT te tl th) := wkE (pe_slice hr he hl hu) fun σ H Q ⟨m, h, a, R, rel, rs, q, lk⟩ =>
  ⟨m, h, a, _, rel, rs, q, fun H1 m1 h1 v x q1 rel1 r1 g1 => ⟨m1, h1, a, _, rel1, rs.mono g1, q1, fun H2 m2 h2 o2 q2 rel2 g2 => ⟨m2, h2, a, _, rel2, rs.mono (g1.trans g2), q2, fun H3 m3 h3 o3 q3 rel3 g3 => ⟨m3, h3, x, R, rel3, r1.mono (g2.trans g3), q3, Lk.on lk ((g1.trans g2).trans g3)⟩⟩⟩⟩
/-! ### methods -/
theorem ae_bm0 {ok : AV → AH → Prop} {r : ARM} {T : String} {name : Str} {o : Expr} {apos : Pos} {to : ATE} (hok : upOk X.K ok T) (h : PE X (.Call (.Attribute o name apos) [] [] pos) (tBM0 X.K T (upM X.K r) (upE X.K to))) : AE X (.Call (.Attribute o name apos) [] [] pos) (mtT ok r to nilT) := wkE h fun σ H Q ⟨m, h, a, R, rel, rs, q, lk⟩ =>
  ⟨m, h, a, _, rel, rs, q, fun H1 m1 h1 v x q1 rel1 r1 g1 => ⟨hok _ _ _ _ _ rel1 r1 q1.1, m1, h1, x, [], R, rel1, r1, .nil, q1.2, Lk.on lk g1⟩⟩
theorem mt_reverseA : MtM X "list.reverse" (upM X.K reverseR) := by
  intro pins s σ H x xs v us Q I rx rs ⟨m, h, ax, as, R, rel, r1, ra, q, lk⟩
  cases ax with
  | ref n =>
    match as, q, ra with
    | [], q, ra =>
      obtain rfl := ra.nil_inv
      simp only [reverseR] at q
      split at q
      · rename_i ys e
        obtain ⟨p, vs, rfl, hn, hp, rp⟩ := rel.lst r1 e
        refine mt_reverse pins s σ H _ _ v us Q I rx rs ⟨p, vs, rfl, rfl, hp, ?_⟩
        exact lk _ _ _ _ _ q (rel.write hn e (.lst hp) ⟨_, upd_same, rp.rev.mono (.lst hp)⟩) .non (.lst hp)
      · exact q.elim
    | _ :: _, q, _ => exact (show False from q).elim
  | _ => exact (show False by cases as <;> exact q).elim
theorem mt_popA : MtM X "list.pop" (upM X.K popR) := by
  intro pins s σ H x xs v us Q I rx rs ⟨m, h, ax, as, R, rel, r1, ra, q, lk⟩
  cases ax with
  | ref n =>
    match as, q, ra with
    | [], q, ra =>
      obtain rfl := ra.nil_inv
      simp only [popR] at q
      split at q
      · rename_i ys e
        split at q
        · rename_i y ey
          obtain ⟨p, vs, rfl, hn, hp, rp⟩ := rel.lst r1 e
          obtain ⟨w, hw, rw⟩ := rp.at ey
          rw [← rp.len] at hw
          refine mt_pop pins s σ H _ _ v us Q I rx rs ⟨p, vs, w, rfl, rfl, hp, hw, ?_⟩
          exact lk _ _ _ _ _ q (rel.write hn e (.lst hp) ⟨_, upd_same, rp.last.mono (.lst hp)⟩) (rw.mono (.lst hp)) (.lst hp)
        · exact q.elim
      · exact q.elim
    | _ :: _, q, _ => exact (show False from q).elim
  | _ => exact (show False by cases as <;> exact q).elim
theorem insertR_inv {n : Nat} {i y : AV} {h : AH} {R : AK} (q : insertR (.ref n) [i, y] h R) : ∃ xs j, i = .int j ∧ h[n]? = some (.lst xs) ∧ xs.length < 16777216 ∧ 0 ≤ j ∧ j < 2 ^ 63 ∧ R .non (h.set n (.lst (xs.take j.toNat ++ [y] ++ xs.drop j.toNat))) := by
  cases i with
  | int j =>
    simp only [insertR] at q
    split at q
    · rename_i xs e
      exact ⟨xs, j, rfl, e, q⟩
    · exact q.elim
  | _ => exact q.elim
theorem mt_insertA : MtM X "list.insert" (upM X.K insertR) := by
  intro pins s σ H x xs v us Q I rx rs ⟨m, h, ax, as, R, rel, r1, ra, q, lk⟩
  cases ax with
  | ref n =>
    match as, q, ra with
    | [i, y], q, ra =>
      obtain ⟨w0, ws0, rfl, rw0, rn0⟩ := ra.cons_inv
      obtain ⟨w, ws, rfl, rw, rn⟩ := rn0.cons_inv
      obtain rfl := rn.nil_inv
      obtain ⟨ys, j, rfl, e, hz, h0, h1, q⟩ := insertR_inv q
      cases rw0
      obtain ⟨p, vs, rfl, hn, hp, rp⟩ := rel.lst r1 e
      refine mt_insert pins s σ H _ _ v us Q I rx rs ⟨p, vs, j, w, rfl, rfl, hp, by rw [rp.len, line]; exact hz, h0, h1, ?_⟩
      exact lk _ _ _ _ _ q (rel.write hn e (.lst hp) ⟨_, upd_same, (((rp.take _).append (.cons rw .nil)).append (rp.drop _)).mono (.lst hp)⟩) .non (.lst hp)
    | [], q, _ => exact (show False from q).elim
    | [z], q, _ => exact (show False by cases z <;> exact q).elim
    | _ :: _ :: _ :: _, q, _ => exact (show False by
      rename_i a b c d _
      cases a <;> exact q).elim
  | _ => exact (show False by (match as, q with
    | [], q => exact q
    | [_], q => exact q
    | [_, _], q => exact q
    | _ :: _ :: _ :: _, q => exact q)).elim
/-! ### max, min -/
theorem call_max2A (hc : X.calm = true) : CallR X (.builtin "max") (upL X.K max2R) := by
  intro pins s σ H xs us Q I rs ⟨m, h, as, R, rel, ra, q, lk⟩
  obtain ⟨x, y, rfl⟩ := two_inv q (fun z => z) (fun x z => by cases x <;> exact z) (fun x y z t w => by cases x <;> cases y <;> exact w)
  obtain ⟨v, ws, rfl, rv, rw⟩ := ra.cons_inv
  obtain ⟨v2, ws2, rfl, rv2, rw2⟩ := rw.cons_inv
  obtain rfl := rw2.nil_inv
  cases x with
  | int i =>
    cases y with
    | int j =>
      cases rv
      cases rv2
      exact call_max2 hc pins s σ H _ us Q I rs ⟨i, j, rfl, lk _ _ _ _ _ q rel (.int _) .refl⟩
    | _ => exact (show False from q).elim
  | _ => exact (show False by cases y <;> exact q).elim
theorem call_min2A (hc : X.calm = true) : CallR X (.builtin "min") (upL X.K min2R) := by
  intro pins s σ H xs us Q I rs ⟨m, h, as, R, rel, ra, q, lk⟩
  obtain ⟨x, y, rfl⟩ := two_inv q (fun z => z) (fun x z => by cases x <;> exact z) (fun x y z t w => by cases x <;> cases y <;> exact w)
  obtain ⟨v, ws, rfl, rv, rw⟩ := ra.cons_inv
  obtain ⟨v2, ws2, rfl, rv2, rw2⟩ := rw.cons_inv
  obtain rfl := rw2.nil_inv
  cases x with
  | int i =>
    cases y with
    | int j =>
      cases rv
      cases rv2
      exact call_min2 hc pins s σ H _ us Q I rs ⟨i, j, rfl, lk _ _ _ _ _ q rel (.int _) .refl⟩
    | _ => exact (show False from q).elim
  | _ => exact (show False by cases y <;> exact q).elim
end
end AL

/-! AL8: zip of two, each a list or a tuple. -/
namespace AL
open PySem PySem.Spec PyProof.Rows L2
/-- true: a tuple, false: a list -/
def SqM (k : Bool) (K : PySem.W.Frag) (H : Hp) (a : Addr) (xs : List V) : Prop := match k with
  | true => SqT K H a xs
  | false => SqL K H a xs
def IterM (k : Bool) (h : Heap) (it a : Addr) (i : Nat) : Prop := match k with
  | true => h.IsTupleIter it a i
  | false => h.IsListIter it a i
def IsM (k : Bool) (h : Heap) (a : Addr) (its : Array Value) : Prop := match k with
  | true => h.IsTuple a its
  | false => h.IsList a its
theorem IterM.live {k : Bool} {h : Heap} {it a : Addr} {i : Nat} (st : IterM k h it a i) : ∃ o, h.get? it = some o ∧ ∀ v, o.data ≠ .cell v := by
  cases k with
  | true =>
    obtain ⟨o, e, _, d⟩ := st
    exact ⟨o, e, fun v z => by rw [d] at z; cases z⟩
  | false =>
    obtain ⟨o, e, _, d⟩ := st
    exact ⟨o, e, fun v z => by rw [d] at z; cases z⟩
theorem IterM.keep {k : Bool} {h h' : Heap} {it a : Addr} {i : Nat} (st : IterM k h it a i) (kp : ∀ o, h.get? it = some o → h'.get? it = some o) : IterM k h' it a i := by
  cases k with
  | true => exact Heap.IsTupleIter.at st kp
  | false => exact Heap.IsListIter.at st kp
theorem drawsM {prog : Program} {w : World} {A : Around} (k : Bool) (hh : A.handled = none) (it a : Addr) (hne : a ≠ it) (its : Array Value) : Draws prog w A it [it, a] its.size (fun i v => its[i]? = some v) (fun i h => IterM k h it a i ∧ IsM k h a its) := by
  cases k with
  | true => exact Draws.tuple hh it a hne its
  | false => exact Draws.list hh it a hne its
theorem inv_seqM {X : Cx} {pins : List (Addr × Obj)} {σ : L2.St} {H : Hp} {s : Shared} {k : Bool} {a : Addr} {xs : List V} (I : Inv X pins σ H s) (hq : SqM k X.K H a xs) : ∃ its, Vals xs its ∧ IsM k s.heap a its.toArray ∧ a < s.heap.objs.size := by
  cases k with
  | true =>
    obtain ⟨its, rv, p, _⟩ := I.tuple hq
    obtain ⟨o, ho, _⟩ := id p
    exact ⟨its, rv, p, Heap.lt_size ho⟩
  | false =>
    obtain ⟨its, rv, p, _⟩ := I.list hq
    exact ⟨its, rv, p.isList, p.lt⟩
theorem inv_injM {X : Cx} {pins : List (Addr × Obj)} {σ : L2.St} {H : Hp} {s : Shared} {k : Bool} {a : Addr} {xs ys : List V} (I : Inv X pins σ H s) (h1 : SqM k X.K H a xs) (h2 : SqM k X.K H a ys) : xs = ys := by
  cases k with
  | true => exact I.tuple_inj h1 h2
  | false => exact I.list_inj h1 h2
def ItM (k1 k2 : Bool) (K : PySem.W.Frag) (a b : Addr) : It where
  go := fun i H => ∃ (xs ys : List V) (x y : V), SqM k1 K H a xs ∧ SqM k2 K H b ys ∧ xs[i]? = some x ∧ ys[i]? = some y
  yld := fun i H v H' => ∃ T x y, v = .ref T ∧ H T = none ∧ H' = L2.upd H T (.tup [x, y]) ∧ (∀ xs, SqM k1 K H a xs → xs[i]? = some x) ∧ ∀ ys, SqM k2 K H b ys → ys[i]? = some y
  stop := fun i H => ∃ xs ys : List V, SqM k1 K H a xs ∧ SqM k2 K H b ys ∧ i = min xs.length ys.length
theorem turn_zipM {P : Program} {w : World} {K : PySem.W.Frag} {elts : List Expr} {kk : Nat} {tpos : Pos} (k1 k2 : Bool) {a b z TI TO i1 i2 : Addr} (S : ZipSep2 z TI TO i1 i2 [i1, a] [i2, b]) (n1 : a ≠ i1) (n2 : b ≠ i2) :
    Turn P w K (.Tuple elts kk tpos) (ItM k1 k2 K a b) [z, TI, TO, i1, i2] z (fun i h => IsZip h z TI TO .none ∧ IsTupOf2 h TI (.ref i1) (.ref i2) ∧ (∃ u v, IsTupOf2 h TO u v) ∧ IterM k1 h i1 a i ∧ IterM k2 h i2 b i) where
  mem := by simp
  obj := fun i h ⟨hz, hI, ⟨u, v, hO⟩, t1, t2⟩ c hc => by
    have e : c = z ∨ c = TI ∨ c = TO ∨ c = i1 ∨ c = i2 := by simpa using hc
    rcases e with rfl | rfl | rfl | rfl | rfl
    · exact ⟨_, hz, fun v q => nomatch q⟩
    · exact ⟨_, hI, fun v q => nomatch q⟩
    · exact ⟨_, hO, fun v q => nomatch q⟩
    · exact t1.live
    · exact t2.live
  keep := fun i h h' ⟨hz, hI, ⟨u, v, hO⟩, t1, t2⟩ kp => ⟨kp z (by simp) _ hz, kp TI (by simp) _ hI, ⟨u, v, kp TO (by simp) _ hO⟩, t1.keep fun o q => kp i1 (by simp) o q, t2.keep fun o q => kp i2 (by simp) o q⟩
  item := by
    intro X hP hw hK hc i pins s σ H E I hf ⟨hz, hI, hO, t1, t2⟩ ⟨xs, ys, x, y, hqx, hqy, hx, hy⟩
    subst hP hw hK
    obtain ⟨its, rv, p, la⟩ := inv_seqM I hqx
    obtain ⟨its2, rv2, p2, lb⟩ := inv_seqM I hqy
    obtain ⟨u, hu, ru⟩ := rv.get hx
    obtain ⟨u2, hu2, ru2⟩ := rv2.get hy
    have hh : X.A.in1.handled = none := I.ok.hd hc
    have W := WalksT.zipD2 S (drawsM (prog := X.prog) (w := X.w) k1 hh i1 a n1 its.toArray) (drawsM (prog := X.prog) (w := X.w) k2 hh i2 b n2 its2.toArray)
    have lt1 := (List.getElem?_eq_some_iff.mp hu).1
    have lt2 := (List.getElem?_eq_some_iff.mp hu2).1
    refine W.item i s _ E (by simp; omega) ⟨hz, hI, hO, ⟨t1, p⟩, ⟨t2, p2⟩⟩ fun T vals h' tk ⟨v1, v2, hv1, hv2, ev⟩ hT hTup hMid hk => ?_
    subst ev
    have e1 : v1 = u := by
      have q : its[i]? = some v1 := by simpa using hv1
      rw [hu] at q
      exact (Option.some.inj q).symm
    have e2 : v2 = u2 := by
      have q : its2[i]? = some v2 := by simpa using hv2
      rw [hu2] at q
      exact (Option.some.inj q).symm
    subst e1 e2
    have hap := W.apart i T h' hMid
    have out : ∀ c, c ∉ [z, TI, TO, i1, i2] → c ∉ [z, TO, i1, i2] := fun c hc q => hc (by
      simp only [List.mem_cons, List.not_mem_nil, or_false] at q ⊢
      rcases q with q | q | q | q <;> simp [q])
    refine ⟨_, rfl, W.go elts kk tpos i T _ _ E hMid fun h'' hSt hk2 => ?_⟩
    have new : ObjOk X.prog X.w (L2.upd H T (.tup [x, y])) h'' T (.tup [x, y]) := by
      obtain ⟨o, ho, hc2, n, hd⟩ := hTup
      exact ⟨by show 2 ≤ sizeLine; rw [sizeLine_eq]; decide, [v1, v2], .cons ru (.cons ru2 .nil), ⟨o, hk2 T o hap ho, hc2, n, hd⟩⟩
    have I1 : Inv X pins σ (L2.upd H T (.tup [x, y])) { s with heap := h'', toks := tk } :=
      I.turnedNew (ch := [z, TI, TO, i1, i2]) (fun c ob hb q => hk2 c ob (out c hb) (hk c ob (out c hb) q)) hf hT new
    refine ⟨.ref T, _, I1, rfl, ⟨T, x, y, rfl, I.hok.fresh hT, rfl, fun l hl => by rw [inv_injM I hl hqx]; exact hx, fun l hl => by rw [inv_injM I hl hqy]; exact hy⟩, ⟨hSt.1, hSt.2.1, hSt.2.2.1, hSt.2.2.2.1.1, hSt.2.2.2.2.1⟩, fun c hb => ?_⟩
    have hlt : c < s.heap.objs.size := by
      have e : c = z ∨ c = TI ∨ c = TO ∨ c = i1 ∨ c = i2 := by simpa using hb
      obtain ⟨u0, v0, hO⟩ := hO
      rcases e with rfl | rfl | rfl | rfl | rfl
      · exact Heap.lt_size hz
      · exact Heap.lt_size hI
      · exact Heap.lt_size hO
      · obtain ⟨_, q, _⟩ := t1.live
        exact Heap.lt_size q
      · obtain ⟨_, q, _⟩ := t2.live
        exact Heap.lt_size q
    rw [upd_ne (show c ≠ T from fun q => by
      have : c < T := Nat.lt_of_lt_of_le hlt hT
      rw [q] at this
      exact Nat.lt_irrefl _ this)]
    exact (hf c hb).1
  done := by
    intro X hP hw hK hc i pins s σ H E I hf ⟨hz, hI, hO, t1, t2⟩ ⟨xs, ys, hqx, hqy, hi⟩
    subst hP hw hK
    obtain ⟨its, rv, p, la⟩ := inv_seqM I hqx
    obtain ⟨its2, rv2, p2, lb⟩ := inv_seqM I hqy
    have hh : X.A.in1.handled = none := I.ok.hd hc
    have W := WalksT.zipD2 S (drawsM (prog := X.prog) (w := X.w) k1 hh i1 a n1 its.toArray) (drawsM (prog := X.prog) (w := X.w) k2 hh i2 b n2 its2.toArray)
    have hlen : i = min its.toArray.size its2.toArray.size := by
      have l1 := rv.length
      have l2 := rv2.length
      simp
      omega
    subst hlen
    refine W.done s _ E ⟨hz, hI, hO, ⟨t1, p⟩, ⟨t2, p2⟩⟩ fun h' tk hk => ⟨rfl, I.turnedL (t' := tk) (ch := [z, TI, TO, i1, i2]) (fun c o hb q => hk c o (fun m => hb (by
      simp only [List.mem_cons, List.not_mem_nil, or_false] at m ⊢
      rcases m with m | m | m | m <;> simp [m])) q) hf⟩
  self := fun A i s Q E ⟨hz, _⟩ h => wpAny_pyIter_zip hz h
/-- how the iterators begin -/
def iterObj (k : Bool) (a : Addr) : Obj := match k with
  | true => { cls := .type "tuple_iterator", data := .fields #[.ref a, .int 0 0] }
  | false => { cls := .type "list_iterator", data := .fields #[.ref a, .int 0 0] }
theorem beginsM (k : Bool) (a : Addr) (its : Array Value) : Begins (.ref a) (iterObj k a) (fun h => IsM k h a its) := by
  cases k with
  | true => exact begins_tuple a its
  | false => exact begins_list a its
theorem iter_begun (k : Bool) {h : Heap} {it a : Addr} (e : h.get? it = some (iterObj k a)) : IterM k h it a 0 := by
  cases k with
  | true => exact ⟨_, e, rfl, rfl⟩
  | false => exact ⟨_, e, rfl, rfl⟩
section
variable {X : Cx} {e e2 : Expr} {pos : Pos} {tl : ATA}
theorem pi_zipM {ta : TA} {p tpos : Pos} {elts : List Expr} {kk : Nat} (hg : Gl X "zip") (hm : X.mg "zip" = none) (ha : PA X [e, e2] ta)
    (hs : starEach [e, e2] X.env = (false, eval e X.env) :: starEach [e2] X.env) (hpl : (backTo pos (starEach [e2] X.env)).any (·.1) = false) :
    PI X (.Tuple elts kk tpos) (.Call (.Name "zip" p) [e, e2] [] pos) (fun σ H R => ta σ H fun vs H1 => ∃ k1 k2 a b xs ys, vs = [.ref a, .ref b] ∧ SqM k1 X.K H1 a xs ∧ SqM k2 X.K H1 b ys ∧ R (ItM k1 k2 X.K a b) H1) := by
  refine ⟨fun pins s σ H R I h => ?_⟩
  refine Call_ (ld_blt I hg hm PyProof.Rows.boot_zip (PyProof.Rows.callWith_type1 (thn (ha.run pos pins s σ H _ I h) fun us s1 ⟨vs, H1, J, rr, qq⟩ => ?_) hs hpl))
  obtain ⟨k1, k2, a, b, xs, ys, ex, hx, hy, hR⟩ := qq
  subst ex
  obtain ⟨u1, u2, rfl, ru1, ru2⟩ := rr.two
  cases (show u1 = Value.ref a from ru1)
  cases (show u2 = Value.ref b from ru2)
  obtain ⟨its, rv, p1, la⟩ := inv_seqM J hx
  obtain ⟨its2, rv2, p2, lb⟩ := inv_seqM J hy
  refine zip_begins2 (beginsM k1 a its.toArray) (beginsM k2 b its2.toArray) p1 p2 fun h' hz hI hO g1 g2 hsz hk => wpAny_pyIter_zip hz ?_
  have five : ∀ c ∈ [s1.heap.objs.size + 4, s1.heap.objs.size + 2, s1.heap.objs.size + 3, s1.heap.objs.size, s1.heap.objs.size + 1], FpOk X pins H1 c := fun c hc => by
    have hle : s1.heap.objs.size ≤ c := by
      simp only [List.mem_cons, List.not_mem_nil, or_false] at hc
      rcases hc with rfl | rfl | rfl | rfl | rfl
      · exact Nat.le_add_right _ _
      · exact Nat.le_add_right _ _
      · exact Nat.le_add_right _ _
      · exact Nat.le_refl _
      · exact Nat.le_add_right _ _
    exact J.fpOk hle (J.hok.fresh hle)
  have S : ZipSep2 (s1.heap.objs.size + 4) (s1.heap.objs.size + 2) (s1.heap.objs.size + 3) s1.heap.objs.size (s1.heap.objs.size + 1) [s1.heap.objs.size, a] [s1.heap.objs.size + 1, b] :=
    zip_sep2 (fp1 := [a]) (fp2 := [b]) (fun c hc => by cases List.mem_singleton.mp hc; exact la) (fun c hc => by cases List.mem_singleton.mp hc; exact lb)
  exact ⟨_, [s1.heap.objs.size + 4, s1.heap.objs.size + 2, s1.heap.objs.size + 3, s1.heap.objs.size, s1.heap.objs.size + 1], _, _, H1, rfl, J.kept (t' := s1.toks) hk,
    turn_zipM k1 k2 S (Nat.ne_of_lt la) (Nat.ne_of_lt (Nat.lt_succ_of_lt lb)), ⟨hz, hI, ⟨_, _, hO⟩, iter_begun k1 g1, iter_begun k2 g2⟩, five, hR⟩
/-- a list or a tuple by its kind, for ever -/
theorem seq_at {K : PySem.W.Frag} {H : Hp} {m : List Addr} {h : AH} {v : V} {x : AV} {xs : List AV} (rel : Rel K H m h) (r : Rep K H m v x) (e : seqOf x h = some xs) :
    ∃ k p vs, v = .ref p ∧ SqM k K H p vs ∧ ∀ H' m' h', Rel K H' m' h' → seqOf x h' = some xs → Grow K H m H' m' → ∃ ws, SqM k K H' p ws ∧ RepL K H' m' ws xs := by
  cases x with
  | tup ys =>
    cases e
    obtain ⟨p, vs, rfl, hp, rp⟩ := r.tup_inv
    exact ⟨true, p, vs, rfl, hp, fun H' m' h' _ _ g => ⟨vs, g.tup p vs hp, rp.mono g⟩⟩
  | rol ys =>
    obtain ⟨p, vs, rfl, hs, _, al⟩ := lst_at rel r (show lstOf (.rol ys) h = some xs from e)
    exact ⟨false, p, vs, rfl, hs, fun H' m' h' rel' e' g => al H' m' h' rel' e' g⟩
  | ref n =>
    obtain ⟨p, vs, rfl, hs, _, al⟩ := lst_at rel r (show lstOf (.ref n) h = some xs from e)
    exact ⟨false, p, vs, rfl, hs, fun H' m' h' rel' e' g => al H' m' h' rel' e' g⟩
  | _ => cases e
theorem ai_zipM {p tpos : Pos} {elts : List Expr} {kk : Nat} (hg : Gl X "zip") (hm : X.mg "zip" = none) (ha : AA X [e, e2] tl)
    (hs : starEach [e, e2] X.env = (false, eval e X.env) :: starEach [e2] X.env := by rfl) (hpl : (backTo pos (starEach [e2] X.env)).any (·.1) = false := by rfl) :
    AI X (.Tuple elts kk tpos) (.Call (.Name "zip" p) [e, e2] [] pos) (iZipMT tl) := wkI (pi_zipM hg hm ha hs hpl) fun σ H R ⟨m, h, a, RA, rel, rs, q, lk⟩ => by
  refine ⟨m, h, a, _, rel, rs, q, fun H1 m1 h1 vs xs q1 rel1 r1 g1 => ?_⟩
  split at q1
  · rename_i x y
    split at q1
    · rename_i xs ys e1 e2
      obtain ⟨v, ws, rfl, rv, rn⟩ := r1.cons_inv
      obtain ⟨v2, ws2, rfl, rv2, rn2⟩ := rn.cons_inv
      obtain rfl := rn2.nil_inv
      obtain ⟨k1, p, vs, rfl, hp, al⟩ := seq_at rel1 rv e1
      obtain ⟨k2, p2, vs2, rfl, hp2, al2⟩ := seq_at rel1 rv2 e2
      refine ⟨k1, k2, p, p2, vs, vs2, rfl, hp, hp2, lk _ _ _ _ _ q1 rel1 g1 _ ⟨fun i x H m h hx rel gd g => ?_, fun H m h rel gd g => ?_⟩⟩
      · obtain ⟨x1, y1, c1, c2, rfl⟩ := zip2_get hx
        obtain ⟨us, s1, t1⟩ := al H m h rel gd.1 g
        obtain ⟨us2, s2, t2⟩ := al2 H m h rel gd.2 g
        obtain ⟨w1, d1, d2⟩ := t1.at c1
        obtain ⟨w2, d3, d4⟩ := t2.at c2
        refine ⟨⟨us, us2, w1, w2, s1, s2, d1, d3⟩, fun w H' ⟨T, y, z, z1, hT, z2, z3, z4⟩ => ?_⟩
        subst z1 z2
        have a1 := z3 us s1
        have a2 := z4 us2 s2
        rw [d1] at a1
        rw [d3] at a2
        cases a1
        cases a2
        exact ⟨rel.off hT, RepL.tup (SqT.of upd_same) (.cons (d2.mono (.off hT)) (.cons (d4.mono (.off hT)) .nil)), .off hT⟩
      · obtain ⟨us, s1, t1⟩ := al H m h rel gd.1 g
        obtain ⟨us2, s2, t2⟩ := al2 H m h rel gd.2 g
        exact ⟨us, us2, s1, s2, by rw [zip2_len, t1.len, t2.len]⟩
    · exact q1.elim
  · exact q1.elim
end
end AL

/-! AL9: more rules: sums. -/
namespace AL
open PySem PySem.Spec PyProof.Rows L2
section
variable {X : Cx}
theorem zsOf_rep {K : PySem.W.Frag} {H : Hp} {m : List Addr} : ∀ {vs : List V} {xs : List AV} {is : List Int}, RepL K H m vs xs → zsOf xs = some is → vs = is.map V.int
  | vs, [], is, r, e => by
    cases e
    obtain rfl := r.nil_inv
    rfl
  | vs, x :: xs, is, r, e => by
    obtain ⟨v, ws, rfl, rv, r2⟩ := r.cons_inv
    cases x with
    | int i =>
      simp only [zsOf] at e
      cases e2 : zsOf xs with
      | none =>
        rw [e2] at e
        cases e
      | some js =>
        rw [e2] at e
        cases e
        cases rv
        rw [zsOf_rep r2 e2]
        rfl
    | _ => simp [zsOf] at e
theorem sumR_inv {n : Nat} {h : AH} {R : AK} (q : sumR [.ref n] h R) : ∃ xs is, h[n]? = some (.lst xs) ∧ zsOf xs = some is ∧ R (.int is.sum) h := by
  simp only [sumR] at q
  split at q
  · rename_i xs e
    split at q
    · rename_i is e2
      exact ⟨xs, is, e, e2, q⟩
    · exact q.elim
  · exact q.elim
theorem call_sumA (hc : X.calm = true) : CallR X (.builtin "sum") (upL X.K sumR) := by
  intro pins s σ H xs us Q I rs ⟨m, h, as, R, rel, ra, q, lk⟩
  obtain ⟨x, rfl⟩ := one_inv q (fun z => z) (fun x y t z => by cases x <;> exact z)
  obtain ⟨v, ws, rfl, rv, rw⟩ := ra.cons_inv
  obtain rfl := rw.nil_inv
  cases x with
  | ref n =>
    obtain ⟨ys, is, e, e2, q⟩ := sumR_inv q
    obtain ⟨p, vs, rfl, _, hp, rp⟩ := rel.lst rv e
    exact cr_sum hc pins s σ H _ us Q I rs ⟨p, is, rfl, by rw [← zsOf_rep rp e2]; exact SqL.of hp, fin0 rel lk q (.int _)⟩
  | _ => exact (show False from q).elim
end
end AL

/-! AL10: more rules: a row turned, a range as a list, two lists compared. -/
namespace AL
open PySem PySem.Spec PyProof.Rows L2
/-! ### a tuple turned -/
section
variable {prog : Program} {w : World} {A : Around} {E : Value → Shared → Prop} {s : Shared}
theorem adjust_rev (n : Nat) : Builtin.Slice.sliceAdjust none none (-1) (n : Int) = ((n : Int) - 1, -1) := rfl
theorem places_rev (n : Nat) : Builtin.Slice.slicePlaces ((n : Int) - 1) (-1) (-1) = n := by
  unfold Builtin.Slice.slicePlaces
  have h1 : ¬ ((-1 : Int) > 0) := by decide
  simp only [h1, if_false]
  split
  · rw [show (-(-1) : Int) = 1 by decide, Int.ediv_one]
    omega
  · omega
theorem sliceApplied_rev {sl : Addr} {vk : Value} {n : Nat} {Q : Int × Int × Nat → Shared → Prop} (hs : s.heap.IsSliceOf sl .none .none vk) (pk : IsPart vk (some (-1))) (h : Q ((n : Int) - 1, -1, n) s) :
    wpAny (model prog w) A (Builtin.Slice.sliceApplied (.ref sl) (pure (n : Int))) Q E s := by
  obtain ⟨os, hos, hcs, hds⟩ := id hs
  unfold Builtin.Slice.sliceApplied Builtin.Slice.sliceFields
  refine wpAny_bind (wpAny_bind (wpAny_field hos hds (x := .none) rfl (wpAny_bind (wpAny_field hos hds (x := .none) rfl (wpAny_bind (wpAny_field hos hds (x := vk) rfl (wpAny_pure ?_)))))))
  refine wpAny_bind (HT.slicePart_ pk ?_)
  show wpAny _ _ (if ((-1 : Int) == 0) = true then _ else _) _ _ s
  rw [if_neg (by decide)]
  refine wpAny_bind (HT.slicePart_ .none (wpAny_bind (HT.slicePart_ .none (wpAny_bind (wpAny_pure ?_)))))
  show wpAny _ _ (match Builtin.Slice.sliceAdjust none none (-1) (n : Int) with | (lo, hi) => pure (lo, (-1 : Int), Builtin.Slice.slicePlaces lo hi (-1))) _ _ s
  rw [adjust_rev n]
  show wpAny _ _ (pure ((n : Int) - 1, (-1 : Int), Builtin.Slice.slicePlaces ((n : Int) - 1) (-1) (-1))) _ _ s
  rw [places_rev]
  exact wpAny_pure h
theorem fm_congr {α β : Type} {f g : α → Option β} : ∀ {l : List α}, (∀ x ∈ l, f x = g x) → l.filterMap f = l.filterMap g
  | [], _ => rfl
  | x :: r, h => by
    rw [List.filterMap_cons, List.filterMap_cons, h x (by simp), fm_congr fun y hy => h y (by simp [hy])]
theorem pick_rev (xs : Array Value) : ((List.range xs.size).filterMap fun (m : Nat) => xs[((xs.size : Int) - 1 + (m : Int) * (-1)).toNat]?).toArray = xs.toList.reverse.toArray := by
  congr 1
  obtain ⟨l⟩ := xs
  simp only [List.size_toArray, List.getElem?_toArray]
  have e : ∀ m ∈ List.range l.length, l[((l.length : Int) - 1 + (m : Int) * (-1)).toNat]? = l.reverse[m]? := fun m hm => by
    rw [List.mem_range] at hm
    rw [List.getElem?_reverse hm]
    congr 1
    omega
  rw [fm_congr e]
  have := pick_run l.reverse.toArray 0 l.length
  rw [List.filterMap_map] at this
  have e2 : ((fun x => l.reverse.toArray[x]?) ∘ fun x => 0 + x) = fun m => l.reverse[m]? := by
    funext m
    simp
  rw [e2] at this
  rw [this]
  show List.take l.length l.reverse = l.reverse
  exact List.take_of_length_le (by rw [List.length_reverse]; exact Nat.le_refl _)
theorem getItem_tuple_rev {t sl : Addr} {items : Array Value} {vk : Value} {Q : Value → Shared → Prop} (ht : IsTup s.heap t items) (hs : s.heap.IsSliceOf sl .none .none vk) (pk : IsPart vk (some (-1)))
    (h : Q (.ref s.heap.objs.size) { s with heap := s.heap.push { cls := .type "tuple", data := .seq items.toList.reverse.toArray } })
    (hsz : items.size ≤ sizeLine) : wpAny (model prog w) A (getItem (.ref t) (.ref sl)) Q E s := by
  have htake : sizeOk (.seq items.toList.reverse.toArray) := by
    show items.toList.reverse.toArray.size ≤ sizeLine
    rw [List.size_toArray, List.length_reverse, Array.length_toList]
    exact hsz
  obtain ⟨os, hos, hcs, hds⟩ := id hs
  have hTs : s.TypeIs (.ref sl) "slice" := ⟨os, hos, hcs⟩
  unfold getItem
  try with_reducible refine wpAny_holding ?_
  first | refine wpAny_bind (wpAny_pure ?_) | skip
  refine wpAny_bind (wpAny_sequenceKey ht.typeIs (by decide) ?_)
  refine wpAny_bind (wpAny_callSpecial?_slot (name := Str.ofString "__getitem__") ht.typeIs PyProof.Rows.slot_tuple_getitem
    (wpAny_call_entry PyProof.Rows.slot_tuple_getitem ht.typeIs entry_tuple_getitem ?_ (args_tuple_getitem _ _)))
  show wpAny _ _ (Builtin.Tuple.tupleItemsOf (.ref t) >>= _) _ _ s
  refine wpAny_bind (tupleItemsOf_ ht ?_)
  refine wpAny_bind (wpAny_typeOf hTs ?_)
  rw [if_pos (by decide)]
  refine wpAny_bind (sliceApplied_rev hs pk ?_)
  have hno : ¬ ((((items.size : Int) - 1) == 0 && (-1 : Int) == 1 && items.size == items.size) = true) := by
    intro q
    rw [Bool.and_eq_true, Bool.and_eq_true] at q
    exact absurd q.1.2 (by decide)
  show wpAny _ _ (if (((items.size : Int) - 1) == 0 && (-1 : Int) == 1 && items.size == items.size) = true then _ else _) _ _ s
  rw [if_neg hno, pick_rev]
  first
    | exact wpAny_bind (m := Builtin.Tuple.tupleExact _) (wpAny_newObj_type (wpAny_pure ⟨_, rfl, wpAny_pure h⟩) htake)
    | exact wpAny_bind (m := Builtin.Tuple.tupleExact _) (wpAny_newObj_type (wpAny_bind (wpAny_pure (wpAny_pure ⟨_, rfl, wpAny_pure h⟩))) htake)
    | exact wpAny_bind (wpAny_bind (m := Builtin.Tuple.tupleExact _) (wpAny_newObj_type (wpAny_pure (wpAny_pure ⟨_, rfl, wpAny_pure h⟩)) htake))
    | exact wpAny_bind (wpAny_bind (m := Builtin.Tuple.tupleExact _) (wpAny_newObj_type (wpAny_pure ⟨_, rfl, wpAny_pure h⟩) htake))
end
section
variable {X : Cx} {e k : Expr} {te tk : ATE} {pos p2 p p3 : Pos}
def tRev (K : PySem.W.Frag) (te tk : TE) : TE := fun σ H Q => te σ H fun x H1 => tk σ H1 fun y H2 => ∃ a xs, x = .ref a ∧ y = .int (-1) ∧ SqT K H2 a xs ∧ ∀ p, H2 p = none → Q (.ref p) (upd H2 p (.tup xs.reverse))
theorem pe_rev {te tk : TE} (he : PE X e te) (hk : PE X k tk) : PE X (.Subscript e (.Slice none none (some k) p2) pos) (tRev X.K te tk) := by
  refine ⟨fun pins s σ H Q I h => ?_⟩
  refine Subscript_ (thn (he.run pins s σ H _ I h) fun v s1 ⟨x, H1, I1, r1, q1⟩ => ?_)
  refine wpAny_Slice ?_
  rw [evalPart_none]
  refine wpAny_pure ?_
  refine wpAny_pure ?_
  rw [evalPart_some]
  refine thn (hk.run pins s1 σ H1 _ I1 q1) fun vk s2 ⟨y, H2, I2, r2, q2⟩ => ?_
  obtain ⟨a, xs, rfl, rfl, hx, q⟩ := q2
  obtain ⟨tk, rfl⟩ := r2
  have I4 : Inv X pins σ H2 { s2 with heap := s2.heap.push { cls := .type "slice", data := .fields #[.none, .none, .int (-1) tk] } } := I2.kept (t' := s2.toks) fun b ob q => Heap.get?_push_of_some _ q
  cases r1
  obtain ⟨its, r, ht, hz⟩ := I4.tuple hx
  show wpAny (model X.prog X.w) X.A (subscriptTail e (.Slice none none (some k) p2) (.ref a) (.ref s2.heap.objs.size)) (EP X pins σ Q) X.xe { s2 with heap := s2.heap.push { cls := .type "slice", data := .fields #[.none, .none, .int (-1) tk] } }
  refine tail_any (ops := [.ref a, .ref s2.heap.objs.size]) ht.typeIs PyProof.Rows.slot_tuple_getitem.lookup ?_ rfl
  refine getItem_tuple_rev ht (Heap.IsSliceOf.new ..) (.int _ _) ?_ (by rw [List.size_toArray, ← r.length]; exact hz)
  refine ⟨.ref _, _, I4.laid (t' := s2.toks) (o := .tup xs.reverse) (fun b ob q => Heap.get?_push_of_some _ q) (Nat.le_refl _) ?_, rfl, q _ (I4.hok.fresh (Nat.le_refl _))⟩
  exact ⟨by rw [List.length_reverse]; exact hz, _, r.reverse, IsTup.new _ _⟩
theorem ae_rev (he : AE X e te) (hk : AE X k tk) : AE X (.Subscript e (.Slice none none (some k) p2) pos) (revT te tk) := wkE (pe_rev he hk) fun σ H Q ⟨m, h, a, R, rel, rs, q, lk⟩ =>
  ⟨m, h, a, _, rel, rs, q, fun H1 m1 h1 v x q1 rel1 r1 g1 => ⟨m1, h1, a, _, rel1, rs.mono g1, q1, fun H2 m2 h2 v2 y q2 rel2 r2 g2 => by
    cases x with
    | tup xs =>
      cases y with
      | int i =>
        by_cases hi : i = -1
        · subst hi
          cases r2
          obtain ⟨p, vs, rfl, hp, rp⟩ := (r1.mono g2).tup_inv
          exact ⟨p, vs, rfl, rfl, hp, fun t ht => lk _ _ _ _ _ q2 (rel2.off ht) (.tup (SqT.of upd_same) rp.rev.len (rp.rev.mono (.off ht)).get) ((g1.trans g2).trans (.off ht))⟩
        · exact (show False from by
            split at q2
            · rename_i h1 h2
              cases h2
              exact hi rfl
            · exact q2).elim
      | _ => exact (show False from q2).elim
    | _ => exact (show False from q2).elim⟩⟩
/-! ### a range as a list -/
theorem rg_rep {K : PySem.W.Frag} {H : Hp} {m : List Addr} {n : Int} (h : 0 ≤ n) : RepL K H m (rgV 0 n) (zrange 0 n.toNat) := ⟨by rw [rgV_length, zr_len, Int.sub_zero], fun i v x h1 h2 => by
  obtain ⟨hi, rfl⟩ := zr_get h2
  unfold rgV at h1
  rw [List.getElem?_map, List.getElem?_range (by rw [Int.sub_zero]; exact hi)] at h1
  cases h1
  exact .int _⟩
theorem ae_listRg (hc : X.calm = true) (hg : Gl X "list") (hm : X.mg "list" = none) (hg2 : Gl X "range") (hm2 : X.mg "range" = none) (he : AE X e te)
    (na : starEach [e] X.env = (false, eval e X.env) :: starEach [] X.env := by rfl) (na2 : starEach [.Call (.Name "range" p3) [e] [] p2] X.env = (false, eval (.Call (.Name "range" p3) [e] [] p2) X.env) :: starEach [] X.env := by rfl) :
    AE X (.Call (.Name "list" p) [.Call (.Name "range" p3) [e] [] p2] [] pos) (lstRgT te) :=
  wkE (pe_listRg hc hg hm (prg_1 hg2 hm2 he na) na2) fun σ H Q ⟨m, h, a, R, rel, rs, q, lk⟩ =>
    ⟨m, h, a, _, rel, rs, q, fun H1 m1 h1 v x q1 rel1 r1 g1 => by
      cases x with
      | int n =>
        cases r1
        obtain ⟨h0, h2, q1⟩ := q1
        exact ⟨n, rfl, RgOk.of_le (Int.le_refl _) (by omega) (by decide) h0, fun l hl => lk _ _ _ _ _ q1 (rel1.pushL hl (rg_rep h0)) (.ref rel1.last) (g1.trans (.new hl [l]))⟩
      | _ => exact (show False from q1).elim⟩
/-! ### two lists -/
theorem neLR_inv {m n : Nat} {h : AH} {R : AK} (q : neLR (.ref m) (.ref n) h R) : ∃ xs ys, h[m]? = some (.lst xs) ∧ h[n]? = some (.lst ys) ∧ xs.all (plainN 40) = true ∧ ys.all (plainN 40) = true ∧ R (.bl (!aeqs xs ys)) h := by
  simp only [neLR] at q
  split at q
  · rename_i xs ys e1 e2
    exact ⟨xs, ys, e1, e2, q⟩
  · exact q.elim
theorem shapedL {xs : List AV} (h : xs.all (plainN 40) = true) : SeqAt.shaped (.list (toPys xs)) = true := by
  obtain ⟨h1, h2⟩ := lay_all (n := 40) (fun x => lay_of 40 x) xs fun x hx => List.all_eq_true.mp h x hx
  unfold SeqAt.shaped PyData.canLay0 PyData.depth
  rw [h1, decide_eq_true (by omega)]
  rfl
theorem op_neLA (hu : X.A.units + 64 < cLine) : OpR X (compareOp .NotEq) (up2 X.K neLR) := by
  intro pins s σ H x y v u Q I rx ry ⟨m, h, ax, ay, R, rel, r1, r2, q, lk⟩
  cases ax with
  | ref m1 =>
    cases ay with
    | ref n1 =>
      obtain ⟨xs, ys, e1, e2, p1, p2, q⟩ := neLR_inv q
      obtain ⟨a, vs, rfl, _, ha, ra⟩ := rel.lst r1 e1
      obtain ⟨b, ws, rfl, _, hb, rb⟩ := rel.lst r2 e2
      have p1' : ∀ x ∈ xs, plainN 40 x = true := fun x hx => List.all_eq_true.mp p1 x hx
      have p2' : ∀ x ∈ ys, plainN 40 x = true := fun x hx => List.all_eq_true.mp p2 x hx
      refine op_neD hu pins s σ H _ _ v u Q I rx ry ⟨.list (toPys xs), .list (toPys ys), .lst (SqL.of ha) (dp_all (fun x v h r => dp_of 40 x v h r) xs vs ra p1'), .lst (SqL.of hb) (dp_all (fun x v h r => dp_of 40 x v h r) ys ws rb p2'), shapedL p1, shapedL p2, ?_⟩
      have : PyData.eqv (.list (toPys xs)) (.list (toPys ys)) = aeqs xs ys := by
        simp only [PyData.eqv]
        exact eqv_all (eqv_of 40) xs ys p1' p2'
      rw [this]
      exact fin0 rel lk q (.bl _)
    | _ => exact (show False from q).elim
  | _ => exact (show False from by cases ay <;> exact q).elim
end
end AL

/-! AL11: more rules: a new dict, the keys of a dict in order. -/
namespace AL
open PySem PySem.Spec PyProof.Rows L2
section
variable {X : Cx} {pos : Pos}
theorem ae_dnew : AE X (.Dict [] [] pos) dnewT := wkE pe_dnewK fun σ H Q ⟨m, h, a, R, rel, rs, q, lk⟩ p hp =>
  lk _ _ _ _ _ q (rel.push hp ⟨[], upd_same, rfl, .nil⟩) (.ref rel.last) (.new hp [p])
theorem sortedR_inv {n : Nat} {h : AH} {R : AK} (q : sortedR [.ref n] h R) : ∃ kvs ks, h[n]? = some (.dct kvs) ∧ kvs.map (·.1) = ks.map Sum.inl ∧ ks.length ≤ 1000000 ∧ ∀ ys : List Int, ys.Perm ks → ys.Pairwise (· ≤ ·) → R (.ref h.length) (h ++ [.lst (ys.map AV.int)]) := by
  simp only [sortedR] at q
  split at q
  · rename_i kvs e
    obtain ⟨ks, q⟩ := q
    exact ⟨kvs, ks, e, q⟩
  · exact q.elim
theorem ints_rep {K : PySem.W.Frag} {H : Hp} {m : List Addr} (ys : List Int) : RepL K H m (ys.map V.int) (ys.map AV.int) := ⟨by simp, fun i v x h1 h2 => by
  obtain ⟨y, hy, rfl⟩ := map_get h1
  obtain ⟨z, hz, rfl⟩ := map_get h2
  rw [hy] at hz
  cases hz
  exact .int _⟩
/-- sorted(d) of a dict, all keys ints, any number of them -/
theorem call_sortedDA (hcalm : X.calm = true) : CallR X (.builtin "sorted") (fun xs H Q => ∃ (a : Addr) (kvs : List (Key × V)) (ks : List Int), xs = [.ref a] ∧ Rd H a (.dK kvs) ∧ kvs.map (·.1) = ks.map Sum.inl ∧ ks.length ≤ 1000000 ∧
    ∀ (ys : List Int) (p : Addr), ys.Perm ks → ys.Pairwise (· ≤ ·) → H p = none → Q (.ref p) (upd H p (.lst (ys.map V.int)))) := by
  intro pins s σ H xs us Q I r q
  obtain ⟨a, kvs, ks, ex, hd, hks, h64, q⟩ := q
  subst ex
  obtain ⟨u, eu, rx⟩ := vals1 r
  subst eu
  cases rx
  obtain ⟨z, lo, vs, rel, dd⟩ := dk_rd I.hok hd
  obtain ⟨ep, hat⟩ := dd.dictAt
  have hkeys : vs.map (·.1) = ks.map Sum.inl := rel.keys.symm.trans hks
  have hl : vs.length = ks.length := by
    have e := congrArg List.length hkeys
    rw [List.length_map, List.length_map] at e
    exact e
  have h16 : vs.length ≤ sizeLine := by rw [hl, sizeLine_eq]; omega
  refine Calls.call_function_entry PyProof.Rows.kind_sorted PyProof.Rows.plain_sorted PyProof.Rows.entry_sorted (PyProof.Rows.args_sorted1 _) ?_
  unfold Builtin.«sorted»
  refine wpAny_bind (m := checkCount "sorted" 1 1 _) (wpAny_pure ?_)
  refine wpAny_bind (PySem.W.kdu_collect (A := X.A.in1) (PySem.W.kdl_dict (knd := mixKind X.prog X.w) (kvs := vs) (ep := ep) lo) (I.ok.hd hcalm) hat h16 fun h' tk acc hk hacc => ?_)
  have hal : acc.toList.length = ks.length := by rw [Array.length_toList, hacc.1, hl]
  have hS : IntsAre acc.toList ks := ints_each hal fun j v e => by
    obtain ⟨k, x, e1, e2⟩ := hacc.2 j v (by rw [← Array.getElem?_toList]; exact e)
    have e3 : (vs.map (·.1))[j]? = some k := by rw [List.getElem?_map, e1]; rfl
    rw [hkeys, List.getElem?_map] at e3
    cases e4 : ks[j]? with
    | none => rw [e4] at e3; cases e3
    | some y =>
      rw [e4] at e3
      have e5 : Sum.inl y = k := Option.some.inj e3
      subst e5
      rcases keyIs_shape (show keyIs (Sum.inl y) v = true from e2) with ⟨i, t, ek, ev⟩ | ⟨z, t, ek, ev⟩
      · cases ek
        exact ⟨y, t, rfl, ev⟩
      · cases ek
  have I1 : Inv X pins σ H { s with heap := h', toks := tk } := I.kept hk
  refine wpAny_bind (wpAny_newList ?_ (by rw [hal, sizeLine_eq]; omega))
  have hoL : (h'.push (seqObj "list" acc.toList.toArray 0)).get? h'.objs.size = some (seqObj "list" acc.toList.toArray 0) := Heap.get?_push_size _ rfl
  show wpAny _ _ _ _ _ { s with heap := h'.push (seqObj "list" acc.toList.toArray 0), toks := tk }
  refine wpAny_bind (wpAny_holding (wpAny_call_entry PyProof.Rows.slot_list_sort ⟨_, hoL, rfl⟩ PyProof.Rows.entry_list_sort
    (SrtO.list_sort_ord (s := { s with heap := h'.push (seqObj "list" acc.toList.toArray 0), toks := tk }) SrtO.swo_int hoL (by rw [hal, sizeLine_eq]; omega) (fun h2 => SrtO.ints_sortable hS h2) fun out h1 h2 => ⟨_, rfl, ?_⟩) (PyProof.Rows.args_list_sort _)))
  obtain ⟨k1, k2, k3⟩ := SrtO.ints_out hS h1 h2
  obtain ⟨e', he'⟩ := PyProof.Rows.sortedHeap_at (vs := acc.toList) (out := out.toArray) hoL
  have hlen : ((out.map SrtO.iv).map V.int).length ≤ sizeLine := by
    rw [List.length_map, k2.length_eq, sizeLine_eq]
    omega
  refine wpAny_pure ⟨_, rfl, .ref h'.objs.size, upd H h'.objs.size (.lst ((out.map SrtO.iv).map V.int)), I1.laid (t' := tk) (fun b u e => ?_) (Nat.le_refl _)
    (show ObjOk X.prog X.w _ _ _ (.lst ((out.map SrtO.iv).map V.int)) from ⟨hlen, out, e', vals_of_ints k1, he'⟩), rfl, q _ _ k2 k3 (I1.hok.fresh (Nat.le_refl _))⟩
  have hb : b < h'.objs.size := Heap.lt_size e
  rw [PyProof.Rows.sortedHeap_old (Nat.ne_of_lt hb) (by rw [size_push']; exact Nat.lt_succ_of_lt hb)]
  exact Heap.get?_push_of_some _ e
theorem call_sortedA (hc : X.calm = true) : CallR X (.builtin "sorted") (upL X.K sortedR) := by
  intro pins s σ H xs us Q I rs ⟨m, h, as, R, rel, ra, q, lk⟩
  obtain ⟨x, rfl⟩ := one_inv q (fun z => z) (fun x y t z => by cases x <;> exact z)
  obtain ⟨v, ws, rfl, rv, rw⟩ := ra.cons_inv
  obtain rfl := rw.nil_inv
  cases x with
  | ref n =>
    obtain ⟨kvs, ks, e, hk, hz, q⟩ := sortedR_inv q
    obtain ⟨p, vs, rfl, _, hp, hk2, rp⟩ := rel.dct rv e
    exact call_sortedDA hc pins s σ H _ us Q I rs ⟨p, vs, ks, rfl, .inl hp, by rw [hk2]; exact hk, hz, fun ys l h1 h2 hl => lk _ _ _ _ _ (q ys h1 h2) (rel.pushL hl (ints_rep ys)) (.ref rel.last) (.new hl [l])⟩
  | _ => exact (show False from q).elim
end
end AL

/-! SW: told words, lines at widths: contracts. -/
namespace AL
open PySem
def wordsV (nm : AV) (line gap : Rat) (ws : List Rat) : AV := .tup [.str "words", nm, rat line, rat gap, .tup (ws.map rat)]
structure WordsOk (line gap : Rat) (ws : List Rat) : Prop where
  ne : 1 ≤ ws.length
  le : ws.length ≤ 12
  li : sz line ≤ 24
  ga : sz gap ≤ 24
  wi : ∀ q ∈ ws, sz q ≤ 24
  pg : 0 ≤ gap
  pw : ∀ q ∈ ws, 0 < q
/-- lines, the present line, its length: after so many words -/
def brk (width gap : Rat) (ws : List Rat) : Nat → List (List Nat) × List Nat × Rat
  | 0 => ([], [], 0)
  | i + 1 =>
    let s := brk width gap ws i
    let w := ws.getD i 0
    if s.2.1 = [] then (s.1, [i], w) else if s.2.2 + (gap + w) ≤ width then (s.1, s.2.1 ++ [i], s.2.2 + (gap + w)) else (s.1 ++ [s.2.1], [i], w)
def rows (width gap : Rat) (ws : List Rat) : List (List Nat) := (brk width gap ws ws.length).1 ++ [(brk width gap ws ws.length).2.1]
def intsV (r : List Nat) : List AV := r.map fun (k : Nat) => AV.int (k : Int)
def rowV (r : List Nat) : AV := .tup (intsV r)
def rowsV (rs : List (List Nat)) : AV := .tup (rs.map rowV)
/-- told words and a width -/
def WW (x y : AV) (p : Rat → Rat → List Rat → Rat → Prop) : Prop := ∃ nm line gap ws width, x = wordsV nm line gap ws ∧ y = rat width ∧ WordsOk line gap ws ∧ sz width ≤ 1000 ∧ p line gap ws width
def sp_line_rows : ASp := A2 fun x y h R _ => WW x y fun line gap ws width => R (rowsV (rows width gap ws)) h
def sp_tall_at : ASp := A2 fun x y h R _ => WW x y fun line gap ws width => R (rat (line * (((rows width gap ws).length : Int) : Rat))) h
def sp_law_size : ASp := A2 fun x y h R _ => ∃ (n : Nat) (way : Int), x = .ref n ∧ y = .int way ∧ DrawAt h n ∧ ∀ q h', sz q ≤ 24 → 0 < q → Drawn h n h' → R (rat q) h'
def sp_law_told_words : ASp := A3 fun x y z h R _ => ∃ (n : Nat) (s : Str) (most : Int), x = .ref n ∧ y = .str s ∧ z = .int most ∧ 1 ≤ most ∧ most ≤ 12 ∧ DrawAt h n ∧
  ∀ line gap ws h', WordsOk line gap ws → Drawn h n h' → R (wordsV (.str s) line gap ws) h'
def sp_law_long : ASp := A3 fun x y z h R _ => ∃ nm line gap ws, x = wordsV nm line gap ws ∧ WordsOk line gap ws ∧ ∃ first last : Nat, y = .int first ∧ z = .int last ∧ first ≤ last ∧ last < ws.length ∧ ∀ q, sz q ≤ 700 → R (rat q) h
def sp_law_near : ASp := A2 fun x y h R _ => ∃ n : Nat, x = .ref n ∧ DrawAt h n ∧ ∃ nm line gap ws, y = wordsV nm line gap ws ∧ WordsOk line gap ws ∧ ∀ q h', sz q ≤ 1000 → Drawn h n h' → R (rat q) h'
def lcmB (qs : List Rat) : Int := qs.foldl (fun (B : Int) (q : Rat) => B * ((q.den : Int) / ((B.natAbs.gcd ((q.den : Int)).natAbs : Nat) : Int))) 1
def sp_law_whole : ASp := A2 fun x y h R _ => WW x y fun line gap ws width => ∀ (B : Int) (ss : List Int), 0 < B → ss.length = ws.length + 2 → (∀ (i : Nat) q, (ws ++ [gap, width])[i]? = some q → ∃ s, ss[i]? = some s ∧ (s : Rat) = q * (B : Rat)) → B = lcmB (ws ++ [gap, width]) →
  R (.ref h.length) (h ++ [.lst (ss.map AV.int)])
def sp_law_broken : ASp := A2 fun x y h R _ => WW x y fun line gap ws width => R (rowsV (rows width gap ws)) h
end AL

/-! BW: bodies, printed by gen.py. -/
namespace AL
open PySem
def b_line_rows_l1 : ATS := (seqT (ifS (notT (truT (varT 5)))
    (seqT (asgT (lstT (consT (varT 7) nilT)) (gNameT 5))
    (seqT (asgT (varT 8) (gNameT 6))
    contT))
    nextT)
    (seqT (asgT (callT sp_plus (fun _ _ => False) (consT (varT 6) (consT (callT sp_plus (fun _ _ => False) (consT (varT 3) (consT (varT 8) nilT))) nilT))) (gNameT 9))
    (ifS (truT (callT sp_at_most (fun _ _ => False) (consT (varT 9) (consT (varT 1) nilT))))
    (seqT (dropT (mtT isLst appendR (varT 5) (consT (varT 7) nilT)))
    (asgT (varT 9) (gNameT 6)))
    (seqT (dropT (mtT isLst appendR (varT 4) (consT (cbT tupleR (consT (varT 5) nilT)) nilT)))
    (seqT (asgT (lstT (consT (varT 7) nilT)) (gNameT 5))
    (asgT (varT 8) (gNameT 6)))))))
def b_line_rows_r1 : ATS := (seqT (dropT (mtT isLst appendR (varT 4) (consT (cbT tupleR (consT (varT 5) nilT)) nilT)))
    (retT (cbT tupleR (consT (varT 4) nilT))))
def b_line_rows : ATS := (seqT (asgT (opT ixR (varT 0) (cT (.int 4))) (gNameT 2))
    (seqT (asgT (opT ixR (varT 0) (cT (.int 3))) (gNameT 3))
    (seqT (asgT (lstT nilT) (gNameT 4))
    (seqT (asgT (lstT nilT) (gNameT 5))
    (seqT (asgT (tupT (consT (cT (.int 0)) (consT (cT (.int 1)) nilT))) (gNameT 6))
    (seqT (forT (iEnumT (consT (varT 2) nilT)) (gTupT 2 (gConsT (gNameT 7) (gConsT (gNameT 8) gNilT)))
    b_line_rows_l1)
    b_line_rows_r1))))))
def b_tall_at : ATS := (retT (callT sp_times (fun _ _ => False) (consT (opT ixR (varT 0) (cT (.int 2))) (consT (tupT (consT (cbT lenR (consT (callT sp_line_rows (fun _ _ => False) (consT (varT 0) (consT (varT 1) nilT))) nilT)) (consT (cT (.int 1)) nilT))) nilT))))
def b_law_size : ATS := (seqT (ifS (cmpT (opT eqR (varT 1) (cT (.int 0))))
    (retT (tupT (consT (opT addR (cT (.int 10)) (opT mulR (cT (.int 10)) (callT sp_law_draw (fun _ _ => False) (consT (varT 0) (consT (cT (.int 6)) nilT))))) (consT (cT (.int 1)) nilT))))
    nextT)
    (seqT (ifS (cmpT (opT eqR (varT 1) (cT (.int 1))))
    (retT (callT sp_law_r (fun _ _ => False) (consT (opT addR (cT (.int 1)) (callT sp_law_draw (fun _ _ => False) (consT (varT 0) (consT (cT (.int 60)) nilT)))) (consT (opT addR (cT (.int 1)) (callT sp_law_draw (fun _ _ => False) (consT (varT 0) (consT (cT (.int 12)) nilT)))) nilT))))
    nextT)
    (retT (callT sp_law_r (fun _ _ => False) (consT (opT addR (cT (.int 1)) (callT sp_law_draw (fun _ _ => False) (consT (varT 0) (consT (cT (.int 1000000)) nilT)))) (consT (opT addR (cT (.int 1)) (callT sp_law_draw (fun _ _ => False) (consT (varT 0) (consT (cT (.int 1000)) nilT)))) nilT))))))
def b_law_told_words_r1 : ATS := (retT (tupT (consT (cT (.str "words")) (consT (varT 1) (consT (callT sp_law_size (fun _ _ => False) (consT (varT 0) (consT (varT 4) nilT))) (consT (varT 6) (consT (cbT tupleR (consT (varT 5) nilT)) nilT)))))))
def b_law_told_words_r2 : ATS := (seqT (asgT (tupT (consT (cT (.int 0)) (consT (cT (.int 1)) nilT))) (gNameT 6))
    (seqT (ifS (cmpT (opT gtR (callT sp_law_draw (fun _ _ => False) (consT (varT 0) (consT (cT (.int 4)) nilT))) (cT (.int 0))))
    (asgT (callT sp_law_size (fun _ _ => False) (consT (varT 0) (consT (varT 4) nilT))) (gNameT 6))
    nextT)
    b_law_told_words_r1))
def b_law_told_words : ATS := (seqT (asgT (opT addR (cT (.int 1)) (callT sp_law_draw (fun _ _ => False) (consT (varT 0) (consT (varT 2) nilT)))) (gNameT 3))
    (seqT (asgT (callT sp_law_draw (fun _ _ => False) (consT (varT 0) (consT (cT (.int 3)) nilT))) (gNameT 4))
    (seqT (asgT (lcT (iRng1T (consT (varT 3) nilT)) (gNameT 7) yesT (callT sp_law_size (fun _ _ => False) (consT (varT 0) (consT (varT 4) nilT))) [7]) (gNameT 5))
    (seqT (ifS (cmpT (opT eqR (callT sp_law_draw (fun _ _ => False) (consT (varT 0) (consT (cT (.int 4)) nilT))) (cT (.int 1))))
    (asgT (lcT (iRng1T (consT (varT 3) nilT)) (gNameT 7) yesT (opT ixR (varT 5) (cT (.int 0))) [7]) (gNameT 5))
    nextT)
    b_law_told_words_r2))))
def b_law_long_l1 : ATS := (asgT (callT sp_law_add (fun _ _ => False) (consT (varT 3) (consT (callT sp_law_add (fun _ _ => False) (consT (opT ixR (varT 0) (cT (.int 3))) (consT (opT ixR (opT ixR (varT 0) (cT (.int 4))) (varT 4)) nilT))) nilT))) (gNameT 3))
def b_law_long : ATS := (seqT (asgT (opT ixR (opT ixR (varT 0) (cT (.int 4))) (varT 1)) (gNameT 3))
    (seqT (forT (iRng2T (consT (opT addR (varT 1) (cT (.int 1))) (consT (opT addR (varT 2) (cT (.int 1))) nilT))) (gNameT 4)
    b_law_long_l1)
    (retT (varT 3))))
def b_law_near : ATS := (seqT (asgT (callT sp_law_draw (fun _ _ => False) (consT (varT 0) (consT (cbT lenR (consT (opT ixR (varT 1) (cT (.int 4))) nilT)) nilT))) (gNameT 2))
    (seqT (asgT (opT addR (varT 2) (callT sp_law_draw (fun _ _ => False) (consT (varT 0) (consT (opT subR (cbT lenR (consT (opT ixR (varT 1) (cT (.int 4))) nilT)) (varT 2)) nilT)))) (gNameT 3))
    (seqT (asgT (callT sp_law_long (fun _ _ => False) (consT (varT 1) (consT (varT 2) (consT (varT 3) nilT)))) (gNameT 4))
    (seqT (asgT (callT sp_law_pick (fun _ _ => False) (consT (varT 0) (consT (lstT (consT (tupT (consT (cT (.int 1)) (consT (cT (.int 7)) nilT))) (consT (tupT (consT (cT (.int 1)) (consT (cT (.int 1000003)) nilT))) (consT (tupT (consT (cT (.int 1)) (consT (opT powR (cT (.int 10)) (cT (.int 30))) nilT))) nilT)))) nilT))) (gNameT 5))
    (seqT (asgT (callT sp_law_draw (fun _ _ => False) (consT (varT 0) (consT (cT (.int 9)) nilT))) (gNameT 6))
    (seqT (ifS (cmpT (opT ltR (varT 6) (cT (.int 4))))
    (retT (varT 4))
    nextT)
    (seqT (ifS (cmpT (opT ltR (varT 6) (cT (.int 6))))
    (retT (callT sp_law_sub (fun _ _ => False) (consT (varT 4) (consT (varT 5) nilT))))
    nextT)
    (seqT (ifS (cmpT (opT eqR (varT 6) (cT (.int 6))))
    (retT (callT sp_law_add (fun _ _ => False) (consT (varT 4) (consT (varT 5) nilT))))
    nextT)
    (seqT (ifS (cmpT (opT eqR (varT 6) (cT (.int 7))))
    (retT (callT sp_law_r (fun _ _ => False) (consT (opT subR (callT sp_law_draw (fun _ _ => False) (consT (varT 0) (consT (cT (.int 3000001)) nilT))) (cT (.int 1000000))) (consT (opT addR (cT (.int 1)) (callT sp_law_draw (fun _ _ => False) (consT (varT 0) (consT (cT (.int 1000)) nilT)))) nilT))))
    nextT)
    (retT (callT sp_law_pick (fun _ _ => False) (consT (varT 0) (consT (lstT (consT (tupT (consT (cT (.int 0)) (consT (cT (.int 1)) nilT))) (consT (tupT (consT (unT negR (cT (.int 1))) (consT (cT (.int 1)) nilT))) (consT (tupT (consT (opT powR (cT (.int 10)) (cT (.int 40))) (consT (cT (.int 7)) nilT))) nilT)))) nilT)))))))))))))
def b_law_whole_l1 : ATS := (asgT (opT mulR (varT 3) (opT fdivR (opT ixR (varT 4) (cT (.int 1))) (callT sp_law_gcd (fun _ _ => False) (consT (varT 3) (consT (opT ixR (varT 4) (cT (.int 1))) nilT))))) (gNameT 3))
def b_law_whole_r1 : ATS := (retT (lcT (iSeqT (varT 2)) (gNameT 4) yesT (opT mulR (opT ixR (varT 4) (cT (.int 0))) (opT fdivR (varT 3) (opT ixR (varT 4) (cT (.int 1))))) [4]))
def b_law_whole : ATS := (seqT (asgT (opT addR (cbT listR (consT (opT ixR (varT 0) (cT (.int 4))) nilT)) (lstT (consT (opT ixR (varT 0) (cT (.int 3))) (consT (varT 1) nilT)))) (gNameT 2))
    (seqT (asgT (cT (.int 1)) (gNameT 3))
    (seqT (forT (iSeqT (varT 2)) (gNameT 4)
    b_law_whole_l1)
    b_law_whole_r1)))
def b_law_broken_l1 : ATS := (ifS (andT (cmpT (opT gtR (cbT lenR (consT (varT 3) nilT)) (cT (.int 0)))) (cmpT (opT leR (opT addR (opT addR (varT 4) (opT ixR (varT 2) (unT negR (cT (.int 2))))) (opT ixR (varT 2) (varT 5))) (opT ixR (varT 2) (unT negR (cT (.int 1)))))))
    (seqT (dropT (mtT isLst appendR (opT ixR (varT 3) (unT negR (cT (.int 1)))) (consT (varT 5) nilT)))
    (asgT (opT addR (opT addR (varT 4) (opT ixR (varT 2) (unT negR (cT (.int 2))))) (opT ixR (varT 2) (varT 5))) (gNameT 4)))
    (seqT (dropT (mtT isLst appendR (varT 3) (consT (lstT (consT (varT 5) nilT)) nilT)))
    (asgT (opT ixR (varT 2) (varT 5)) (gNameT 4))))
def b_law_broken_r1 : ATS := (retT (cbT tupleR (consT (lcT (iSeqT (varT 3)) (gNameT 6) yesT (cbT tupleR (consT (varT 6) nilT)) [6]) nilT)))
def b_law_broken : ATS := (seqT (asgT (callT sp_law_whole (fun _ _ => False) (consT (varT 0) (consT (varT 1) nilT))) (gNameT 2))
    (seqT (asgT (lstT nilT) (gNameT 3))
    (seqT (asgT (cT (.int 0)) (gNameT 4))
    (seqT (forT (iRng1T (consT (cbT lenR (consT (opT ixR (varT 0) (cT (.int 4))) nilT)) nilT)) (gNameT 5)
    b_law_broken_l1)
    b_law_broken_r1))))
end AL

/-! PW: told words, lines at widths: pure proofs. -/
namespace AL
open PySem
local macro_rules | `(tactic| get_elem_tactic_trivial) => `(tactic| simp -implicitDefEqProofs only [e_tru_non, e_tru_bl, e_tru_int, e_tru_tup, e_tru_rol, e_bl_bl, e_add_int, e_add_ib, e_add_str, e_add_tup, e_sub_int, e_mul_int, e_fdiv_int, e_mod_int, e_pow_int, e_shl_int, e_neg_int, e_iadd_int, e_iadd_str, e_isub_int, e_aeq_int, e_aeq_str, e_aeq_bl, e_aeq_non, e_aeq_tup, e_aeqs_nil, e_aeqs_cons, e_aeqs_nc, e_aeqs_cn, e_plain_int, e_plain_bl, e_plain_non, e_plain_str, e_plain_tup, e_eq, e_ne, e_lt_int, e_lt_str, e_le_int, e_gt_int, e_ge_int, e_isN, e_notN, e_isNon_int, e_isNon_str, e_isNon_tup, e_isNon_non, e_isNon_ref, e_isNon_bl, e_ix0, e_ix1, e_ix2, e_ix3, e_ix4, e_len_tup, e_len_rol, e_len_str, e_abs, e_int_int, e_int_bl, e_str_int, e_gcd, e_tuple_tup, e_list_tup, e_inst_ii, e_inst_ib, e_inst_tt, e_inst_it, e_inst_ti, e_inst_tb, e_inst_bb, e_inst_bi, e_inst_bt, e_inst_ss, e_inst_st, e_inst_si, e_inst_nt, e_gTup, e_gCons, e_gNil, e_gNms0, e_gNms1, e_gName, atA_0, atA_1, atA_2, atA_3, atA_4, get_l0, get_l1, get_l2, get_l3, set_l0, set_l1, set_l2, app_l, len_l0, len_l1, len_l2, x_c, x_var, x_op, x_un, x_nil, x_cons, x_tup, x_lst, x_call, x_cb, x_mt, x_tru, x_cmp, x_and, x_or, x_not, x_andV, x_orV, x_notV, x_if, x_chain, x_next, x_seq, x_brk, x_cont, x_drop, x_ret, x_retN, x_ifS, x_asg, x_gSub, x_par, x_aug, x_augS, x_rt, x_nx, x_yes, gv, sv, wipeA, lenLe, true_and, and_true, if_true, if_false, ite_true, ite_false, beq_iff_eq, decide_eq_true_eq, Bool.false_eq_true, Bool.true_eq_false, not_false_eq_true, Bool.not_eq_true', decide_eq_false_iff_not, Bool.not_true, Bool.not_false, List.isEmpty_cons, List.isEmpty_nil, List.cons_append, List.nil_append, List.length_cons, List.length_nil])
theorem pos_divInt {a b : Int} (ha : 0 < a) (hb : 0 < b) : 0 < Rat.divInt a b := by
  rw [Rat.divInt_eq_div]
  rw [Rat.div_def]
  exact Rat.mul_pos (Rat.intCast_pos.mpr ha) (Rat.inv_pos.mpr (Rat.intCast_pos.mpr hb))
theorem pure_law_size (x y : AV) (h : AH) (R : AK) (c1 : clH h) (c2 : clBs h.length [x, y] = true) (q : sp_law_size [x, y] h R (fun _ _ => False)) : b_law_size (ends (retG h R)) [some x, some y] h := by
  obtain ⟨n, way, rfl, rfl, hd, q⟩ := q
  have small : ∀ (r : Int) (m : Int), 0 ≤ r → r < m → m ≤ 8388608 → isz (1 + r) ≤ 24 := fun r m h0 h1 h2 => isz_of (by decide) (by omega) (by omega)
  unfold b_law_size
  get_elem_tactic_trivial
  by_cases hw : way = 0
  · rw [if_pos hw]
    refine ⟨n, 6, rfl, rfl, by decide, by decide, hd, fun r h1 r0 r1 d1 => ?_⟩
    get_elem_tactic_trivial
    exact ⟨.inl (.inl ⟨by decide, by decide⟩), retG_of (q ((10 + 10 * r : Int) : Rat) _ (by rw [sz_int]; exact isz_of (by decide) (by omega) (by omega)) (Rat.intCast_pos.mpr (by omega)) d1)⟩
  · rw [if_neg hw]
    by_cases hw : way = 1
    · rw [if_pos hw]
      refine ⟨n, 60, rfl, rfl, by decide, by decide, hd, fun r h1 r0 r1 d1 => ?_⟩
      refine ⟨n, 12, rfl, rfl, by decide, by decide, d1.at, fun r' h2 r0' r1' d2 => ?_⟩
      have s1 := small r 60 r0 r1 (by decide)
      have s2 := small r' 12 r0' r1' (by decide)
      refine ⟨_, _, rfl, rfl, by omega, by omega, by omega, ?_⟩
      exact retG_of (q _ _ (sz_small (by omega) s1 s2) (pos_divInt (by omega) (by omega)) (d1.trans d2))
    · rw [if_neg hw]
      refine ⟨n, 1000000, rfl, rfl, by decide, by decide, hd, fun r h1 r0 r1 d1 => ?_⟩
      refine ⟨n, 1000, rfl, rfl, by decide, by decide, d1.at, fun r' h2 r0' r1' d2 => ?_⟩
      have s1 := small r 1000000 r0 r1 (by decide)
      have s2 := small r' 1000 r0' r1' (by decide)
      refine ⟨_, _, rfl, rfl, by omega, by omega, by omega, ?_⟩
      exact retG_of (q _ _ (sz_small (by omega) s1 s2) (pos_divInt (by omega) (by omega)) (d1.trans d2))
theorem clB_words {n : Nat} {s : Str} {line gap : Rat} {ws : List Rat} : clB n (wordsV (.str s) line gap ws) = true := by
  show (clB n (rat line) && (clB n (rat gap) && (clBs n (ws.map rat) && true))) = true
  rw [clBs_rats]
  rfl
structure WsOk (ws : List Rat) : Prop where
  ne : 1 ≤ ws.length
  le : ws.length ≤ 12
  wi : ∀ q ∈ ws, sz q ≤ 24
  pw : ∀ q ∈ ws, 0 < q
theorem told_r1 {n p : Nat} {s : Str} {way : Int} {h h' : AH} {R : AK} {x2 x3 x7 : Option AV} {gap : Rat} {ws : List Rat} (c1 : clH h) (g : Grown h n h') (hp : h.length ≤ p) (e : h'[p]? = some (.lst (ws.map rat))) (hw : WsOk ws) (hg : sz gap ≤ 24) (hg0 : 0 ≤ gap)
    (q : ∀ line gap ws h', WordsOk line gap ws → Drawn h n h' → R (wordsV (.str s) line gap ws) h') : b_law_told_words_r1 (ends (retG h R)) [some (.ref n), some (.str s), x2, x3, some (.int way), some (.ref p), some (rat gap), x7] h' := by
  have hn := g.lt
  unfold b_law_told_words_r1
  get_elem_tactic_trivial
  refine ⟨n, way, rfl, rfl, g.at, fun line h2 hl _ d2 => ?_⟩
  dsimp only
  rw [e_tuple_lst (by rw [d2.get (by omega)]; exact e)]
  exact ret_grown c1 (g.draw d2) clB_words fun h3 d3 => q line gap ws h3 ⟨hw.ne, hw.le, hl, hg, hw.wi, hg0, hw.pw⟩ d3
theorem told_r2 {n p : Nat} {s : Str} {way : Int} {h h' : AH} {R : AK} {x2 x3 x6 x7 : Option AV} {ws : List Rat} (c1 : clH h) (g : Grown h n h') (hp : h.length ≤ p) (e : h'[p]? = some (.lst (ws.map rat))) (hw : WsOk ws)
    (q : ∀ line gap ws h', WordsOk line gap ws → Drawn h n h' → R (wordsV (.str s) line gap ws) h') : b_law_told_words_r2 (ends (retG h R)) [some (.ref n), some (.str s), x2, x3, some (.int way), some (.ref p), x6, x7] h' := by
  have hn := g.lt
  unfold b_law_told_words_r2
  get_elem_tactic_trivial
  refine ⟨n, 4, rfl, rfl, by decide, by decide, g.at, fun r h2 r0 r1 d2 => ?_⟩
  get_elem_tactic_trivial
  have g2 := g.draw d2
  have e2 : h2[p]? = some (.lst (ws.map rat)) := by rw [d2.get (by omega)]; exact e
  by_cases hr : 0 < r
  · rw [if_pos hr]
    refine ⟨n, way, rfl, rfl, g2.at, fun gap h3 hg hg0 d3 => ?_⟩
    exact told_r1 c1 (g2.draw d3) hp (by rw [d3.get (by omega)]; exact e2) hw hg (Rat.le_of_lt hg0) q
  · rw [if_neg hr]
    exact told_r1 (gap := 0) c1 g2 hp e2 hw (by decide) (Rat.le_refl) q
theorem pure_law_told_words (x y z : AV) (h : AH) (R : AK) (c1 : clH h) (c2 : clBs h.length [x, y, z] = true) (q : sp_law_told_words [x, y, z] h R (fun _ _ => False)) :
    b_law_told_words (ends (retG h R)) [some x, some y, some z, none, none, none, none, none] h := by
  obtain ⟨n, s, most, rfl, rfl, rfl, hm1, hm2, hd, q⟩ := q
  unfold b_law_told_words
  get_elem_tactic_trivial
  refine ⟨n, most, rfl, rfl, by omega, Nat.le_trans (isz_of (n := 4) (by decide) (by omega) (by omega)) (by decide), hd, fun m h1 m0 m1 d1 => ?_⟩
  get_elem_tactic_trivial
  refine ⟨n, 3, rfl, rfl, by decide, by decide, d1.at, fun way h2 w0 w1 d2 => ?_⟩
  obtain ⟨k, rfl⟩ := Int.eq_ofNat_of_zero_le m0
  have hz : (1 + (k : Int)).toNat = k + 1 := by omega
  have d12 := d1.trans d2
  refine lcT_draw (h1 := h2) (n := n) (items := zrange 0 (k + 1)) (guard := fun _ => True) (fun ys => ∃ ws : List Rat, ys = ws.map rat ∧ ∀ q ∈ ws, sz q ≤ 24 ∧ 0 < q) d2.at (fun K kk => ⟨by omega, by omega, by rw [hz]; exact kk⟩) (by rw [zr_len]; omega) (fun _ _ => trivial) ⟨[], rfl, by simp⟩ (fun i x acc h3 Q hx hi ⟨ws, e, hw⟩ d3 hq => ?_) (fun ys h3 ⟨ws, e, hw⟩ hl d3 => ?_)
  · get_elem_tactic_trivial
    refine ⟨n, way, rfl, rfl, d3.at.app _, fun w h4 hw4 hw5 d4 => ?_⟩
    obtain ⟨h5, rfl, d5⟩ := d4.cut d3.at.lt
    refine hq _ _ ⟨ws ++ [w], by simp [e], fun q hq => ?_⟩ d5
    rcases List.mem_append.mp hq with hq | hq
    · exact hw q hq
    · rw [List.mem_singleton.mp hq]
      exact ⟨hw4, hw5⟩
  · subst e
    rw [List.length_map, zr_len] at hl
    have ok : WsOk ws := ⟨by omega, by omega, fun q hq => (hw q hq).1, fun q hq => (hw q hq).2⟩
    have hlen : h3.length = h2.length := d3.1
    have hn : n < h2.length := d2.at.lt
    refine ⟨n, 4, rfl, rfl, by decide, by decide, d3.at.app _, fun r h4 r0 r1 d4 => ?_⟩
    get_elem_tactic_trivial
    obtain ⟨h5, rfl, d5⟩ := d4.cut (by omega)
    have d15 := (d12.trans d3).trans d5
    have hl5 : h5.length = h2.length := d5.1.trans hlen
    have e5 : ∀ r, (h5 ++ AO.lst (ws.map rat) :: r)[h2.length]? = some (.lst (ws.map rat)) := fun r => by
      rw [← hl5]
      exact get_l0
    by_cases hr : r = 1
    · rw [if_pos hr]
      obtain ⟨w, ws', rfl⟩ : ∃ w ws', ws = w :: ws' := by
        cases ws with
        | nil => simp at hl
        | cons w ws' => exact ⟨w, ws', rfl⟩
      refine lcT_map (h1 := h5 ++ [AO.lst ((w :: ws').map rat)]) (items := zrange 0 (k + 1)) (ys := (List.replicate (k + 1) w).map rat) (guard := fun _ => True) (fun K kk => ⟨by omega, by omega, by rw [hz]; exact kk⟩) (by rw [zr_len]; simp) (by rw [zr_len]; omega) (fun _ => trivial) (fun i x y acc Q hx hy hq => ?_) ?_
      · get_elem_tactic_trivial
        rw [e_ix_lst (e5 _) (v := rat w) rfl]
        obtain ⟨z, hz1, rfl⟩ := map_get hy
        rw [List.getElem?_replicate] at hz1
        split at hz1
        · cases hz1
          simpa using hq
        · cases hz1
      · get_elem_tactic_trivial
        refine told_r2 (ws := List.replicate (k + 1) w) c1 ((Grown.refl hd).draw d15 |>.app _) ?_ get_l1 ⟨by simp, by simp; omega, fun q hq => ?_, fun q hq => ?_⟩ q
        · rw [hl5, d12.1]
          omega
        · rw [List.eq_of_mem_replicate hq]
          exact ok.wi w (by simp)
        · rw [List.eq_of_mem_replicate hq]
          exact ok.pw w (by simp)
    · rw [if_neg hr]
      exact told_r2 c1 ((Grown.refl hd).draw d15 |>.app _) (by rw [d12.1]; omega) (e5 []) ok q
theorem pure_law_long (x y z : AV) (h : AH) (R : AK) (c1 : clH h) (c2 : clBs h.length [x, y, z] = true) (q : sp_law_long [x, y, z] h R (fun _ _ => False)) :
    b_law_long (ends (retG h R)) [some x, some y, some z, none, none] h := by
  obtain ⟨nm, line, gap, ws, rfl, ok, first, last, rfl, rfl, hfl, hl, q⟩ := q
  have at_ : ∀ i : Nat, i < ws.length → ∃ w, sz w ≤ 24 ∧ atA (ws.map rat) (i : Int) = some (rat w) := fun i hi => ⟨ws[i], ok.wi _ (List.getElem_mem hi), atA_map (List.getElem?_eq_getElem hi)⟩
  have hle := ok.le
  have hga := ok.ga
  obtain ⟨w, hw, hw2⟩ := at_ first (by omega)
  unfold b_law_long wordsV
  get_elem_tactic_trivial
  rw [e_ix_tup hw2, x_for]
  refine ⟨⟨by omega, by omega, by omega, by omega⟩, ?_⟩
  refine ⟨fun i σ h' => h' = h ∧ ∃ (t : Rat) (k : Option AV), σ = [some (wordsV nm line gap ws), some (.int first), some (.int last), some (rat t), k] ∧ sz t ≤ 24 + 50 * i, ⟨rfl, w, _, rfl, by omega⟩, fun i z σ h' hz ⟨eh, t, k, es, ht⟩ => ?_, fun σ h' ⟨eh, t, k, es, ht⟩ => ?_⟩
  · subst eh es
    obtain ⟨hi, rfl⟩ := zr_get hz
    refine ⟨trivial, ?_⟩
    obtain ⟨v, hv, hv2⟩ := at_ (first + 1 + i) (by omega)
    have e : ((first : Int) + 1 + (i : Int)) = ((first + 1 + i : Nat) : Int) := by omega
    unfold b_law_long_l1 wordsV
    get_elem_tactic_trivial
    rw [e, e_ix_tup hv2]
    have s1 := sz_add gap v
    have s2 := sz_add t (gap + v)
    refine ⟨gap, v, rfl, rfl, by omega, t, gap + v, rfl, rfl, by omega, rfl, _, _, rfl, by omega⟩
  · subst eh es
    rw [zr_len] at ht
    get_elem_tactic_trivial
    exact retG_of (q _ (by omega))
theorem pure_law_near (x y : AV) (h : AH) (R : AK) (c1 : clH h) (c2 : clBs h.length [x, y] = true) (q : sp_law_near [x, y] h R (fun _ _ => False)) :
    b_law_near (ends (retG h R)) [some x, some y, none, none, none, none, none] h := by
  obtain ⟨n, rfl, hd, nm, line, gap, ws, rfl, ok, q⟩ := q
  have hle := ok.le
  have hne := ok.ne
  unfold b_law_near wordsV
  get_elem_tactic_trivial
  have l64 : ∀ i : Int, 0 ≤ i → i < 2 ^ 64 → isz i ≤ 9000 := fun i h0 h1 => Nat.le_trans (isz_of (n := 64) (by decide) h0 h1) (by decide)
  refine ⟨n, _, rfl, rfl, by rw [List.length_map]; omega, l64 _ (by rw [List.length_map]; omega) (by rw [List.length_map]; omega), hd, fun f h1 f0 f1 d1 => ?_⟩
  get_elem_tactic_trivial
  rw [List.length_map] at f1 ⊢
  refine ⟨n, _, rfl, rfl, by omega, l64 _ (by omega) (by omega), d1.at, fun s h2 s0 s1 d2 => ?_⟩
  get_elem_tactic_trivial
  obtain ⟨f, rfl⟩ := Int.eq_ofNat_of_zero_le f0
  obtain ⟨s, rfl⟩ := Int.eq_ofNat_of_zero_le s0
  refine ⟨nm, line, gap, ws, rfl, ok, f, f + s, rfl, by rw [Int.natCast_add], by omega, by omega, fun t ht => ?_⟩
  get_elem_tactic_trivial
  refine ⟨by decide, ?_⟩
  refine pick3 (a := 1 / 7) (b := 1 / 1000003) (c := 1 / 10 ^ 30) (rat_lit (by decide +kernel) (by decide +kernel)) (rat_lit (by decide +kernel) (by decide +kernel)) (rat_lit (by decide +kernel) (by decide +kernel)) (d1.trans d2).at (fun v h3 hv d3 => ?_) _
  have d13 := (d1.trans d2).trans d3
  have hv : sz v ≤ 110 := by
    rcases hv with rfl | rfl | rfl <;> decide +kernel
  have gr := (Grown.refl hd).draw d13 |>.app [AO.lst [rat (1 / 7), rat (1 / 1000003), rat (1 / 10 ^ 30)]]
  refine ⟨n, 9, rfl, rfl, by decide, by decide, gr.at, fun w h4 w0 w1 d4 => ?_⟩
  get_elem_tactic_trivial
  have g4 := gr.draw d4
  have done : ∀ v, sz v ≤ 1000 → retG h R (rat v) h4 := fun v hv => ret_grown c1 g4 rfl fun h5 d5 => q v h5 hv d5
  have s1 := sz_sub t v
  have s2 := sz_add t v
  by_cases hw : w < 4
  · rw [if_pos hw]
    exact done t (by omega)
  rw [if_neg hw]
  by_cases hw : w < 6
  · rw [if_pos hw]
    exact ⟨t, v, rfl, rfl, by omega, done _ (by omega)⟩
  rw [if_neg hw]
  by_cases hw : w = 6
  · rw [if_pos hw]
    exact ⟨t, v, rfl, rfl, by omega, done _ (by omega)⟩
  rw [if_neg hw]
  by_cases hw : w = 7
  · rw [if_pos hw]
    refine ⟨n, 3000001, rfl, rfl, by decide, by decide, g4.at, fun a h5 a0 a1 d5 => ?_⟩
    get_elem_tactic_trivial
    refine ⟨n, 1000, rfl, rfl, by decide, by decide, d5.at, fun b h6 b0 b1 d6 => ?_⟩
    get_elem_tactic_trivial
    have z1 : isz (a - 1000000) ≤ 24 := isz_le (by decide) (by omega)
    have z2 : isz (1 + b) ≤ 24 := isz_le (by decide) (by omega)
    refine ⟨_, _, rfl, rfl, by omega, by omega, by omega, ?_⟩
    exact ret_grown c1 ((g4.draw d5).draw d6) rfl fun h7 d7 => q _ h7 (Nat.le_trans (sz_small (by omega) z1 z2) (by decide)) d7
  rw [if_neg hw]
  refine ⟨by decide, ?_⟩
  refine pick3 (a := 0) (b := -1) (c := 10 ^ 40 / 7) (rat_lit (by decide +kernel) (by decide +kernel)) (rat_lit (by decide +kernel) (by decide +kernel)) (rat_lit (by decide +kernel) (by decide +kernel)) g4.at (fun v h5 hv d5 => ?_) _
  have hv : sz v ≤ 1000 := by
    rcases hv with rfl | rfl | rfl <;> decide +kernel
  exact ret_grown c1 ((g4.draw d5).app _) rfl fun h7 d7 => q _ h7 hv d7
/-! ### one common part for all -/
/-- parts that a number is a multiple of -/
def Multi (B : Int) (qs : List Rat) : Prop := 0 < B ∧ ∀ q ∈ qs, ((q.den : Int)) ∣ B
theorem lcm_step {B : Int} {q : Rat} (hB : 0 < B) : 0 < B * ((q.den : Int) / ((B.natAbs.gcd ((q.den : Int)).natAbs : Nat) : Int)) ∧ ((q.den : Int)) ∣ B * ((q.den : Int) / ((B.natAbs.gcd ((q.den : Int)).natAbs : Nat) : Int)) ∧
    B ∣ B * ((q.den : Int) / ((B.natAbs.gcd ((q.den : Int)).natAbs : Nat) : Int)) ∧ 0 < ((B.natAbs.gcd ((q.den : Int)).natAbs : Nat) : Int) := by
  have hd := den_pos q
  have g1 : ((B.natAbs.gcd ((q.den : Int)).natAbs : Nat) : Int) ∣ B := Int.ofNat_dvd_left.mpr (Nat.gcd_dvd_left _ _)
  have g2 : ((B.natAbs.gcd ((q.den : Int)).natAbs : Nat) : Int) ∣ (q.den : Int) := Int.ofNat_dvd_left.mpr (Nat.gcd_dvd_right _ _)
  have g0 : 0 < ((B.natAbs.gcd ((q.den : Int)).natAbs : Nat) : Int) := by
    have : 0 < B.natAbs.gcd ((q.den : Int)).natAbs := Nat.gcd_pos_of_pos_left _ (by omega)
    omega
  generalize ((B.natAbs.gcd ((q.den : Int)).natAbs : Nat) : Int) = g at g0 g1 g2 ⊢
  obtain ⟨b, rfl⟩ := g1
  obtain ⟨d, e⟩ := g2
  rw [e, Int.mul_ediv_cancel_left _ (by omega)]
  have hd0 : 0 < d := by
    rw [e] at hd
    exact Int.pos_of_mul_pos_right hd g0
  exact ⟨Int.mul_pos hB hd0, ⟨b, by rw [Int.mul_assoc, Int.mul_assoc, Int.mul_comm b d]⟩, ⟨d, rfl⟩, g0⟩
theorem pure_law_whole (x y : AV) (h : AH) (R : AK) (c1 : clH h) (c2 : clBs h.length [x, y] = true) (q : sp_law_whole [x, y] h R (fun _ _ => False)) :
    b_law_whole (ends (retG h R)) [some x, some y, none, none, none] h := by
  obtain ⟨nm, line, gap, ws, width, rfl, rfl, ok, hw, q⟩ := q
  have hle := ok.le
  obtain ⟨qs, hqs⟩ : ∃ qs, qs = ws ++ [gap, width] := ⟨_, rfl⟩
  have hl : qs.length = ws.length + 2 := by simp [hqs]
  have hq : ∀ q ∈ qs, sz q ≤ 1000 := by
    intro q hq
    rw [hqs] at hq
    rcases List.mem_append.mp hq with hq | hq
    · exact Nat.le_trans (ok.wi q hq) (by decide)
    · simp at hq
      rcases hq with rfl | rfl
      · exact Nat.le_trans ok.ga (by decide)
      · exact hw
  unfold b_law_whole wordsV
  get_elem_tactic_trivial
  rw [e_add_lst get_l0 get_l1]
  refine ⟨by simp; omega, ?_⟩
  get_elem_tactic_trivial
  have em : ws.map rat ++ [rat gap, rat width] = qs.map rat := by simp [hqs]
  rw [em]
  obtain ⟨H, hH⟩ : ∃ H, H = h ++ [AO.lst (ws.map rat), .lst [rat gap, rat width], .lst (qs.map rat)] := ⟨_, rfl⟩
  have hg : H[h.length + 2]? = some (.lst (qs.map rat)) := by
    rw [hH]
    exact get_l2
  rw [← hH, x_for, x_iseq (n := h.length + 2) (fun _ => rfl) hg]
  refine ⟨fun i σ h' => h' = H ∧ ∃ (B : Int) (k : Option AV), σ = [some (wordsV nm line gap ws), some (rat width), some (.ref (h.length + 2)), some (.int B), k] ∧ Multi B (qs.take i) ∧ isz B ≤ 1 + 1000 * i ∧ B = lcmB (qs.take i), ⟨rfl, 1, _, rfl, ⟨by decide, by simp⟩, by decide, rfl⟩, fun i z σ h' hz ⟨eh, B, k, es, hm, hs, hlb⟩ => ?_, fun σ h' ⟨eh, B, k, es, hm, hs, hlb⟩ => ?_⟩
  · subst eh es
    refine ⟨hg, ?_⟩
    obtain ⟨p, hp, rfl⟩ := map_get hz
    have hi : i < qs.length := (List.getElem?_eq_some_iff.mp hp).1
    have hpm := hq p (get_mem hp)
    have pd := sz_den p
    obtain ⟨l1, l2, l3, l4⟩ := lcm_step (q := p) hm.1
    have gb := gcd_bound (n := B) (d := (p.den : Int)) (by have := den_pos p; omega) (by omega)
    have s1 := isz_div (p.den : Int) (B.natAbs.gcd ((p.den : Int)).natAbs)
    have s2 := isz_mul B ((p.den : Int) / ((B.natAbs.gcd ((p.den : Int)).natAbs : Nat) : Int))
    unfold b_law_whole_l1 rat
    get_elem_tactic_trivial
    refine ⟨B, (p.den : Int), rfl, rfl, by omega, by omega, gb, mulOk_of (n := 20000) (by omega) (by decide), rfl, _, _, rfl, ⟨l1, fun q' hq' => ?_⟩, by omega, by rw [List.take_add_one, hp, hlb]; unfold lcmB; rw [List.foldl_append]; rfl⟩
    rw [List.take_add_one, hp] at hq'
    rcases List.mem_append.mp hq' with hq' | hq'
    · exact Int.dvd_trans (hm.2 q' hq') l3
    · have : q' = p := by simpa using hq'
      rw [this]
      exact l2
  · subst eh es
    refine ⟨hg, ?_⟩
    rw [List.length_map, List.take_length] at hm hlb
    rw [List.length_map] at hs
    unfold b_law_whole_r1
    get_elem_tactic_trivial
    have hg2 : ∀ r, (h' ++ r)[h.length + 2]? = some (.lst (qs.map rat)) := fun r => get_old hg
    refine lcT_map (h1 := h') (items := qs.map rat) (ys := (qs.map fun q => q.num * (B / (q.den : Int))).map AV.int) (guard := fun h1 => h1[h.length + 2]? = some (.lst (qs.map rat))) (fun K k => ?_) (by simp) (by simp; omega) (fun _ => hg2 _) (fun i x y acc Q hx hy hQ => ?_) ?_
    · rw [x_iseq (n := h.length + 2) (fun _ => rfl) hg]
      exact k
    · obtain ⟨p, hp, rfl⟩ := map_get hx
      obtain ⟨z, hz, rfl⟩ := map_get hy
      obtain ⟨p', hp', rfl⟩ := map_get hz
      rw [hp] at hp'
      cases hp'
      have hpm := hq p (get_mem hp)
      have pd := sz_den p
      have pn := sz_num p
      have s1 := isz_div B p.den
      unfold rat
      get_elem_tactic_trivial
      exact ⟨divOk_of (den_pos p) (by omega), mulOk_of (n := 20000) (by omega) (by decide), hQ⟩
    · rw [hH, List.append_assoc]
      refine ret_list (j2 := []) (j1 := [AO.lst (ws.map rat), .lst [rat gap, rat width], .lst (qs.map rat)]) c1 (by simp) (clBs_ints _) (q B _ hm.1 (by rw [List.length_map, hl]) (fun i p hp => ?_) (by rw [← hqs]; exact hlb))
      rw [← hqs] at hp
      exact ⟨_, by rw [List.getElem?_map, hp]; rfl, whole_val (hm.2 p (get_mem hp))⟩
/-! ### lines -/
theorem clBs_rows {n : Nat} : ∀ rs : List (List Nat), clBs n (rs.map rowV) = true
  | [] => rfl
  | r :: rs => by
    have : ∀ r : List Nat, clBs n (intsV r) = true := fun r => by
      induction r with
      | nil => rfl
      | cons x r ih => exact ih
    show (clBs n (intsV r) && clBs n (rs.map rowV)) = true
    rw [this, clBs_rows rs]
    rfl
theorem clB_rows {n : Nat} {rs : List (List Nat)} : clB n (rowsV rs) = true := clBs_rows rs
theorem brk_next {width gap : Rat} {ws : List Rat} {i : Nat} {w : Rat} {ls : List (List Nat)} {p : List Nat} {t : Rat} (hw : ws[i]? = some w) (e : brk width gap ws i = (ls, p, t)) :
    brk width gap ws (i + 1) = if p = [] then (ls, [i], w) else if t + (gap + w) ≤ width then (ls, p ++ [i], t + (gap + w)) else (ls ++ [p], [i], w) := by
  have e2 : ws.getD i 0 = w := by
    rw [List.getD_eq_getElem?_getD, hw]
    rfl
  simp only [brk, e, e2]
theorem brk_len {width gap : Rat} {ws : List Rat} : ∀ i, (brk width gap ws i).1.length ≤ i
  | 0 => Nat.le_refl _
  | i + 1 => by
    have := brk_len (width := width) (gap := gap) (ws := ws) i
    simp only [brk]
    split
    · show (brk width gap ws i).1.length ≤ _
      omega
    · split
      · show (brk width gap ws i).1.length ≤ _
        omega
      · rw [List.length_append]
        show _ + 1 ≤ _
        omega
theorem rows_len {width gap : Rat} {ws : List Rat} : (rows width gap ws).length ≤ ws.length + 1 := by
  have := brk_len (width := width) (gap := gap) (ws := ws) ws.length
  unfold rows
  rw [List.length_append]
  show _ + 1 ≤ _
  omega
theorem pure_line_rows (x y : AV) (h : AH) (R : AK) (c1 : clH h) (c2 : clBs h.length [x, y] = true) (q : sp_line_rows [x, y] h R (fun _ _ => False)) :
    b_line_rows (ends (retG h R)) [some x, some y, none, none, none, none, none, none, none, none] h := by
  obtain ⟨nm, line, gap, ws, width, rfl, rfl, ok, hw, q⟩ := q
  have hle := ok.le
  have hne := ok.ne
  have hga := ok.ga
  unfold b_line_rows wordsV
  get_elem_tactic_trivial
  rw [x_for]
  unfold iEnumT
  get_elem_tactic_trivial
  refine ⟨fun i σ h' => ∃ ls p t pr a b c, σ = [some (wordsV nm line gap ws), some (rat width), some (.tup (ws.map rat)), some (rat gap), some (.ref h.length), some (.ref pr), some (rat t), a, b, c] ∧ brk width gap ws i = (ls, p, t) ∧ Ext h h' ∧
      h'[h.length]? = some (.lst (ls.map rowV)) ∧ h'[pr]? = some (.lst (intsV p)) ∧ h.length < pr ∧ sz t ≤ 24 + 50 * i ∧ (0 < i → p ≠ []) ∧ ls.length ≤ i ∧ p.length ≤ i,
    ⟨[], [], 0, h.length + 1, none, none, none, rfl, rfl, Ext.refl.app _, get_l0, get_l1, by omega, by decide, by simp, by simp, by simp⟩, fun i z σ h' hz ⟨ls, p, t, pr, a, b, c, es, hb, ex, g1, g2, hp, ht, hpn, hll, hpl⟩ => ?_, fun σ h' ⟨ls, p, t, pr, a, b, c, es, hb, ex, g1, g2, hp, ht, hpn, hll, hpl⟩ => ?_⟩
  · subst es
    obtain ⟨y, hy, rfl⟩ := en_get _ _ _ hz
    obtain ⟨w, hwi, rfl⟩ := map_get hy
    rw [Nat.zero_add]
    have hi := (List.getElem?_eq_some_iff.mp hwi).1
    have sw := ok.wi w (get_mem hwi)
    have nx := brk_next hwi hb
    have s1 := sz_add gap w
    have s2 := sz_add t (gap + w)
    unfold b_line_rows_l1
    get_elem_tactic_trivial
    rw [e_tru_lst g2]
    by_cases hp0 : p = []
    · subst hp0
      rw [if_pos rfl] at nx
      rw [if_pos (by rfl)]
      exact ⟨ls, [i], w, h'.length, _, _, _, rfl, nx, ex.app _, get_old g1, get_l0, by have := get_lt g1; omega, by omega, by simp, by omega, by simp⟩
    · rw [if_neg hp0] at nx
      rw [if_neg (by cases p with
        | nil => exact absurd rfl hp0
        | cons u v => simp [intsV])]
      refine ⟨gap, w, rfl, rfl, by omega, t, gap + w, rfl, rfl, by omega, _, width, rfl, rfl, by omega, ?_⟩
      get_elem_tactic_trivial
      by_cases hf : t + (gap + w) ≤ width
      · rw [if_pos hf] at nx
        rw [if_pos hf]
        rw [e_isLst g2, e_append g2]
        refine ⟨trivial, by unfold intsV; simp; omega, ?_⟩
        refine ⟨ls, p ++ [i], t + (gap + w), pr, _, _, _, rfl, nx, ex.set (by omega), get_set g1 (by omega), ?_, hp, by omega, by simp, by omega, by simp; omega⟩
        rw [set_at g2]
        simp [intsV]
      · rw [if_neg hf] at nx
        rw [if_neg hf, e_isLst g1, e_tuple_lst g2]
        get_elem_tactic_trivial
        rw [e_append g1]
        refine ⟨by simp; omega, ?_⟩
        refine ⟨ls ++ [p], [i], w, _, _, _, _, rfl, nx, (ex.set (Nat.le_refl _)).app _, ?_, get_l0, ?_, by omega, by simp, by simp; omega, by simp⟩
        · refine get_old ?_
          rw [set_at g1]
          simp [rowV]
        · have := get_lt g1
          rw [List.length_set]
          omega
  · subst es
    rw [en_len, List.length_map] at hb
    unfold b_line_rows_r1
    get_elem_tactic_trivial
    rw [en_len, List.length_map] at hll
    rw [e_isLst g1, e_tuple_lst g2]
    get_elem_tactic_trivial
    rw [e_append g1]
    refine ⟨by simp; omega, ?_⟩
    have g3 : (h'.set h.length (.lst (ls.map rowV ++ [.tup (intsV p)])))[h.length]? = _ := set_at g1
    rw [e_tuple_lst g3]
    refine ret_ext (h0 := h) c1 (ex.set (Nat.le_refl _)) ?_ ?_
    · have := clB_rows (n := h.length) (rs := ls ++ [p])
      simpa [rowsV, rowV] using this
    · have e : rows width gap ws = ls ++ [p] := by
        unfold rows
        rw [hb]
      rw [e] at q
      simpa [rowsV, rowV] using q
theorem pure_tall_at (x y : AV) (h : AH) (R : AK) (c1 : clH h) (c2 : clBs h.length [x, y] = true) (q : sp_tall_at [x, y] h R (fun _ _ => False)) :
    b_tall_at (ends (retG h R)) [some x, some y] h := by
  obtain ⟨nm, line, gap, ws, width, rfl, rfl, ok, hw, q⟩ := q
  unfold b_tall_at wordsV
  get_elem_tactic_trivial
  refine ⟨nm, line, gap, ws, width, rfl, rfl, ok, hw, ?_⟩
  unfold rowsV
  get_elem_tactic_trivial
  have hr : (rows width gap ws).length ≤ 13 := by
    have := rows_len (width := width) (gap := gap) (ws := ws)
    have := ok.le
    omega
  refine ⟨line, (((rows width gap ws).length : Int) : Rat), rfl, ?_, ?_, retG_of q⟩
  · rw [List.length_map]
    rfl
  · have := ok.li
    have := isz_of (i := ((rows width gap ws).length : Int)) (n := 24) (by decide) (by omega) (by omega)
    rw [sz_int]
    omega
/-! ### lines by whole numbers -/
theorem cast_mul_le {a b : Int} {x y : Rat} {B : Int} (hB : 0 < B) (ha : (a : Rat) = x * (B : Rat)) (hb : (b : Rat) = y * (B : Rat)) : a ≤ b ↔ x ≤ y := by
  have hB2 : (0 : Rat) < (B : Rat) := Rat.intCast_pos.mpr hB
  rw [← Rat.intCast_le_intCast, ha, hb]
  exact ⟨fun z => Rat.le_of_mul_le_mul_right z hB2, fun z => Rat.mul_le_mul_of_nonneg_right z (Rat.le_of_lt hB2)⟩
/-- lists by number, the lines that they hold -/
def RowsAt (h : AH) (b : Nat) (rs : List Nat) (ls : List (List Nat)) : Prop := rs.length = ls.length ∧ ∀ (j : Nat) r, rs[j]? = some r → b < r ∧ ∃ l, ls[j]? = some l ∧ h[r]? = some (.lst (intsV l))
theorem RowsAt.lt {h : AH} {b : Nat} {rs : List Nat} {ls : List (List Nat)} (R : RowsAt h b rs ls) {r : Nat} (hr : r ∈ rs) : r < h.length ∧ b < r := by
  obtain ⟨j, hj, e⟩ := List.getElem_of_mem hr
  obtain ⟨h1, l, _, h2⟩ := R.2 j r (by rw [List.getElem?_eq_getElem hj, e])
  exact ⟨get_lt h2, h1⟩
theorem RowsAt.old {h : AH} {b : Nat} {rs : List Nat} {ls : List (List Nat)} (R : RowsAt h b rs ls) (x : AH) : RowsAt (h ++ x) b rs ls :=
  ⟨R.1, fun j r e => by
    obtain ⟨h1, l, h2, h3⟩ := R.2 j r e
    exact ⟨h1, l, h2, get_old h3⟩⟩
theorem RowsAt.set {h : AH} {b p : Nat} {rs : List Nat} {ls : List (List Nat)} (R : RowsAt h b rs ls) (x : AO) (hp : p ∉ rs) : RowsAt (h.set p x) b rs ls :=
  ⟨R.1, fun j r e => by
    obtain ⟨h1, l, h2, h3⟩ := R.2 j r e
    exact ⟨h1, l, h2, get_set h3 fun z => hp (by rw [z]; exact get_mem e)⟩⟩
theorem RowsAt.snoc {h : AH} {b p : Nat} {rs : List Nat} {ls : List (List Nat)} {l : List Nat} (R : RowsAt h b rs ls) (hb : b < p) (e : h[p]? = some (.lst (intsV l))) : RowsAt h b (rs ++ [p]) (ls ++ [l]) := by
  refine ⟨by simp [R.1], fun j r hj => ?_⟩
  by_cases hlt : j < rs.length
  · rw [List.getElem?_append_left hlt] at hj
    obtain ⟨h1, l', h2, h3⟩ := R.2 j r hj
    exact ⟨h1, l', by rw [List.getElem?_append_left (by rw [← R.1]; exact hlt)]; exact h2, h3⟩
  · rw [List.getElem?_append_right (by omega)] at hj
    have hj0 : j - rs.length = 0 := by
      have := (List.getElem?_eq_some_iff.mp hj).1
      simp at this
      omega
    rw [hj0] at hj
    cases hj
    refine ⟨hb, l, ?_, e⟩
    rw [List.getElem?_append_right (by rw [← R.1]; omega), ← R.1, hj0]
    rfl
theorem intsV_snoc (p : List Nat) (i : Nat) : intsV p ++ [.int (i : Int)] = intsV (p ++ [i]) := by simp [intsV]
theorem pure_law_broken (x y : AV) (h : AH) (R : AK) (c1 : clH h) (c2 : clBs h.length [x, y] = true) (q : sp_law_broken [x, y] h R (fun _ _ => False)) :
    b_law_broken (ends (retG h R)) [some x, some y, none, none, none, none, none] h := by
  obtain ⟨nm, line, gap, ws, width, rfl, rfl, ok, hw, q⟩ := q
  have hle := ok.le
  have hne := ok.ne
  unfold b_law_broken
  get_elem_tactic_trivial
  refine ⟨nm, line, gap, ws, width, rfl, rfl, ok, hw, fun B ss hB hsl hss _ => ?_⟩
  unfold wordsV
  get_elem_tactic_trivial
  rw [x_for]
  refine ⟨by rw [List.length_map]; omega, by rw [List.length_map]; omega, ?_⟩
  obtain ⟨b, hb⟩ : ∃ b, b = h.length + 1 := ⟨_, rfl⟩
  have i0 : ∀ (i : Nat) (w : Rat), ws[i]? = some w → ∃ s : Int, atA (ss.map AV.int) (i : Int) = some (.int s) ∧ (s : Rat) = w * (B : Rat) := fun i w hi => by
    obtain ⟨s, h1, h2⟩ := hss i w (by rw [List.getElem?_append_left (List.getElem?_eq_some_iff.mp hi).1]; exact hi)
    exact ⟨s, atA_map h1, h2⟩
  obtain ⟨sg, g1, g2⟩ := hss ws.length gap (by simp)
  obtain ⟨sw, w1, w2⟩ := hss (ws.length + 1) width (by simp)
  have ig : atA (ss.map AV.int) (-2) = some (.int sg) := atA_m2 (by rw [List.length_map]; omega) (by rw [List.length_map, List.getElem?_map, hsl, Nat.add_sub_cancel, g1]; rfl)
  have iw : atA (ss.map AV.int) (-1) = some (.int sw) := atA_m1 (by rw [List.length_map, List.getElem?_map, hsl, show ws.length + 2 - 1 = ws.length + 1 by omega, w1]; rfl)
  refine ⟨fun i σ h' => ∃ ls p t tot k0 k1 rs, σ = [some (wordsV nm line gap ws), some (rat width), some (.ref h.length), some (.ref b), some (.int tot), k0, k1] ∧ brk width gap ws i = (ls, p, t) ∧ Ext h h' ∧
      h'[h.length]? = some (.lst (ss.map AV.int)) ∧ h'[b]? = some (.lst (rs.map AV.ref)) ∧ (tot : Rat) = t * (B : Rat) ∧ rs.length ≤ i ∧ p.length ≤ i ∧
      ((i = 0 ∧ rs = [] ∧ ls = [] ∧ p = []) ∨ (p ≠ [] ∧ ∃ rs0 r, rs = rs0 ++ [r] ∧ RowsAt h' b rs0 ls ∧ b < r ∧ h'[r]? = some (.lst (intsV p)) ∧ r ∉ rs0)),
    ⟨[], [], 0, 0, none, none, [], ?_, rfl, Ext.refl.app _, get_l0, ?_, by simp, by simp, by simp, .inl ⟨rfl, rfl, rfl, rfl⟩⟩, fun i z σ h' hz ⟨ls, p, t, tot, k0, k1, rs, es, hbk, ex, e1, e2, ht, hrl, hpl, hst⟩ => ⟨trivial, ?_⟩, fun σ h' ⟨ls, p, t, tot, k0, k1, rs, es, hbk, ex, e1, e2, ht, hrl, hpl, hst⟩ => ⟨trivial, ?_⟩⟩
  · rw [hb]
    rfl
  · rw [hb]
    exact get_l1
  · subst es
    obtain ⟨hi, rfl⟩ := zr_get hz
    rw [Int.zero_add]
    have hi : i < ws.length := by simpa using hi
    obtain ⟨w, hwi⟩ : ∃ w, ws[i]? = some w := ⟨ws[i], List.getElem?_eq_getElem hi⟩
    obtain ⟨s, is, hs⟩ := i0 i w hwi
    have nx := brk_next hwi hbk
    have e0 : ((tot + sg + s : Int) : Rat) = (t + (gap + w)) * (B : Rat) := by
      rw [Rat.intCast_add, Rat.intCast_add, ht, g2, hs]
      grind
    have le := cast_mul_le hB e0 w2
    have l1 : ∀ x, (h' ++ x)[h.length]? = some (.lst (ss.map AV.int)) := fun x => get_old e1
    have bl := get_lt e2
    unfold b_law_broken_l1
    get_elem_tactic_trivial
    rw [e_len_lst e2]
    get_elem_tactic_trivial
    have fresh : ∀ rs', RowsAt h' b rs' (if p = [] then ls else ls ++ [p]) → rs' = rs → ∃ ls1 p1 t1 tot1 k01 k11 rs1, [some (wordsV nm line gap ws), some (rat width), some (.ref h.length), some (.ref b), some (.int s), some (.int (i : Int)), k1] = [some (wordsV nm line gap ws), some (rat width), some (.ref h.length), some (.ref b), some (.int tot1), k01, k11] ∧ (if p = [] then ls else ls ++ [p], [i], w) = (ls1, p1, t1) ∧ Ext h ((h' ++ [AO.lst [.int (i : Int)]]).set b (.lst (rs.map AV.ref ++ [.ref h'.length]))) ∧
      ((h' ++ [AO.lst [.int (i : Int)]]).set b (.lst (rs.map AV.ref ++ [.ref h'.length])))[h.length]? = some (.lst (ss.map AV.int)) ∧ ((h' ++ [AO.lst [.int (i : Int)]]).set b (.lst (rs.map AV.ref ++ [.ref h'.length])))[b]? = some (.lst (rs1.map AV.ref)) ∧ (tot1 : Rat) = t1 * (B : Rat) ∧ rs1.length ≤ i + 1 ∧ p1.length ≤ i + 1 ∧
      ((i + 1 = 0 ∧ rs1 = [] ∧ ls1 = [] ∧ p1 = []) ∨ (p1 ≠ [] ∧ ∃ rs0 r, rs1 = rs0 ++ [r] ∧ RowsAt ((h' ++ [AO.lst [.int (i : Int)]]).set b (.lst (rs.map AV.ref ++ [.ref h'.length]))) b rs0 ls1 ∧ b < r ∧ ((h' ++ [AO.lst [.int (i : Int)]]).set b (.lst (rs.map AV.ref ++ [.ref h'.length])))[r]? = some (.lst (intsV p1)) ∧ r ∉ rs0)) := by
      intro rs' hr e
      subst e
      refine ⟨_, _, _, s, _, _, rs' ++ [h'.length], rfl, rfl, (ex.app _).set (by omega), get_set (l1 _) (by omega), ?_, hs, by simp; omega, by simp, .inr ⟨by simp, rs', h'.length, rfl, (hr.old _).set _ fun z => ?_, by omega, get_set get_l0 (by omega), fun z => ?_⟩⟩
      · rw [set_at (get_old e2)]
        simp
      · have := hr.lt z
        omega
      · have := hr.lt z
        omega
    rcases hst with ⟨rfl, rfl, rfl, rfl⟩ | ⟨hp0, rs0, r, rfl, hro, hbr, her, hnr⟩
    · rw [if_neg (by simp)]
      rw [e_isLst e2, e_append (get_old e2), e_ix_lst (get_set (l1 _) (by omega)) is]
      rw [if_pos rfl] at nx
      have f := fresh [] (by rw [if_pos rfl]; exact ⟨rfl, by simp⟩) rfl
      rw [if_pos rfl, ← nx] at f
      exact ⟨trivial, by simp, f⟩
    · rw [if_pos (by simp), e_ix_lst e1 ig]
      get_elem_tactic_trivial
      rw [e_ix_lst e1 is]
      get_elem_tactic_trivial
      rw [e_ix_lst e1 iw]
      get_elem_tactic_trivial
      rw [if_neg hp0] at nx
      by_cases hf : t + (gap + w) ≤ width
      · rw [if_pos hf] at nx
        rw [if_pos (le.mpr hf), e_ix_lst e2 (v := .ref r) (atA_m1 (by simp)), e_isLst her, e_append her]
        have g3 : (h'.set r (.lst (intsV p ++ [.int (i : Int)])))[h.length]? = some (.lst (ss.map AV.int)) := get_set e1 (by omega)
        rw [e_ix_lst g3 ig]
        get_elem_tactic_trivial
        rw [e_ix_lst g3 is]
        refine ⟨by unfold intsV; simp; omega, ls, p ++ [i], _, _, _, _, rs0 ++ [r], rfl, nx, ex.set (by omega), g3, get_set e2 (by omega), e0, by omega, by simp; omega, .inr ⟨by simp, rs0, r, rfl, hro.set _ hnr, hbr, ?_, hnr⟩⟩
        rw [set_at her, intsV_snoc]
      · rw [if_neg hf] at nx
        rw [if_neg (fun z => hf (le.mp z)), e_isLst e2, e_append (get_old e2), e_ix_lst (get_set (l1 _) (by omega)) is]
        have f := fresh _ (by rw [if_neg hp0]; exact hro.snoc hbr her) rfl
        rw [if_neg hp0, ← nx] at f
        have : rs0.length + 1 ≤ i := by simpa using hrl
        exact ⟨trivial, by simp; omega, f⟩
  · subst es
    have hlen : (zrange 0 (((ws.map rat).length : Int)).toNat).length = ws.length := by rw [zr_len]; simp
    rw [hlen] at hbk hrl hpl hst
    rcases hst with ⟨h0, _⟩ | ⟨hp0, rs0, r, rfl, hro, hbr, her, hnr⟩
    · omega
    have all := hro.snoc hbr her
    have er : rows width gap ws = ls ++ [p] := by
      unfold rows
      rw [hbk]
    rw [← er] at all
    unfold b_law_broken_r1
    get_elem_tactic_trivial
    refine lcT_map (h1 := h') (items := (rs0 ++ [r]).map AV.ref) (ys := (rows width gap ws).map rowV) (guard := fun h1 => h1[b]? = some (.lst ((rs0 ++ [r]).map AV.ref))) (fun K k => ?_) (by rw [List.length_map, List.length_map]; exact all.1) (by rw [List.length_map]; omega) (fun _ => get_old e2) (fun i x y acc Q hx hy hQ => ?_) ?_
    · rw [x_iseq (n := b) (fun _ => rfl) e2]
      exact k
    · obtain ⟨rr, hr1, rfl⟩ := map_get hx
      obtain ⟨l, hl1, rfl⟩ := map_get hy
      obtain ⟨_, l', hl2, g5⟩ := all.2 i rr hr1
      rw [hl1] at hl2
      cases hl2
      get_elem_tactic_trivial
      rw [e_tuple_lst (get_old g5)]
      exact hQ
    · rw [e_tuple_lst get_l0]
      exact ret_ext c1 (ex.app _) clB_rows q
end AL

/-! SR: the width of words in a row: contracts. -/
namespace AL
open PySem
/-- the width of the words f .. f + n -/
def long (gap : Rat) (ws : List Rat) (f : Nat) : Nat → Rat
  | 0 => ws.getD f 0
  | n + 1 => long gap ws f n + (gap + ws.getD (f + n + 1) 0)
/-- whole numbers at n for words, gap, width -/
def SzAt (h : AH) (n : Nat) (width gap : Rat) (ws : List Rat) : Prop := ∃ (B : Int) (ss : List Int), h[n]? = some (.lst (ss.map AV.int)) ∧ 0 < B ∧ ss.length = ws.length + 2 ∧
  ∀ (i : Nat) q, (ws ++ [gap, width])[i]? = some q → ∃ s, ss[i]? = some s ∧ (s : Rat) = q * (B : Rat)
def sp_run_width : ASp := A3 fun x y z h R _ => ∃ nm line gap ws, x = wordsV nm line gap ws ∧ WordsOk line gap ws ∧ ∃ first last : Nat, y = .int first ∧ z = .int last ∧ first ≤ last ∧ last < ws.length ∧ R (rat (long gap ws first (last - first))) h
def leafOk : AV → Bool
  | .ref _ => false
  | .ty _ => false
  | .rol _ => false
  | _ => true
/-- a value that is asked -/
def BV (h : AH) : AV → Prop
  | .ref k => ∃ xs, h[k]? = some (.lst xs)
  | .tup xs => xs.length ≤ 64 ∧ ∀ x ∈ xs, leafOk x = true
  | .ty _ => False
  | .rol _ => False
  | _ => True
end AL

/-! BR: bodies, printed by gen.py. -/
namespace AL
open PySem
def b_run_width_l1 : ATS := (asgT (callT sp_plus (fun _ _ => False) (consT (varT 3) (consT (callT sp_plus (fun _ _ => False) (consT (opT ixR (varT 0) (cT (.int 3))) (consT (opT ixR (opT ixR (varT 0) (cT (.int 4))) (varT 4)) nilT))) nilT))) (gNameT 3))
def b_run_width : ATS := (seqT (asgT (opT ixR (opT ixR (varT 0) (cT (.int 4))) (varT 1)) (gNameT 3))
    (seqT (forT (iRng2T (consT (opT addR (varT 1) (cT (.int 1))) (consT (opT addR (varT 2) (cT (.int 1))) nilT))) (gNameT 4)
    b_run_width_l1)
    (retT (varT 3))))
end AL

/-! PR: the width of words in a row: pure proofs. -/
namespace AL
open PySem
local macro_rules | `(tactic| get_elem_tactic_trivial) => `(tactic| simp -implicitDefEqProofs only [e_tru_non, e_tru_bl, e_tru_int, e_tru_tup, e_tru_rol, e_bl_bl, e_add_int, e_add_ib, e_add_str, e_add_tup, e_sub_int, e_mul_int, e_fdiv_int, e_mod_int, e_pow_int, e_shl_int, e_neg_int, e_iadd_int, e_iadd_str, e_isub_int, e_aeq_int, e_aeq_str, e_aeq_bl, e_aeq_non, e_aeq_tup, e_aeqs_nil, e_aeqs_cons, e_aeqs_nc, e_aeqs_cn, e_plain_int, e_plain_bl, e_plain_non, e_plain_str, e_plain_tup, e_eq, e_ne, e_lt_int, e_lt_str, e_le_int, e_gt_int, e_ge_int, e_isN, e_notN, e_isNon_int, e_isNon_str, e_isNon_tup, e_isNon_non, e_isNon_ref, e_isNon_bl, e_ix0, e_ix1, e_ix2, e_ix3, e_ix4, e_len_tup, e_len_rol, e_len_str, e_abs, e_int_int, e_int_bl, e_str_int, e_gcd, e_tuple_tup, e_list_tup, e_inst_ii, e_inst_ib, e_inst_tt, e_inst_it, e_inst_ti, e_inst_tb, e_inst_bb, e_inst_bi, e_inst_bt, e_inst_ss, e_inst_st, e_inst_si, e_inst_nt, e_gTup, e_gCons, e_gNil, e_gNms0, e_gNms1, e_gName, atA_0, atA_1, atA_2, atA_3, atA_4, get_l0, get_l1, get_l2, get_l3, set_l0, set_l1, set_l2, app_l, len_l0, len_l1, len_l2, x_c, x_var, x_op, x_un, x_nil, x_cons, x_tup, x_lst, x_call, x_cb, x_mt, x_tru, x_cmp, x_and, x_or, x_not, x_andV, x_orV, x_notV, x_if, x_chain, x_next, x_seq, x_brk, x_cont, x_drop, x_ret, x_retN, x_ifS, x_asg, x_gSub, x_par, x_aug, x_augS, x_rt, x_nx, x_yes, e_max2, e_min2, x_slice, x_oNone, x_oSome, e_sl_tup, e_sl_rol, gv, sv, wipeA, lenLe, true_and, and_true, if_true, if_false, ite_true, ite_false, beq_iff_eq, decide_eq_true_eq, Bool.false_eq_true, Bool.true_eq_false, not_false_eq_true, Bool.not_eq_true', decide_eq_false_iff_not, Bool.not_true, Bool.not_false, List.isEmpty_cons, List.isEmpty_nil, List.cons_append, List.nil_append, List.length_cons, List.length_nil])
section
variable {width gap : Rat} {ws : List Rat}
/-- no width is below 0 -/
structure Pos (gap : Rat) (ws : List Rat) : Prop where
  g : 0 ≤ gap
  w : ∀ i : Nat, 0 ≤ ws.getD i 0
theorem pos_of {line : Rat} (ok : WordsOk line gap ws) : Pos gap ws := ⟨ok.pg, fun i => by
  rw [List.getD_eq_getElem?_getD]
  cases h : ws[i]? with
  | none => exact Rat.le_refl
  | some q => exact Rat.le_of_lt (ok.pw q (List.mem_of_getElem? h))⟩
theorem long_left (f : Nat) : ∀ n, long gap ws f (n + 1) = ws.getD f 0 + (gap + long gap ws (f + 1) n)
  | 0 => rfl
  | n + 1 => by
    have h := long_left f n
    show long gap ws f (n + 1) + (gap + ws.getD (f + (n + 1) + 1) 0) = ws.getD f 0 + (gap + (long gap ws (f + 1) n + (gap + ws.getD (f + 1 + n + 1) 0)))
    rw [h, show f + (n + 1) + 1 = f + 1 + n + 1 by omega]
    grind
theorem long_right1 (P : Pos gap ws) (f n : Nat) : long gap ws f n ≤ long gap ws f (n + 1) := by
  have h1 := P.g
  have h2 := P.w (f + n + 1)
  show _ ≤ long gap ws f n + (gap + ws.getD (f + n + 1) 0)
  grind
theorem long_left1 (P : Pos gap ws) (f n : Nat) : long gap ws (f + 1) n ≤ long gap ws f (n + 1) := by
  have h1 := P.g
  have h2 := P.w f
  rw [long_left]
  grind
theorem long_right (P : Pos gap ws) (f : Nat) {n m : Nat} (h : n ≤ m) : long gap ws f n ≤ long gap ws f m := by
  induction m with
  | zero =>
    obtain rfl : n = 0 := by omega
    exact Rat.le_refl
  | succ m ih =>
    by_cases e : n = m + 1
    · subst e
      exact Rat.le_refl
    · exact Rat.le_trans (ih (by omega)) (long_right1 P f m)
theorem long_left' (P : Pos gap ws) (f : Nat) : ∀ k n, long gap ws (f + k) n ≤ long gap ws f (n + k)
  | 0, _ => Rat.le_refl
  | k + 1, n => by
    have h1 := long_left1 P (f + k) n
    have h2 := long_left' P f k (n + 1)
    rw [show n + 1 + k = n + (k + 1) by omega] at h2
    exact Rat.le_trans h1 h2
/-- the words f .. l hold the words a .. b -/
theorem long_sub (P : Pos gap ws) {f a b l : Nat} (h1 : f ≤ a) (h2 : a ≤ b) (h3 : b ≤ l) : long gap ws a (b - a) ≤ long gap ws f (l - f) := by
  have e1 := long_left' P f (a - f) (b - a)
  rw [show f + (a - f) = a by omega, show b - a + (a - f) = b - f by omega] at e1
  exact Rat.le_trans e1 (long_right P f (by omega))
theorem sz_long (h : ∀ q ∈ ws, sz q ≤ 24) (hg : sz gap ≤ 24) (f : Nat) : ∀ n, sz (long gap ws f n) ≤ 24 + 50 * n
  | 0 => by
    show sz (ws.getD f 0) ≤ _
    rw [List.getD_eq_getElem?_getD]
    cases e : ws[f]? with
    | none => decide
    | some q => exact h q (List.mem_of_getElem? e)
  | n + 1 => by
    have h1 := sz_long h hg f n
    have h2 : sz (ws.getD (f + n + 1) 0) ≤ 24 := by
      rw [List.getD_eq_getElem?_getD]
      cases e : ws[f + n + 1]? with
      | none => decide
      | some q => exact h q (List.mem_of_getElem? e)
    have s1 := sz_add gap (ws.getD (f + n + 1) 0)
    have s2 := sz_add (long gap ws f n) (gap + ws.getD (f + n + 1) 0)
    show sz (long gap ws f n + (gap + ws.getD (f + n + 1) 0)) ≤ _
    omega
end
theorem getD_of {ws : List Rat} {i : Nat} {w : Rat} (h : ws[i]? = some w) : ws.getD i 0 = w := by
  rw [List.getD_eq_getElem?_getD, h]
  rfl
theorem pure_run_width (x y z : AV) (h : AH) (R : AK) (c1 : clH h) (c2 : clBs h.length [x, y, z] = true) (q : sp_run_width [x, y, z] h R (fun _ _ => False)) :
    b_run_width (ends (retG h R)) [some x, some y, some z, none, none] h := by
  obtain ⟨nm, line, gap, ws, rfl, ok, first, last, rfl, rfl, hfl, hl, q⟩ := q
  have at_ : ∀ i : Nat, i < ws.length → ∃ w, sz w ≤ 24 ∧ atA (ws.map rat) (i : Int) = some (rat w) ∧ ws.getD i 0 = w := fun i hi => ⟨ws[i], ok.wi _ (List.getElem_mem hi), atA_map (List.getElem?_eq_getElem hi), getD_of (List.getElem?_eq_getElem hi)⟩
  have hle := ok.le
  have hga := ok.ga
  obtain ⟨w, hw, hw2, hw3⟩ := at_ first (by omega)
  unfold b_run_width wordsV
  get_elem_tactic_trivial
  rw [e_ix_tup hw2, x_for]
  refine ⟨⟨by omega, by omega, by omega, by omega⟩, ?_⟩
  refine ⟨fun i σ h' => h' = h ∧ ∃ (k : Option AV), σ = [some (wordsV nm line gap ws), some (.int first), some (.int last), some (rat (long gap ws first i)), k], ⟨rfl, _, by rw [long, hw3]; rfl⟩, fun i z σ h' hz ⟨eh, k, es⟩ => ?_, fun σ h' ⟨eh, k, es⟩ => ?_⟩
  · subst eh es
    obtain ⟨hi, rfl⟩ := zr_get hz
    refine ⟨trivial, ?_⟩
    obtain ⟨v, hv, hv2, hv3⟩ := at_ (first + 1 + i) (by omega)
    have e : ((first : Int) + 1 + (i : Int)) = ((first + 1 + i : Nat) : Int) := by omega
    unfold b_run_width_l1 wordsV
    get_elem_tactic_trivial
    rw [e, e_ix_tup hv2]
    have s1 := sz_add gap v
    have s2 := sz_long ok.wi hga first i
    have e3 : long gap ws first (i + 1) = long gap ws first i + (gap + v) := by
      show _ + (gap + ws.getD (first + i + 1) 0) = _
      rw [show first + i + 1 = first + 1 + i by omega, hv3]
    refine ⟨gap, v, rfl, rfl, by omega, _, gap + v, rfl, rfl, by omega, rfl, _, by rw [e3]⟩
  · subst eh es
    rw [zr_len]
    get_elem_tactic_trivial
    rw [show ((last : Int) + 1 - ((first : Int) + 1)).toNat = last - first by omega]
    exact retG_of q
/-! ### whole numbers of widths -/
structure SzOk (h : AH) (n : Nat) (width gap : Rat) (ws : List Rat) (B : Int) (ss : List Int) (sg sw : Int) : Prop where
  at_ : h[n]? = some (.lst (ss.map AV.int))
  pos : 0 < B
  len : ss.length = ws.length + 2
  g : (sg : Rat) = gap * (B : Rat)
  w : (sw : Rat) = width * (B : Rat)
  ig : atA (ss.map AV.int) (-2) = some (.int sg)
  iw : atA (ss.map AV.int) (-1) = some (.int sw)
  it : ∀ (i : Nat) (w : Rat), ws[i]? = some w → ∃ s : Int, ss[i]? = some s ∧ (s : Rat) = w * (B : Rat)
theorem SzAt.ok {h : AH} {n : Nat} {width gap : Rat} {ws : List Rat} (s : SzAt h n width gap ws) : ∃ B ss sg sw, SzOk h n width gap ws B ss sg sw := by
  obtain ⟨B, ss, e1, hB, hsl, hss⟩ := s
  obtain ⟨sg, g1, g2⟩ := hss ws.length gap (by simp)
  obtain ⟨sw, w1, w2⟩ := hss (ws.length + 1) width (by simp)
  exact ⟨B, ss, sg, sw, e1, hB, hsl, g2, w2, atA_m2 (by rw [List.length_map]; omega) (by rw [List.length_map, List.getElem?_map, hsl, Nat.add_sub_cancel, g1]; rfl),
    atA_m1 (by rw [List.length_map, List.getElem?_map, hsl, show ws.length + 2 - 1 = ws.length + 1 by omega, w1]; rfl), fun i w hi => by
      obtain ⟨s, h1, h2⟩ := hss i w (by rw [List.getElem?_append_left (List.getElem?_eq_some_iff.mp hi).1]; exact hi)
      exact ⟨s, h1, h2⟩⟩
section
variable {h : AH} {n : Nat} {width gap : Rat} {ws : List Rat} {B : Int} {ss : List Int} {sg sw : Int}
theorem SzOk.item (s : SzOk h n width gap ws B ss sg sw) {i : Nat} (hi : i < ws.length) : ∃ t : Int, ss[i]? = some t ∧ atA (ss.map AV.int) (i : Int) = some (.int t) ∧ (t : Rat) = ws.getD i 0 * (B : Rat) := by
  obtain ⟨t, h1, h2⟩ := s.it i ws[i] (List.getElem?_eq_getElem hi)
  exact ⟨t, h1, atA_map h1, by rw [getD_of (List.getElem?_eq_getElem hi)]; exact h2⟩
/-- the sum of some words in a row -/
theorem SzOk.sum (s : SzOk h n width gap ws B ss sg sw) (a : Nat) : ∀ k, a + k < ws.length → ((((ss.drop a).take (k + 1)).sum + (k : Int) * sg : Int) : Rat) = long gap ws a k * (B : Rat)
  | 0, hk => by
    obtain ⟨t, h1, _, h3⟩ := s.item (i := a) (by omega)
    have e : (ss.drop a).take 1 = [t] := by
      rw [List.take_add_one, List.take_zero, List.getElem?_drop, Nat.add_zero, h1]
      rfl
    rw [e]
    simpa [long] using h3
  | k + 1, hk => by
    obtain ⟨t, h1, _, h3⟩ := s.item (i := a + k + 1) (by omega)
    have ih := s.sum a k (by omega)
    have e : (ss.drop a).take (k + 1 + 1) = (ss.drop a).take (k + 1) ++ [t] := by
      rw [List.take_add_one, List.getElem?_drop, show a + (k + 1) = a + k + 1 by omega, h1]
      rfl
    rw [e, List.sum_append]
    have e2 : ((ss.drop a).take (k + 1)).sum + [t].sum + ((k + 1 : Nat) : Int) * sg = (((ss.drop a).take (k + 1)).sum + (k : Int) * sg) + (sg + t) := by
      simp
      grind
    rw [e2, Rat.intCast_add, ih, Rat.intCast_add, s.g, h3]
    show _ = (long gap ws a k + (gap + ws.getD (a + k + 1) 0)) * (B : Rat)
    grind
end
theorem leaf_seen {h : AH} {x : AV} (e : leafOk x = true) : seen h x := by
  cases x with
  | ref _ => cases e
  | ty _ => cases e
  | _ => trivial
theorem bv_old {h r : AH} {v : AV} (b : BV h v) : BV (h ++ r) v := by
  cases v with
  | ref n =>
    obtain ⟨xs, e⟩ := b
    exact ⟨xs, get_old e⟩
  | _ => exact b
theorem bv_set {h : AH} {p : Nat} {ys : List AV} {v : AV} (b : BV h v) : BV (h.set p (.lst ys)) v := by
  cases v with
  | ref n =>
    obtain ⟨xs, e⟩ := b
    by_cases hp : p = n
    · subst hp
      exact ⟨ys, set_at e⟩
    · exact ⟨xs, get_set e hp⟩
  | _ => exact b
theorem bv_grown {h h' : AH} {n : Nat} {v : AV} (b : BV h v) (g : Grown h n h') : BV h' v := by
  cases v with
  | ref k =>
    obtain ⟨xs, e⟩ := b
    by_cases hp : k = n
    · subst hp
      obtain ⟨_, _, _, _, _, e1, _⟩ := g.at
      exact ⟨_, e1⟩
    · exact ⟨xs, by rw [g.get (get_lt e) hp]; exact e⟩
  | _ => exact b
structure LV (m : Nat) (xs : List AV) : Prop where
  le : xs.length ≤ m
  leaf : ∀ x ∈ xs, leafOk x = true
theorem LV.app {m k : Nat} {a b : List AV} (h1 : LV m a) (h2 : LV k b) : LV (m + k) (a ++ b) := ⟨by rw [List.length_append]; have := h1.le; have := h2.le; omega, fun x hx => (List.mem_append.mp hx).elim (h1.leaf x) (h2.leaf x)⟩
theorem LV.cut {m : Nat} {a : List AV} (h : LV m a) (lo hi : Option Int) : LV m (cutA a lo hi) :=
  ⟨Nat.le_trans (by unfold cutA; rw [List.length_take, List.length_drop]; omega) h.le, fun x hx => h.leaf x (List.mem_of_mem_drop (List.mem_of_mem_take hx))⟩
theorem LV.one {x : AV} (h : leafOk x = true) : LV 1 [x] := ⟨by simp, fun y hy => by rw [List.mem_singleton.mp hy]; exact h⟩
theorem LV.ints (xs : List Int) {m : Nat} (h : xs.length ≤ m) : LV m (xs.map AV.int) := ⟨by simpa using h, fun x hx => by
  obtain ⟨i, _, rfl⟩ := List.mem_map.mp hx
  rfl⟩
def TV (v : AV) : Prop := ∃ xs, v = .tup xs ∧ LV 64 xs
theorem TV.mk {m : Nat} {xs : List AV} (h : LV m xs) (hm : m ≤ 64) : TV (.tup xs) := ⟨xs, rfl, Nat.le_trans h.le hm, h.leaf⟩
theorem TV.bv {h : AH} {v : AV} (t : TV v) : BV h v := by
  obtain ⟨xs, rfl, l⟩ := t
  exact ⟨l.le, l.leaf⟩
/-- values that are asked, some in a row -/
structure RV (h : AH) (m : Nat) (xs : List AV) : Prop where
  le : xs.length ≤ m
  bv : ∀ x ∈ xs, BV h x
theorem RV.app {h : AH} {m k : Nat} {a b : List AV} (h1 : RV h m a) (h2 : RV h k b) : RV h (m + k) (a ++ b) := ⟨by rw [List.length_append]; have := h1.le; have := h2.le; omega, fun x hx => (List.mem_append.mp hx).elim (h1.bv x) (h2.bv x)⟩
theorem RV.cut {h : AH} {m : Nat} {a : List AV} (q : RV h m a) (lo hi : Option Int) : RV h m (cutA a lo hi) :=
  ⟨Nat.le_trans (by unfold cutA; rw [List.length_take, List.length_drop]; omega) q.le, fun x hx => q.bv x (List.mem_of_mem_drop (List.mem_of_mem_take hx))⟩
theorem RV.one {h : AH} {x : AV} (q : BV h x) : RV h 1 [x] := ⟨by simp, fun y hy => by rw [List.mem_singleton.mp hy]; exact q⟩
theorem RV.nil {h : AH} : RV h 0 [] := ⟨Nat.le_refl _, by simp⟩
theorem RV.cons {h : AH} {m : Nat} {x : AV} {xs : List AV} (q : BV h x) (r : RV h m xs) : RV h (m + 1) (x :: xs) := ⟨by rw [List.length_cons]; have := r.le; omega, fun y hy => (List.mem_cons.mp hy).elim (fun e => e ▸ q) (r.bv y)⟩
theorem RV.mono {h : AH} {m k : Nat} {a : List AV} (q : RV h m a) (hm : m ≤ k) : RV h k a := ⟨Nat.le_trans q.le hm, q.bv⟩
theorem RV.to {h h' : AH} {m : Nat} {a : List AV} (q : RV h m a) (f : ∀ v, BV h v → BV h' v) : RV h' m a := ⟨q.le, fun x hx => f x (q.bv x hx)⟩
theorem LV.bv {h : AH} {m : Nat} {xs : List AV} (q : LV m xs) (hm : m ≤ 64) : BV h (.tup xs) := ⟨Nat.le_trans q.le hm, q.leaf⟩
end AL

/-! LG: lines from the left, counted: plain. -/
namespace AL
open PySem
/-- lines, the first word of the last line -/
def gs (width gap : Rat) (ws : List Rat) : Nat → Nat × Nat
  | 0 => (0, 0)
  | i + 1 => if i = 0 then (1, 0) else if long gap ws (gs width gap ws i).2 (i - (gs width gap ws i).2) ≤ width then gs width gap ws i else ((gs width gap ws i).1 + 1, i)
section
variable {width gap : Rat} {ws : List Rat}
theorem gs_one : gs width gap ws 1 = (1, 0) := rfl
theorem gs_succ {i : Nat} (hi : 0 < i) : gs width gap ws (i + 1) = if long gap ws (gs width gap ws i).2 (i - (gs width gap ws i).2) ≤ width then gs width gap ws i else ((gs width gap ws i).1 + 1, i) := by
  show (if i = 0 then _ else _) = _
  rw [if_neg (by omega)]
theorem gs_mono1 (i : Nat) : (gs width gap ws i).1 ≤ (gs width gap ws (i + 1)).1 ∧ (gs width gap ws (i + 1)).1 ≤ (gs width gap ws i).1 + 1 := by
  by_cases h : i = 0
  · subst h
    exact ⟨Nat.zero_le _, Nat.le_refl _⟩
  · rw [gs_succ (by omega)]
    split
    · exact ⟨Nat.le_refl _, by omega⟩
    · exact ⟨by show _ ≤ _ + 1; omega, Nat.le_refl _⟩
theorem gs_mono {i j : Nat} (h : i ≤ j) : (gs width gap ws i).1 ≤ (gs width gap ws j).1 := by
  induction j with
  | zero =>
    obtain rfl : i = 0 := by omega
    exact Nat.le_refl _
  | succ j ih =>
    by_cases hj : i = j + 1
    · subst hj
      exact Nat.le_refl _
    · exact Nat.le_trans (ih (by omega)) (gs_mono1 j).1
theorem gs_st : ∀ i, 0 < i → (gs width gap ws i).2 < i ∧ (gs width gap ws (gs width gap ws i).2).1 + 1 = (gs width gap ws i).1 ∧ (∀ j, (gs width gap ws i).2 < j → j ≤ i → gs width gap ws j = gs width gap ws i) ∧
    ((gs width gap ws i).2 + 1 = i ∨ long gap ws (gs width gap ws i).2 (i - 1 - (gs width gap ws i).2) ≤ width)
  | 0, h => absurd h (by omega)
  | 1, _ => ⟨by rw [gs_one]; decide, by rw [gs_one]; rfl, fun j h1 h2 => by
      rw [gs_one] at h1
      obtain rfl : j = 1 := by have : 0 < j := h1; omega
      rfl, .inl rfl⟩
  | i + 2, _ => by
    obtain ⟨a, b, c, d⟩ := gs_st (i + 1) (by omega)
    by_cases hf : long gap ws (gs width gap ws (i + 1)).2 (i + 1 - (gs width gap ws (i + 1)).2) ≤ width
    · have e : gs width gap ws (i + 2) = gs width gap ws (i + 1) := by rw [gs_succ (by omega), if_pos hf]
      rw [e]
      refine ⟨by omega, b, fun j h1 h2 => ?_, .inr ?_⟩
      · by_cases hj : j = i + 2
        · subst hj
          exact e
        · exact c j h1 (by omega)
      · rw [show i + 2 - 1 = i + 1 by omega]
        exact hf
    · have e : gs width gap ws (i + 2) = ((gs width gap ws (i + 1)).1 + 1, i + 1) := by rw [gs_succ (by omega), if_neg hf]
      rw [e]
      refine ⟨by show i + 1 < _; omega, rfl, fun j h1 h2 => ?_, .inl rfl⟩
      have : i + 1 < j := h1
      obtain rfl : j = i + 2 := by omega
      exact e
/-- a line more at most -/
theorem gs_le (P : Pos gap ws) (first : Nat) : ∀ n, (n = 0 ∨ long gap ws first n ≤ width) → (gs width gap ws (first + n + 1)).1 ≤ (gs width gap ws first).1 + 1
  | 0, _ => (gs_mono1 first).2
  | n + 1, h => by
    have hf : long gap ws first (n + 1) ≤ width := h.resolve_left (by omega)
    have ih := gs_le P first n (.inr (Rat.le_trans (long_right1 P first n) hf))
    rw [show first + (n + 1) + 1 = first + n + 1 + 1 by omega, gs_succ (by omega)]
    obtain ⟨a, b, c, d⟩ := gs_st (width := width) (gap := gap) (ws := ws) (first + n + 1) (by omega)
    split
    · exact ih
    · rename_i hn
      show _ + 1 ≤ _
      by_cases hs : first ≤ (gs width gap ws (first + n + 1)).2
      · exfalso
        refine hn (Rat.le_trans (long_sub P hs (by omega) (Nat.le_refl _)) ?_)
        rw [show first + n + 1 - first = n + 1 by omega]
        exact hf
      · rw [← c first (by omega) (by omega)]
        exact Nat.le_refl _
/-- two words that do not fit on one line -/
theorem gs_lt (P : Pos gap ws) {a b : Nat} (hab : a < b) (h : width < long gap ws a (b - a)) : (gs width gap ws (a + 1)).1 + 1 ≤ (gs width gap ws (b + 1)).1 := by
  obtain ⟨s1, s2, s3, s4⟩ := gs_st (width := width) (gap := gap) (ws := ws) (b + 1) (by omega)
  by_cases hs : (gs width gap ws (b + 1)).2 ≤ a
  · exfalso
    rcases s4 with s4 | s4
    · omega
    · rw [show b + 1 - 1 = b by omega] at s4
      have := Rat.le_trans (long_sub P hs (by omega) (Nat.le_refl b)) s4
      exact absurd h (Rat.not_lt.mpr this)
  · rw [← s2]
    have := gs_mono (width := width) (gap := gap) (ws := ws) (show a + 1 ≤ (gs width gap ws (b + 1)).2 by omega)
    omega
/-! ### the lines -/
theorem brk_gs : ∀ i, 0 < i → (brk width gap ws i).1.length + 1 = (gs width gap ws i).1 ∧ (brk width gap ws i).2.1 ≠ [] ∧ (gs width gap ws i).2 < i ∧ (brk width gap ws i).2.2 = long gap ws (gs width gap ws i).2 (i - 1 - (gs width gap ws i).2)
  | 0, h => absurd h (by omega)
  | 1, _ => ⟨rfl, by simp [brk], by rw [gs_one]; decide, rfl⟩
  | i + 2, _ => by
    obtain ⟨a, b, c, d⟩ := brk_gs (i + 1) (by omega)
    have st := (gs_st (width := width) (gap := gap) (ws := ws) (i + 1) (by omega)).1
    have e : brk width gap ws (i + 2) = if (brk width gap ws (i + 1)).2.2 + (gap + ws.getD (i + 1) 0) ≤ width then ((brk width gap ws (i + 1)).1, (brk width gap ws (i + 1)).2.1 ++ [i + 1], (brk width gap ws (i + 1)).2.2 + (gap + ws.getD (i + 1) 0)) else ((brk width gap ws (i + 1)).1 ++ [(brk width gap ws (i + 1)).2.1], [i + 1], ws.getD (i + 1) 0) := by
      show (if (brk width gap ws (i + 1)).2.1 = [] then _ else _) = _
      rw [if_neg b]
    have e2 : (brk width gap ws (i + 1)).2.2 + (gap + ws.getD (i + 1) 0) = long gap ws (gs width gap ws (i + 1)).2 (i + 1 - (gs width gap ws (i + 1)).2) := by
      obtain ⟨k, hk⟩ : ∃ k, i = (gs width gap ws (i + 1)).2 + k := ⟨i - (gs width gap ws (i + 1)).2, by omega⟩
      rw [d]
      generalize (gs width gap ws (i + 1)).2 = s at hk
      subst hk
      rw [show s + k + 1 - 1 - s = k by omega, show s + k + 1 - s = k + 1 by omega]
      rfl
    rw [e, gs_succ (by omega), e2]
    split
    · exact ⟨a, by simp, by omega, by rw [show i + 2 - 1 = i + 1 by omega]⟩
    · refine ⟨by rw [List.length_append, ← a]; rfl, by simp, by show i + 1 < _; omega, ?_⟩
      show _ = long gap ws (i + 1) _
      rw [show i + 2 - 1 - (i + 1) = 0 by omega]
      rfl
theorem brk_ne : ∀ i, ∀ l ∈ (brk width gap ws i).1, l ≠ []
  | 0, l, h => by simp [brk] at h
  | i + 1, l, h => by
    have ih := brk_ne i
    replace h : l ∈ (if (brk width gap ws i).2.1 = [] then ((brk width gap ws i).1, [i], ws.getD i 0) else if (brk width gap ws i).2.2 + (gap + ws.getD i 0) ≤ width then ((brk width gap ws i).1, (brk width gap ws i).2.1 ++ [i], (brk width gap ws i).2.2 + (gap + ws.getD i 0)) else ((brk width gap ws i).1 ++ [(brk width gap ws i).2.1], [i], ws.getD i 0)).1 := h
    split at h
    · exact ih l h
    · rename_i hp
      split at h
      · exact ih l h
      · rcases List.mem_append.mp h with h | h
        · exact ih l h
        · rw [List.mem_singleton.mp h]
          exact hp
theorem rows_gs (h : 0 < ws.length) : (rows width gap ws).length = (gs width gap ws ws.length).1 := by
  unfold rows
  rw [List.length_append, ← (brk_gs ws.length h).1]
  rfl
theorem rows_ne (h : 0 < ws.length) : ∀ l ∈ rows width gap ws, l ≠ [] := fun l hl => by
  unfold rows at hl
  rcases List.mem_append.mp hl with hl | hl
  · exact brk_ne _ l hl
  · rw [List.mem_singleton.mp hl]
    exact (brk_gs ws.length h).2.1
end
end AL

/-! S16: steps of heights: contracts. -/
namespace AL
open PySem
/-- a width of two or more words in a row -/
def Cand (gap : Rat) (ws : List Rat) (q : Rat) : Prop := ∃ f k : Nat, f + k + 1 < ws.length ∧ q = long gap ws f (k + 1)
/-- all of them in order -/
structure Cs (gap : Rat) (ws cs : List Rat) : Prop where
  st : cs.Pairwise (· < ·)
  mem : ∀ q, q ∈ cs ↔ Cand gap ws q
  few : cs.length ≤ 1000
def cnt (width gap : Rat) (ws : List Rat) : Nat := (rows width gap ws).length
/-- the lines below the i-th of them -/
def pvw (gap : Rat) (ws cs : List Rat) (i : Nat) : Nat := if i = 0 then ws.length else cnt (cs.getD (i - 1) 0) gap ws
def steps (gap : Rat) (ws cs : List Rat) : Nat → List (Rat × Nat)
  | 0 => []
  | i + 1 => steps gap ws cs i ++ (if cnt (cs.getD i 0) gap ws ≠ pvw gap ws cs i then [(cs.getD i 0, cnt (cs.getD i 0) gap ws)] else [])
def stepV (s : Rat × Nat) : AV := .tup [rat s.1, .int ((s.2 : Nat) : Int)]
def stepsV (l : List (Rat × Nat)) : AV := .tup (l.map stepV)
def sp_ordered : ASp := A1 fun x h R _ => ∃ (n : Nat) (qs : List Rat), x = .ref n ∧ h[n]? = some (.lst (qs.map rat)) ∧ qs.length ≤ 1000 ∧ (∀ q ∈ qs, sz q ≤ 700) ∧ ∀ os : List Rat, os.Pairwise (· < ·) → (∀ q, q ∈ os ↔ q ∈ qs) → os.length ≤ qs.length → R (.ref h.length) (h ++ [.lst (os.map rat)])
def ofWords (p : Rat → Rat → List Rat → AH → AK → Prop) : ASp := A1 fun x h R _ => ∃ nm line gap ws, x = wordsV nm line gap ws ∧ WordsOk line gap ws ∧ p line gap ws h R
def sp_run_widths : ASp := ofWords fun _ gap ws h R => ∀ cs, Cs gap ws cs → R (.ref h.length) (h ++ [.lst (cs.map rat)])
def sp_steps_of : ASp := ofWords fun _ gap ws h R => ∀ cs, Cs gap ws cs → R (stepsV (steps gap ws cs cs.length)) h
def sp_law_changes : ASp := ofWords fun _ gap ws h R => ∀ cs, Cs gap ws cs → R (stepsV (steps gap ws cs cs.length)) h
def sp_law_below : ASp := ofWords fun _ gap ws h R => R (.int (lcmB (ws ++ [gap]))) h
def sp_law_count : ASp := A3 fun x y z h R _ => ∃ n w0 line gap ws B ss sg sw W w, WordsOk line gap ws ∧ x = .ref n ∧ SzOk h n w0 gap ws B ss sg sw ∧ y = .int (ws.length : Int) ∧ z = .int W ∧ (W : Rat) = w * (B : Rat) ∧ R (.int ((cnt w gap ws : Nat) : Int)) h
def sp_law_is_steps : ASp := A2 fun x y h R _ => ∃ l, x = stepsV l ∧ y = stepsV l ∧ (∀ s ∈ l, sz s.1 ≤ 1000) ∧ R (.bl true) h
def sp_law_read : ASp := A3 fun x y z h R _ => ∃ line gap ws cs width, WordsOk line gap ws ∧ Cs gap ws cs ∧ x = stepsV (steps gap ws cs cs.length) ∧ y = .int (ws.length : Int) ∧ z = rat width ∧ sz width ≤ 1000 ∧ R (.int ((cnt width gap ws : Nat) : Int)) h
end AL

/-! B16: bodies, printed by gen.py. -/
namespace AL
open PySem
def b_run_widths_l1 : ATS := (dropT (mtT isLst appendR (varT 2) (consT (callT sp_run_width (fun _ _ => False) (consT (varT 0) (consT (varT 3) (consT (varT 4) nilT)))) nilT)))
def b_run_widths_l2 : ATS := (forT (iRng2T (consT (opT addR (varT 3) (cT (.int 1))) (consT (varT 1) nilT))) (gNameT 4)
    b_run_widths_l1)
def b_run_widths_r1 : ATS := (retT (callT sp_ordered (fun _ _ => False) (consT (varT 2) nilT)))
def b_run_widths : ATS := (seqT (asgT (cbT lenR (consT (opT ixR (varT 0) (cT (.int 4))) nilT)) (gNameT 1))
    (seqT (asgT (lstT nilT) (gNameT 2))
    (seqT (forT (iRng1T (consT (varT 1) nilT)) (gNameT 3)
    b_run_widths_l2)
    b_run_widths_r1)))
def b_ordered_l1 : ATS := (augT 3 (cT (.int 1)) iaddR)
def b_ordered_r1 : ATS := (ifS (orT (cmpT (opT eqR (varT 3) (cbT lenR (consT (varT 1) nilT)))) (cmpT (opT neR (opT ixR (varT 1) (varT 3)) (varT 2))))
    (dropT (mtT isLst insertR (varT 1) (consT (varT 3) (consT (varT 2) nilT))))
    nextT)
def b_ordered_l2 : ATS := (seqT (asgT (cT (.int 0)) (gNameT 3))
    (seqT (whileT (andT (cmpT (opT ltR (varT 3) (cbT lenR (consT (varT 1) nilT)))) (truT (callT sp_less (fun _ _ => False) (consT (opT ixR (varT 1) (varT 3)) (consT (varT 2) nilT)))))
    b_ordered_l1)
    b_ordered_r1))
def b_ordered : ATS := (seqT (asgT (lstT nilT) (gNameT 1))
    (seqT (forT (iSeqT (varT 0)) (gNameT 2)
    b_ordered_l2)
    (retT (varT 1))))
def b_steps_of_l1 : ATS := (seqT (asgT (cbT lenR (consT (callT sp_line_rows (fun _ _ => False) (consT (varT 0) (consT (varT 3) nilT))) nilT)) (gNameT 4))
    (ifS (cmpT (opT neR (varT 4) (varT 2)))
    (seqT (dropT (mtT isLst appendR (varT 1) (consT (tupT (consT (varT 3) (consT (varT 4) nilT))) nilT)))
    (asgT (varT 4) (gNameT 2)))
    nextT))
def b_steps_of_r1 : ATS := (retT (cbT tupleR (consT (varT 1) nilT)))
def b_steps_of : ATS := (seqT (asgT (lstT nilT) (gNameT 1))
    (seqT (asgT (cbT lenR (consT (opT ixR (varT 0) (cT (.int 4))) nilT)) (gNameT 2))
    (seqT (forT (iSeqT (callT sp_run_widths (fun _ _ => False) (consT (varT 0) nilT))) (gNameT 3)
    b_steps_of_l1)
    b_steps_of_r1)))
def b_law_count_l1 : ATS := (seqT (asgT (opT addR (opT addR (varT 4) (opT ixR (varT 0) (unT negR (cT (.int 2))))) (opT ixR (varT 0) (varT 5))) (gNameT 6))
    (ifS (cmpT (opT leR (varT 6) (varT 2)))
    (asgT (varT 6) (gNameT 4))
    (seqT (augT 3 (cT (.int 1)) iaddR)
    (asgT (opT ixR (varT 0) (varT 5)) (gNameT 4)))))
def b_law_count : ATS := (seqT (asgT (cT (.int 1)) (gNameT 3))
    (seqT (asgT (opT ixR (varT 0) (cT (.int 0))) (gNameT 4))
    (seqT (forT (iRng2T (consT (cT (.int 1)) (consT (varT 1) nilT))) (gNameT 5)
    b_law_count_l1)
    (retT (varT 3)))))
def b_law_below_l1 : ATS := (asgT (opT mulR (varT 1) (opT fdivR (opT ixR (varT 2) (cT (.int 1))) (callT sp_law_gcd (fun _ _ => False) (consT (varT 1) (consT (opT ixR (varT 2) (cT (.int 1))) nilT))))) (gNameT 1))
def b_law_below : ATS := (seqT (asgT (cT (.int 1)) (gNameT 1))
    (seqT (forT (iSeqT (opT addR (cbT listR (consT (opT ixR (varT 0) (cT (.int 4))) nilT)) (lstT (consT (opT ixR (varT 0) (cT (.int 3))) nilT)))) (gNameT 2)
    b_law_below_l1)
    (retT (varT 1))))
def b_law_changes_l1 : ATS := (seqT (asgT (opT addR (opT addR (varT 5) (opT ixR (varT 2) (unT negR (cT (.int 2))))) (opT ixR (varT 2) (varT 6))) (gNameT 5))
    (asgT (cT (.bl true)) (gSubT (varT 3) (varT 5))))
def b_law_changes_l2 : ATS := (seqT (asgT (opT ixR (varT 2) (varT 4)) (gNameT 5))
    (forT (iRng2T (consT (opT addR (varT 4) (cT (.int 1))) (consT (varT 1) nilT))) (gNameT 6)
    b_law_changes_l1))
def b_law_changes_l3 : ATS := (seqT (asgT (callT sp_law_count (fun _ _ => False) (consT (varT 2) (consT (varT 1) (consT (varT 8) nilT)))) (gNameT 9))
    (ifS (cmpT (opT neR (varT 9) (callT sp_law_count (fun _ _ => False) (consT (varT 2) (consT (varT 1) (consT (opT subR (varT 8) (cT (.int 1))) nilT))))))
    (dropT (mtT isLst appendR (varT 7) (consT (tupT (consT (callT sp_law_r (fun _ _ => False) (consT (varT 8) (consT (opT mulR (cT (.int 2)) (callT sp_law_below (fun _ _ => False) (consT (varT 0) nilT))) nilT))) (consT (varT 9) nilT))) nilT)))
    nextT))
def b_law_changes_r1 : ATS := (retT (cbT tupleR (consT (varT 7) nilT)))
def b_law_changes_r2 : ATS := (seqT (asgT (lstT nilT) (gNameT 7))
    (seqT (forT (iSeqT (cbT sortedR (consT (varT 3) nilT))) (gNameT 8)
    b_law_changes_l3)
    b_law_changes_r1))
def b_law_changes : ATS := (seqT (asgT (cbT lenR (consT (opT ixR (varT 0) (cT (.int 4))) nilT)) (gNameT 1))
    (seqT (asgT (lcT (iSeqT (callT sp_law_whole (fun _ _ => False) (consT (varT 0) (consT (tupT (consT (cT (.int 0)) (consT (cT (.int 1)) nilT))) nilT)))) (gNameT 10) yesT (opT mulR (cT (.int 2)) (varT 10)) [10]) (gNameT 2))
    (seqT (asgT dnewT (gNameT 3))
    (seqT (forT (iRng1T (consT (varT 1) nilT)) (gNameT 4)
    b_law_changes_l2)
    b_law_changes_r2))))
def b_law_is_steps_l1 : ATS := (seqT (ifS (orT (notT (truT (cbT instR (consT (varT 2) (consT (cT (.ty "tuple")) nilT))))) (cmpT (opT neR (cbT lenR (consT (varT 2) nilT)) (cT (.int 2)))))
    (retT (cT (.bl false)))
    nextT)
    (seqT (ifS (orT (notT (truT (callT sp_law_is_r (fun _ _ => False) (consT (opT ixR (varT 2) (cT (.int 0))) nilT)))) (notT (truT (callT sp_law_is_int (fun _ _ => False) (consT (opT ixR (varT 2) (cT (.int 1))) nilT)))))
    (retT (cT (.bl false)))
    nextT)
    (ifS (orT (cmpT (opT neR (opT ixR (varT 2) (cT (.int 0))) (opT ixR (varT 3) (cT (.int 0))))) (cmpT (opT neR (opT ixR (varT 2) (cT (.int 1))) (opT ixR (varT 3) (cT (.int 1))))))
    (retT (cT (.bl false)))
    nextT)))
def b_law_is_steps : ATS := (seqT (ifS (orT (notT (truT (cbT instR (consT (varT 0) (consT (cT (.ty "tuple")) nilT))))) (cmpT (opT neR (cbT lenR (consT (varT 0) nilT)) (cbT lenR (consT (varT 1) nilT)))))
    (retT (cT (.bl false)))
    nextT)
    (seqT (forT (iZipT (consT (varT 0) (consT (varT 1) nilT))) (gTupT 2 (gConsT (gNameT 2) (gConsT (gNameT 3) gNilT)))
    b_law_is_steps_l1)
    (retT (cT (.bl true)))))
def b_law_read_l1 : ATS := (ifS (notT (truT (callT sp_law_lt (fun _ _ => False) (consT (varT 2) (consT (opT ixR (varT 4) (cT (.int 0))) nilT)))))
    (asgT (opT ixR (varT 4) (cT (.int 1))) (gNameT 3))
    nextT)
def b_law_read : ATS := (seqT (asgT (varT 1) (gNameT 3))
    (seqT (forT (iSeqT (varT 0)) (gNameT 4)
    b_law_read_l1)
    (retT (varT 3))))
def b_law_l1 : ATS := (dropT (mtT isLst appendR (varT 3) (consT (tupT (consT (varT 4) (consT (lcT (iRng1T (consT (cT (.int 4)) nilT)) (gNameT 10) yesT (callT sp_law_near (fun _ _ => False) (consT (varT 1) (consT (varT 4) nilT))) [10]) nilT))) nilT)))
def b_law_l2 : ATS := (seqT (asgT (callT sp_law_whole (fun _ _ => False) (consT (varT 4) (consT (varT 8) nilT))) (gNameT 9))
    (ifS (cmpT (opT neR (callT sp_law_read (fun _ _ => False) (consT (varT 6) (consT (varT 7) (consT (varT 8) nilT)))) (callT sp_law_count (fun _ _ => False) (consT (varT 9) (consT (varT 7) (consT (opT ixR (varT 9) (unT negR (cT (.int 1)))) nilT))))))
    (retT (cT (.bl false)))
    nextT))
def b_law_l3 : ATS := (seqT (asgT (callT sp_steps_of (fun _ _ => False) (consT (varT 4) nilT)) (gNameT 6))
    (seqT (ifS (notT (truT (callT sp_law_is_steps (fun _ _ => False) (consT (varT 6) (consT (callT sp_law_changes (fun _ _ => False) (consT (varT 4) nilT)) nilT)))))
    (retT (cT (.bl false)))
    nextT)
    (seqT (asgT (cbT lenR (consT (opT ixR (varT 4) (cT (.int 4))) nilT)) (gNameT 7))
    (forT (iSeqT (varT 5)) (gNameT 8)
    b_law_l2))))
def b_law_r1 : ATS := (seqT (dropT (mtT isLst appendR (varT 3) (consT (tupT (consT (opT ixR (varT 2) (cT (.int 0))) (consT (lstT nilT) nilT))) nilT)))
    (seqT (forT (iSeqT (varT 3)) (gTupT 2 (gConsT (gNameT 4) (gConsT (gNameT 5) gNilT)))
    b_law_l3)
    (retT (cT (.bl true)))))
def b_law : ATS := (seqT (asgT (callT sp_law_begin (fun _ _ => False) (consT (varT 0) nilT)) (gNameT 1))
    (seqT (asgT (lstT (consT (callT sp_law_told_words (fun _ _ => False) (consT (varT 1) (consT (cT (.str "w")) (consT (cT (.int 12)) nilT)))) (consT (callT sp_law_told_words (fun _ _ => False) (consT (varT 1) (consT (cT (.str "w")) (consT (cT (.int 12)) nilT)))) nilT))) (gNameT 2))
    (seqT (asgT (lstT nilT) (gNameT 3))
    (seqT (forT (iSeqT (varT 2)) (gNameT 4)
    b_law_l1)
    b_law_r1))))
end AL

/-! L16: steps of heights: plain. -/
namespace AL
open PySem
section
variable {gap : Rat} {ws cs : List Rat}
/-- lines hang on the candidates alone -/
theorem gs_congr {w1 w2 : Rat} (h : ∀ q, Cand gap ws q → (q ≤ w1 ↔ q ≤ w2)) : ∀ i, i ≤ ws.length → gs w1 gap ws i = gs w2 gap ws i
  | 0, _ => rfl
  | 1, _ => rfl
  | i + 2, hi => by
    have ih := gs_congr h (i + 1) (by omega)
    rw [gs_succ (width := w1) (i := i + 1) (by omega), gs_succ (width := w2) (i := i + 1) (by omega), ih]
    have st := (gs_st (width := w2) (gap := gap) (ws := ws) (i + 1) (by omega)).1
    obtain ⟨k, hk⟩ : ∃ k, i + 1 - (gs w2 gap ws (i + 1)).2 = k + 1 := ⟨i - (gs w2 gap ws (i + 1)).2, by omega⟩
    rw [hk]
    have := h _ ⟨(gs w2 gap ws (i + 1)).2, k, by omega, rfl⟩
    by_cases hf : long gap ws (gs w2 gap ws (i + 1)).2 (k + 1) ≤ w2
    · rw [if_pos hf, if_pos (this.mpr hf)]
    · rw [if_neg hf, if_neg (fun z => hf (this.mp z))]
theorem cnt_gs {w : Rat} (h0 : 0 < ws.length) : cnt w gap ws = (gs w gap ws ws.length).1 := rows_gs h0
theorem cnt_congr {w1 w2 : Rat} (h0 : 0 < ws.length) (h : ∀ q, Cand gap ws q → (q ≤ w1 ↔ q ≤ w2)) : cnt w1 gap ws = cnt w2 gap ws := by
  rw [cnt_gs h0, cnt_gs h0, gs_congr h _ (Nat.le_refl _)]
theorem gs_none {w : Rat} (h : ∀ q, Cand gap ws q → ¬ q ≤ w) : ∀ i, 0 < i → i ≤ ws.length → gs w gap ws i = (i, i - 1)
  | 0, h, _ => absurd h (by omega)
  | 1, _, _ => rfl
  | i + 2, _, hi => by
    have ih := gs_none h (i + 1) (by omega) (by omega)
    rw [gs_succ (by omega), ih, if_neg]
    · rfl
    · show ¬ long gap ws i (i + 1 - i) ≤ w
      rw [show i + 1 - i = 0 + 1 by omega]
      exact h _ ⟨i, 0, by omega, rfl⟩
theorem cnt_none {w : Rat} (h0 : 0 < ws.length) (h : ∀ q, Cand gap ws q → ¬ q ≤ w) : cnt w gap ws = ws.length := by
  rw [cnt_gs h0, gs_none h _ h0 (Nat.le_refl _)]
theorem getD_get {cs : List Rat} {i : Nat} (h : i < cs.length) : cs.getD i 0 = cs[i] := by
  rw [List.getD_eq_getElem?_getD, List.getElem?_eq_getElem h]
  rfl
theorem Cs.lt (C : Cs gap ws cs) {i j : Nat} (h : i < j) (hj : j < cs.length) : cs.getD i 0 < cs.getD j 0 := by
  rw [getD_get (by omega), getD_get hj]
  exact List.pairwise_iff_getElem.mp C.st i j (by omega) hj h
theorem Cs.le (C : Cs gap ws cs) {i j : Nat} (h : i ≤ j) (hj : j < cs.length) : cs.getD i 0 ≤ cs.getD j 0 := by
  by_cases e : i = j
  · subst e
    exact Rat.le_refl
  · exact Rat.le_of_lt (C.lt (by omega) hj)
theorem Cs.ex (C : Cs gap ws cs) {q : Rat} (h : Cand gap ws q) : ∃ j, j < cs.length ∧ q = cs.getD j 0 := by
  obtain ⟨j, hj, e⟩ := List.getElem_of_mem ((C.mem q).mpr h)
  exact ⟨j, hj, by rw [getD_get hj, e]⟩
/-- the lines at a width that the first k candidates do not pass -/
theorem Cs.cnt (C : Cs gap ws cs) (h0 : 0 < ws.length) {w : Rat} {k : Nat} (hk : k ≤ cs.length) (h1 : ∀ j, j < k → cs.getD j 0 ≤ w) (h2 : ∀ j, k ≤ j → j < cs.length → w < cs.getD j 0) : AL.cnt w gap ws = pvw gap ws cs k := by
  unfold pvw
  by_cases e : k = 0
  · subst e
    rw [if_pos rfl]
    refine cnt_none h0 fun q hq z => ?_
    obtain ⟨j, hj, rfl⟩ := C.ex hq
    exact absurd (h2 j (Nat.zero_le _) hj) (Rat.not_lt.mpr z)
  · rw [if_neg e]
    refine cnt_congr h0 fun q hq => ?_
    obtain ⟨j, hj, rfl⟩ := C.ex hq
    constructor
    · intro z
      by_cases hjk : j < k
      · exact C.le (by omega) (by omega)
      · exact absurd (h2 j (by omega) hj) (Rat.not_lt.mpr z)
    · intro z
      exact Rat.le_trans z (h1 (k - 1) (by omega))
/-- two rows in order with the same members are one -/
theorem sorted_eq : ∀ (a b : List Rat), a.Pairwise (· < ·) → b.Pairwise (· < ·) → (∀ q, q ∈ a ↔ q ∈ b) → a = b
  | [], [], _, _, _ => rfl
  | [], y :: r, _, _, h => absurd ((h y).mpr (by simp)) (by simp)
  | x :: r, [], _, _, h => absurd ((h x).mp (by simp)) (by simp)
  | x :: r, y :: t, h1, h2, h => by
    rw [List.pairwise_cons] at h1 h2
    have e : x = y := by
      rcases List.mem_cons.mp ((h x).mp (by simp)) with e | hx
      · exact e
      rcases List.mem_cons.mp ((h y).mpr (by simp)) with e | hy
      · exact e.symm
      have a := h2.1 x hx
      have b := h1.1 y hy
      exact absurd a (Rat.not_lt.mpr (Rat.le_of_lt b))
    subst e
    rw [sorted_eq r t h1.2 h2.2 fun q => ?_]
    constructor
    · intro hq
      rcases List.mem_cons.mp ((h q).mp (by simp [hq])) with e | z
      · subst e
        exact absurd (h1.1 _ hq) Rat.lt_irrefl
      · exact z
    · intro hq
      rcases List.mem_cons.mp ((h q).mpr (by simp [hq])) with e | z
      · subst e
        exact absurd (h2.1 _ hq) Rat.lt_irrefl
      · exact z
theorem Cs.uniq {cs' : List Rat} (C : Cs gap ws cs) (C' : Cs gap ws cs') : cs = cs' := sorted_eq _ _ C.st C'.st fun q => (C.mem q).trans (C'.mem q).symm
/-! ### reading of steps -/
def rdS (w : Rat) (n : Nat) (l : List (Rat × Nat)) : Nat := l.foldl (fun a s => if w < s.1 then a else s.2) n
theorem rdS_snoc {w : Rat} {n : Nat} {l : List (Rat × Nat)} {s : Rat × Nat} : rdS w n (l ++ [s]) = if w < s.1 then rdS w n l else s.2 := by
  unfold rdS
  rw [List.foldl_append]
  rfl
theorem pvw_succ {i : Nat} : pvw gap ws cs (i + 1) = AL.cnt (cs.getD i 0) gap ws := by
  unfold pvw
  rw [if_neg (by omega), Nat.add_sub_cancel]
theorem rdS_steps {w : Rat} {k : Nat} (h1 : ∀ j, j < k → cs.getD j 0 ≤ w) (h2 : ∀ j, k ≤ j → j < cs.length → w < cs.getD j 0) : ∀ i, i ≤ cs.length → rdS w ws.length (steps gap ws cs i) = pvw gap ws cs (min i k)
  | 0, _ => by
    rw [Nat.zero_min]
    rfl
  | i + 1, hi => by
    have ih := rdS_steps h1 h2 i (by omega)
    unfold steps
    by_cases hik : i < k
    · rw [Nat.min_eq_left (by omega), pvw_succ]
      rw [Nat.min_eq_left (by omega)] at ih
      by_cases hc : AL.cnt (cs.getD i 0) gap ws ≠ pvw gap ws cs i
      · rw [if_pos hc, rdS_snoc, if_neg (Rat.not_lt.mpr (h1 i hik))]
      · rw [if_neg hc, List.append_nil, ih]
        exact (Decidable.not_not.mp hc).symm
    · rw [Nat.min_eq_right (by omega)]
      rw [Nat.min_eq_right (by omega)] at ih
      by_cases hc : AL.cnt (cs.getD i 0) gap ws ≠ pvw gap ws cs i
      · rw [if_pos hc, rdS_snoc, if_pos (h2 i (by omega) (by omega)), ih]
      · rw [if_neg hc, List.append_nil, ih]
/-- how many candidates a width passes -/
theorem Cs.split (C : Cs gap ws cs) (w : Rat) : ∃ k, k ≤ cs.length ∧ (∀ j, j < k → cs.getD j 0 ≤ w) ∧ ∀ j, k ≤ j → j < cs.length → w < cs.getD j 0 := by
  have : ∀ m, m ≤ cs.length → ∃ k, k ≤ m ∧ (∀ j, j < k → cs.getD j 0 ≤ w) ∧ ∀ j, k ≤ j → j < m → w < cs.getD j 0 := by
    intro m
    induction m with
    | zero => exact fun _ => ⟨0, Nat.le_refl _, fun j hj => by omega, fun j _ hj => by omega⟩
    | succ m ih =>
      intro hm
      obtain ⟨k, hk, h1, h2⟩ := ih (by omega)
      by_cases hw : cs.getD m 0 ≤ w
      · exact ⟨m + 1, Nat.le_refl _, fun j hj => Rat.le_trans (C.le (by omega) (by omega)) hw, fun j _ hj => by omega⟩
      · refine ⟨k, by omega, h1, fun j j1 j2 => ?_⟩
        by_cases e : j = m
        · subst e
          exact Rat.not_le.mp hw
        · exact h2 j j1 (by omega)
  exact this cs.length (Nat.le_refl _)
theorem rd_cnt (C : Cs gap ws cs) (h0 : 0 < ws.length) (w : Rat) : rdS w ws.length (steps gap ws cs cs.length) = AL.cnt w gap ws := by
  obtain ⟨k, hk, h1, h2⟩ := C.split w
  rw [rdS_steps h1 h2 _ (Nat.le_refl _), C.cnt h0 hk h1 h2, Nat.min_eq_right hk]
theorem steps_le : ∀ i, (steps gap ws cs i).length ≤ i
  | 0 => Nat.le_refl _
  | i + 1 => by
    have := steps_le i
    unfold steps
    rw [List.length_append]
    split <;> simp <;> omega
theorem steps_mem : ∀ i, i ≤ cs.length → ∀ s ∈ steps gap ws cs i, s.1 ∈ cs
  | 0, _, s, h => by cases h
  | i + 1, hi, s, h => by
    unfold steps at h
    rcases List.mem_append.mp h with h | h
    · exact steps_mem i (by omega) s h
    · split at h
      · rw [List.mem_singleton.mp h, getD_get (by omega)]
        exact List.getElem_mem _
      · cases h
end
end AL

/-! P16: steps of heights: pure proofs. -/
namespace AL
open PySem
local macro_rules | `(tactic| get_elem_tactic_trivial) => `(tactic| simp -implicitDefEqProofs only [e_tru_non, e_tru_bl, e_tru_int, e_tru_tup, e_tru_rol, e_bl_bl, e_add_int, e_add_ib, e_add_str, e_add_tup, e_sub_int, e_mul_int, e_fdiv_int, e_mod_int, e_pow_int, e_shl_int, e_neg_int, e_iadd_int, e_iadd_str, e_isub_int, e_aeq_int, e_aeq_str, e_aeq_bl, e_aeq_non, e_aeq_tup, e_aeqs_nil, e_aeqs_cons, e_aeqs_nc, e_aeqs_cn, e_plain_int, e_plain_bl, e_plain_non, e_plain_str, e_plain_tup, e_eq, e_ne, e_lt_int, e_lt_str, e_le_int, e_gt_int, e_ge_int, e_isN, e_notN, e_isNon_int, e_isNon_str, e_isNon_tup, e_isNon_non, e_isNon_ref, e_isNon_bl, e_ix0, e_ix1, e_ix2, e_ix3, e_ix4, e_len_tup, e_len_rol, e_len_str, e_abs, e_int_int, e_int_bl, e_str_int, e_gcd, e_tuple_tup, e_list_tup, e_inst_ii, e_inst_ib, e_inst_tt, e_inst_it, e_inst_ti, e_inst_tb, e_inst_bb, e_inst_bi, e_inst_bt, e_inst_ss, e_inst_st, e_inst_si, e_inst_nt, e_gTup, e_gCons, e_gNil, e_gNms0, e_gNms1, e_gName, atA_0, atA_1, atA_2, atA_3, atA_4, get_l0, get_l1, get_l2, get_l3, set_l0, set_l1, set_l2, app_l, len_l0, len_l1, len_l2, x_c, x_var, x_op, x_un, x_nil, x_cons, x_tup, x_lst, x_call, x_cb, x_mt, x_tru, x_cmp, x_and, x_or, x_not, x_andV, x_orV, x_notV, x_if, x_chain, x_next, x_seq, x_brk, x_cont, x_drop, x_ret, x_retN, x_ifS, x_asg, x_gSub, x_par, x_aug, x_augS, x_rt, x_nx, x_yes, e_max2, e_min2, x_slice, x_oNone, x_oSome, e_sl_tup, e_sl_rol, gv, sv, wipeA, lenLe, true_and, and_true, if_true, if_false, ite_true, ite_false, beq_iff_eq, decide_eq_true_eq, Bool.false_eq_true, Bool.true_eq_false, not_false_eq_true, Bool.not_eq_true', decide_eq_false_iff_not, Bool.not_true, Bool.not_false, List.isEmpty_cons, List.isEmpty_nil, List.cons_append, List.nil_append, List.length_cons, List.length_nil])
theorem pure_ordered (x : AV) (h : AH) (R : AK) (c1 : clH h) (c2 : clBs h.length [x] = true) (q : sp_ordered [x] h R (fun _ _ => False)) :
    b_ordered (ends (retG h R)) [some x, none, none, none] h := by
  obtain ⟨n, qs, rfl, e, hl, hsz, q⟩ := q
  unfold b_ordered
  get_elem_tactic_trivial
  have eo : ∀ r, (h ++ r)[n]? = some (.lst (qs.map rat)) := fun r => get_old e
  rw [x_for, x_iseq (n := n) (fun _ => rfl) (eo _)]
  obtain ⟨St, hSt⟩ : ∃ St : Nat → ASt → AH → Prop, St = fun i σ h' => ∃ (os : List Rat) (a b : Option AV), h' = h ++ [.lst (os.map rat)] ∧ os.Pairwise (· < ·) ∧ (∀ q, q ∈ os ↔ q ∈ qs.take i) ∧ os.length ≤ i ∧ σ = [some (.ref n), some (.ref h.length), a, b] := ⟨_, rfl⟩
  refine ⟨St, ?_, fun i z σ h' hz hI => ?_, fun σ h' hI => ?_⟩
  · rw [hSt]
    exact ⟨[], _, _, rfl, .nil, by simp, by simp, rfl⟩
  · rw [hSt] at hI
    obtain ⟨os, a, b, rfl, hst, hm, hol, rfl⟩ := hI
    refine ⟨eo _, ?_⟩
    obtain ⟨v, hv, rfl⟩ := map_get hz
    have hvq := get_mem hv
    have sv := hsz v hvq
    have hi : i < qs.length := (List.getElem?_eq_some_iff.mp hv).1
    have osz : ∀ o ∈ os, sz o ≤ 700 := fun o ho => hsz o (List.mem_of_mem_take ((hm o).mp ho))
    unfold b_ordered_l2
    get_elem_tactic_trivial
    refine ⟨fun m σ h2 => h2 = h ++ [.lst (os.map rat)] ∧ ∃ a : Nat, σ = [some (.ref n), some (.ref h.length), some (rat v), some (.int (a : Int))] ∧ m = os.length - a ∧ a ≤ os.length ∧ ∀ j, j < a → os.getD j 0 < v, ⟨_, rfl, 0, rfl, rfl, Nat.zero_le _, fun j hj => by omega⟩, fun m σ h2 ⟨eh, a, es, em, ha, hlt⟩ => ?_⟩
    subst eh es
    get_elem_tactic_trivial
    rw [e_len_lst get_l0]
    get_elem_tactic_trivial
    rw [List.length_map]
    have r1 : (∀ o, os[a]? = some o → ¬ o < v) → b_ordered_r1 { (ends (retG h R)) with nx := St (i + 1), ct := St (i + 1), bk := retT (varT 1) (ends (retG h R)) } [some (.ref n), some (.ref h.length), some (rat v), some (.int (a : Int))] (h ++ [.lst (os.map rat)]) := fun hge => by
      have hgt : a < os.length → v ≤ os.getD a 0 := fun hal => by
        have := hge os[a] (List.getElem?_eq_getElem hal)
        rw [List.getD_eq_getElem?_getD, List.getElem?_eq_getElem hal]
        exact Rat.not_lt.mp this
      have put : (a < os.length → v < os.getD a 0) → St (i + 1) [some (.ref n), some (.ref h.length), some (rat v), some (.int (a : Int))] (h ++ [.lst ((os.take a ++ [v] ++ os.drop a).map rat)]) := fun hgt => by
        rw [hSt]
        refine ⟨_, _, _, rfl, ?_, fun q => ?_, ?_, rfl⟩
        · have p1 : os.Pairwise (· < ·) := hst
          have lt1 : ∀ x ∈ os.take a, x < v := fun x hx => by
            obtain ⟨j, hj, rfl⟩ := List.getElem_of_mem hx
            rw [List.length_take] at hj
            rw [List.getElem_take]
            have := hlt j (by omega)
            rw [List.getD_eq_getElem?_getD, List.getElem?_eq_getElem (by omega)] at this
            exact this
          have lt2 : ∀ y ∈ os.drop a, v < y := fun y hy => by
            obtain ⟨j, hj, rfl⟩ := List.getElem_of_mem hy
            rw [List.length_drop] at hj
            rw [List.getElem_drop]
            have hal : a < os.length := by omega
            have g := hgt hal
            rw [List.getD_eq_getElem?_getD, List.getElem?_eq_getElem hal] at g
            have g : v < os[a] := g
            by_cases hj0 : j = 0
            · subst hj0
              exact g
            · have := List.pairwise_iff_getElem.mp p1 a (a + j) hal (by omega) (by omega)
              grind
          rw [List.append_assoc, List.pairwise_append]
          refine ⟨p1.sublist (List.take_sublist _ _), ?_, fun x hx y hy => ?_⟩
          · rw [List.singleton_append, List.pairwise_cons]
            exact ⟨lt2, p1.sublist (List.drop_sublist _ _)⟩
          · rcases List.mem_append.mp hy with hy | hy
            · rw [List.mem_singleton.mp hy]
              exact lt1 x hx
            · have a1 := lt1 x hx
              have a2 := lt2 y hy
              grind
        · rw [List.take_add_one, hv]
          have hm := hm q
          have ho : q ∈ os ↔ q ∈ os.take a ∨ q ∈ os.drop a := by
            conv => lhs; rw [← List.take_append_drop a os]
            exact List.mem_append
          simp only [List.mem_append, List.mem_singleton, Option.toList_some]
          rw [← hm, ho]
          constructor
          · rintro ((h | h) | h)
            · exact .inl (.inl h)
            · exact .inr h
            · exact .inl (.inr h)
          · rintro ((h | h) | h)
            · exact .inl (.inl h)
            · exact .inr h
            · exact .inl (.inr h)
        · rw [List.length_append, List.length_append, List.length_take, List.length_drop]
          show _ + 1 + _ ≤ _
          omega
      unfold b_ordered_r1
      get_elem_tactic_trivial
      rw [e_len_lst get_l0]
      get_elem_tactic_trivial
      rw [List.length_map]
      have ins : (a < os.length → v < os.getD a 0) → isLst (.ref h.length) (h ++ [.lst (os.map rat)]) ∧ insertR (.ref h.length) [.int (a : Int), rat v] (h ++ [.lst (os.map rat)]) fun _ h1 => St (i + 1) [some (.ref n), some (.ref h.length), some (rat v), some (.int (a : Int))] h1 := fun hgt => by
        rw [e_isLst get_l0, e_insert get_l0]
        refine ⟨trivial, by rw [List.length_map]; omega, by omega, by omega, ?_⟩
        rw [set_l0, Int.toNat_natCast]
        have := put hgt
        rw [List.map_append, List.map_append, List.map_take, List.map_drop] at this
        exact this
      by_cases hae : (a : Int) = (os.length : Int)
      · rw [if_pos (by simpa using hae)]
        exact ins fun z => by omega
      · rw [if_neg (by simpa using hae)]
        have hal : a < os.length := by omega
        have eg := List.getElem?_eq_getElem hal
        rw [e_ix_lst get_l0 (atA_map eg)]
        refine ⟨plain_rat _ _, plain_rat _ _, ?_⟩
        rw [aeq_rat]
        have hgd : os.getD a 0 = os[a] := by
          rw [List.getD_eq_getElem?_getD, eg]
          rfl
        by_cases hev : os[a] = v
        · rw [if_neg (by simpa using hev), hSt]
          refine ⟨os, _, _, rfl, hst, fun q => ?_, by omega, rfl⟩
          rw [List.take_add_one, hv, List.mem_append, ← hm q]
          constructor
          · exact .inl
          · rintro (h | h)
            · exact h
            · have : q = v := by simpa using h
              rw [this, ← hev]
              exact List.getElem_mem _
        · rw [if_pos (by simpa using hev)]
          refine ins fun _ => ?_
          have := hgt hal
          rw [hgd] at this ⊢
          grind
    by_cases hal : (a : Int) < (os.length : Int)
    · rw [if_pos hal]
      have hal : a < os.length := by omega
      have eg := List.getElem?_eq_getElem hal
      rw [e_ix_lst get_l0 (atA_map eg)]
      have so := osz os[a] (List.getElem_mem _)
      refine ⟨os[a], v, rfl, rfl, by omega, ?_⟩
      get_elem_tactic_trivial
      by_cases hlv : os[a] < v
      · rw [if_pos hlv]
        refine ⟨fun σ h2 => h2 = h ++ [.lst (os.map rat)] ∧ σ = [some (.ref n), some (.ref h.length), some (rat v), some (.int ((a : Int) + 1))], fun σ h2 ⟨eh, es⟩ => ⟨os.length - (a + 1), by omega, eh, a + 1, by rw [es]; rfl, rfl, by omega, fun j hj => ?_⟩, ?_⟩
        · by_cases hja : j = a
          · subst hja
            rw [List.getD_eq_getElem?_getD, eg]
            exact hlv
          · exact hlt j (by omega)
        · unfold b_ordered_l1
          get_elem_tactic_trivial
      · rw [if_neg hlv]
        exact r1 fun o ho => by
          rw [eg] at ho
          cases ho
          exact hlv
    · rw [if_neg hal]
      exact r1 fun o ho => by
        have := (List.getElem?_eq_some_iff.mp ho).1
        omega
  · rw [hSt] at hI
    obtain ⟨os, a, b, rfl, hst, hm, hol, rfl⟩ := hI
    refine ⟨eo _, ?_⟩
    rw [List.length_map, List.take_length] at hm
    get_elem_tactic_trivial
    rw [List.length_map] at hol
    exact retG_of (q os hst hm hol)
theorem pure_run_widths (x : AV) (h : AH) (R : AK) (c1 : clH h) (c2 : clBs h.length [x] = true) (q : sp_run_widths [x] h R (fun _ _ => False)) :
    b_run_widths (ends (retG h R)) [some x, none, none, none, none] h := by
  obtain ⟨nm, line, gap, ws, rfl, ok, q⟩ := q
  have hle := ok.le
  unfold b_run_widths wordsV
  get_elem_tactic_trivial
  rw [List.length_map, x_for]
  unfold iRng1T
  get_elem_tactic_trivial
  rw [Int.toNat_natCast]
  refine ⟨by omega, by omega, ?_⟩
  refine ⟨fun i σ h' => ∃ (qs : List Rat) (a b : Option AV), h' = h ++ [.lst (qs.map rat)] ∧ (∀ q, q ∈ qs ↔ ∃ f k : Nat, f < i ∧ f + k + 1 < ws.length ∧ q = long gap ws f (k + 1)) ∧ qs.length ≤ 12 * i ∧ σ = [some (wordsV nm line gap ws), some (.int (ws.length : Int)), some (.ref h.length), a, b],
    ⟨[], _, _, rfl, fun q => ⟨by simp, fun ⟨f, k, h, _⟩ => by omega⟩, by simp, rfl⟩, fun i z σ h' hz ⟨qs, a, b, eh, hm, hl, es⟩ => ?_, fun σ h' ⟨qs, a, b, eh, hm, hl, es⟩ => ?_⟩
  · subst eh es
    obtain ⟨hi, rfl⟩ := zr_get hz
    rw [Int.zero_add]
    unfold b_run_widths_l2
    get_elem_tactic_trivial
    rw [x_for]
    unfold iRng2T
    get_elem_tactic_trivial
    refine ⟨⟨by omega, by omega, by omega, by omega⟩, ?_⟩
    rw [show ((ws.length : Int) - ((i : Int) + 1)).toNat = ws.length - (i + 1) by omega]
    refine ⟨fun j σ h2 => ∃ (qs : List Rat) (b : Option AV), h2 = h ++ [.lst (qs.map rat)] ∧ (∀ q, q ∈ qs ↔ ∃ f k : Nat, (f < i ∨ (f = i ∧ k < j)) ∧ f + k + 1 < ws.length ∧ q = long gap ws f (k + 1)) ∧ qs.length ≤ 12 * i + j ∧ σ = [some (wordsV nm line gap ws), some (.int (ws.length : Int)), some (.ref h.length), some (.int (i : Int)), b],
      ⟨qs, _, rfl, fun q => by rw [hm q]; exact ⟨fun ⟨f, k, h1, h2⟩ => ⟨f, k, .inl h1, h2⟩, fun ⟨f, k, h1, h2⟩ => ⟨f, k, by omega, h2⟩⟩, by omega, rfl⟩, fun j z σ h2 hz ⟨qs, b, eh, hm, hl, es⟩ => ?_, fun σ h2 ⟨qs, b, eh, hm, hl, es⟩ => ?_⟩
    · subst eh es
      obtain ⟨hj, rfl⟩ := zr_get hz
      unfold b_run_widths_l1
      get_elem_tactic_trivial
      rw [e_isLst get_l0]
      refine ⟨trivial, nm, line, gap, ws, rfl, ok, i, i + 1 + j, rfl, congrArg AV.int (by omega), by omega, by omega, ?_⟩
      dsimp only
      rw [e_append get_l0, set_l0, show i + 1 + j - i = j + 1 by omega]
      refine ⟨by rw [List.length_map]; omega, qs ++ [long gap ws i (j + 1)], _, by simp, fun q => ?_, by simp; omega, rfl⟩
      rw [List.mem_append, hm q, List.mem_singleton]
      constructor
      · rintro (⟨f, k, h1, h2⟩ | rfl)
        · exact ⟨f, k, by omega, h2⟩
        · exact ⟨i, j, by omega, by omega, rfl⟩
      · rintro ⟨f, k, h1, h2, rfl⟩
        by_cases hfk : f = i ∧ k = j
        · obtain ⟨rfl, rfl⟩ := hfk
          exact .inr rfl
        · exact .inl ⟨f, k, by omega, h2, rfl⟩
    · subst eh es
      rw [zr_len] at hm hl
      refine ⟨qs, _, _, rfl, fun q => ?_, by omega, rfl⟩
      rw [hm q]
      exact ⟨fun ⟨f, k, h1, h2, e⟩ => ⟨f, k, by omega, h2, e⟩, fun ⟨f, k, h1, h2, e⟩ => ⟨f, k, by omega, h2, e⟩⟩
  · subst eh es
    rw [zr_len] at hm hl
    unfold b_run_widths_r1
    get_elem_tactic_trivial
    refine ⟨h.length, qs, rfl, get_l0, by omega, fun q hq => ?_, fun os h1 h2 h3 => ?_⟩
    · obtain ⟨f, k, _, hfk, rfl⟩ := (hm q).mp hq
      have := sz_long ok.wi ok.ga f (k + 1)
      omega
    · rw [app_l, len_l0]
      refine ret_list (j1 := [AO.lst (qs.map rat)]) (j2 := []) c1 (by simp) (clBs_rats _) (q os ⟨h1, fun q => ?_, by omega⟩)
      rw [h2 q, hm q]
      exact ⟨fun ⟨f, k, _, h2, e⟩ => ⟨f, k, h2, e⟩, fun ⟨f, k, h2, e⟩ => ⟨f, k, by omega, h2, e⟩⟩
theorem clBs_steps {n : Nat} : ∀ l : List (Rat × Nat), clBs n (l.map stepV) = true
  | [] => rfl
  | s :: r => by
    show (clB n (stepV s) && clBs n (r.map stepV)) = true
    rw [clBs_steps r]
    rfl
theorem clB_steps {n : Nat} {l : List (Rat × Nat)} : clB n (stepsV l) = true := clBs_steps l
theorem cnt_le {w gap : Rat} {ws : List Rat} : cnt w gap ws ≤ ws.length + 1 := rows_len
theorem Cs.len {gap : Rat} {ws cs : List Rat} (C : Cs gap ws cs) {line : Rat} (ok : WordsOk line gap ws) : ∀ c ∈ cs, sz c ≤ 700 := fun c hc => by
  obtain ⟨f, k, h, rfl⟩ := (C.mem c).mp hc
  have := sz_long ok.wi ok.ga f (k + 1)
  have := ok.le
  omega
theorem pure_steps_of (x : AV) (h : AH) (R : AK) (c1 : clH h) (c2 : clBs h.length [x] = true) (q : sp_steps_of [x] h R (fun _ _ => False)) :
    b_steps_of (ends (retG h R)) [some x, none, none, none, none] h := by
  obtain ⟨nm, line, gap, ws, rfl, ok, q⟩ := q
  have hle := ok.le
  have hne := ok.ne
  unfold b_steps_of wordsV
  get_elem_tactic_trivial
  rw [List.length_map, x_for]
  unfold iSeqT
  get_elem_tactic_trivial
  refine ⟨nm, line, gap, ws, rfl, ok, fun cs C => ?_⟩
  get_elem_tactic_trivial
  refine ⟨fun i σ h' => ∃ (a b : Option AV), h' = h ++ [.lst ((steps gap ws cs i).map stepV), .lst (cs.map rat)] ∧ σ = [some (wordsV nm line gap ws), some (.ref h.length), some (.int ((pvw gap ws cs i : Nat) : Int)), a, b],
    ⟨_, _, rfl, rfl⟩, fun i z σ h' hz ⟨a, b, eh, es⟩ => ?_, fun σ h' ⟨a, b, eh, es⟩ => ?_⟩
  · subst eh es
    refine ⟨get_l1, ?_⟩
    obtain ⟨c, hc, rfl⟩ := map_get hz
    have hi : i < cs.length := (List.getElem?_eq_some_iff.mp hc).1
    have ec : cs.getD i 0 = c := by
      rw [List.getD_eq_getElem?_getD, hc]
      rfl
    have sc := C.len ok c (get_mem hc)
    have sl := steps_le (gap := gap) (ws := ws) (cs := cs) i
    unfold b_steps_of_l1
    get_elem_tactic_trivial
    refine ⟨nm, line, gap, ws, c, rfl, rfl, ok, by omega, ?_⟩
    unfold rowsV
    get_elem_tactic_trivial
    rw [List.length_map]
    show if (((cnt c gap ws : Nat) : Int) == ((pvw gap ws cs i : Nat) : Int)) = false then _ else _
    have e1 : steps gap ws cs (i + 1) = steps gap ws cs i ++ (if cnt c gap ws ≠ pvw gap ws cs i then [(c, cnt c gap ws)] else []) := by
      rw [← ec]
      rfl
    have e2 : pvw gap ws cs (i + 1) = cnt c gap ws := by rw [pvw_succ, ec]
    by_cases hcp : cnt c gap ws = pvw gap ws cs i
    · rw [if_neg (by rw [hcp, beq_self_eq_true]; decide)]
      rw [if_neg (by simpa using hcp), List.append_nil] at e1
      rw [e1, e2, ← hcp]
      exact ⟨_, _, rfl, rfl⟩
    · rw [if_pos (by rw [beq_eq_false_iff_ne]; exact fun z => hcp (Int.ofNat.inj z))]
      rw [if_pos hcp] at e1
      rw [e_isLst get_l0, e_append get_l0, set_l0, e1, e2]
      refine ⟨trivial, by rw [List.length_map]; have := C.few; omega, _, _, ?_, rfl⟩
      rw [List.map_append]
      rfl
  · subst eh es
    rw [List.length_map]
    unfold b_steps_of_r1
    get_elem_tactic_trivial
    rw [e_tuple_lst get_l0]
    exact ret_ext c1 (Ext.refl.app _) clB_steps (q cs C)
/-! ### lines counted in whole numbers -/
theorem pure_law_count (x y z : AV) (h : AH) (R : AK) (c1 : clH h) (c2 : clBs h.length [x, y, z] = true) (q : sp_law_count [x, y, z] h R (fun _ _ => False)) :
    b_law_count (ends (retG h R)) [some x, some y, some z, none, none, none, none] h := by
  obtain ⟨n, w0, line, gap, ws, B, ss, sg, sw, W, w, ok, rfl, S, rfl, rfl, hW, q⟩ := q
  have hle := ok.le
  have hne := ok.ne
  unfold b_law_count
  get_elem_tactic_trivial
  obtain ⟨t, t1, t2, t3⟩ := S.item (i := 0) (by omega)
  have t2 : atA (ss.map AV.int) 0 = some (.int t) := t2
  rw [e_ix_lst S.at_ t2, x_for]
  unfold iRng2T
  get_elem_tactic_trivial
  refine ⟨⟨by omega, by omega, by omega, by omega⟩, ?_⟩
  rw [show ((ws.length : Int) - 1).toNat = ws.length - 1 by omega]
  refine ⟨fun i σ h' => h' = h ∧ ∃ (tot : Int) (a b : Option AV), (tot : Rat) = long gap ws (gs w gap ws (i + 1)).2 (i - (gs w gap ws (i + 1)).2) * (B : Rat) ∧ σ = [some (.ref n), some (.int (ws.length : Int)), some (.int W), some (.int (((gs w gap ws (i + 1)).1 : Nat) : Int)), some (.int tot), a, b],
    ⟨rfl, t, _, _, by rw [t3]; rfl, rfl⟩, fun i z σ h' hz ⟨eh, tot, a, b, ht, es⟩ => ?_, fun σ h' ⟨eh, tot, a, b, ht, es⟩ => ?_⟩
  · subst eh es
    obtain ⟨hi, rfl⟩ := zr_get hz
    have st := (gs_st (width := w) (gap := gap) (ws := ws) (i + 1) (by omega)).1
    obtain ⟨u, u1, u2, u3⟩ := S.item (i := i + 1) (by omega)
    have ei : (1 + (i : Int)) = ((i + 1 : Nat) : Int) := by omega
    have nx := gs_succ (width := w) (gap := gap) (ws := ws) (i := i + 1) (by omega)
    have e3 : long gap ws (gs w gap ws (i + 1)).2 (i + 1 - (gs w gap ws (i + 1)).2) = long gap ws (gs w gap ws (i + 1)).2 (i - (gs w gap ws (i + 1)).2) + (gap + ws.getD (i + 1) 0) := by
      generalize (gs w gap ws (i + 1)).2 = s at st
      obtain ⟨k, rfl⟩ : ∃ k, i = s + k := ⟨i - s, by omega⟩
      rw [show s + k + 1 - s = k + 1 by omega, show s + k - s = k by omega]
      rfl
    have ht2 : ((tot + sg + u : Int) : Rat) = long gap ws (gs w gap ws (i + 1)).2 (i + 1 - (gs w gap ws (i + 1)).2) * (B : Rat) := by
      rw [e3, Rat.intCast_add, Rat.intCast_add, ht, S.g, u3]
      grind
    have le := cast_mul_le S.pos ht2 hW
    unfold b_law_count_l1
    get_elem_tactic_trivial
    rw [ei, e_ix_lst S.at_ S.ig]
    get_elem_tactic_trivial
    rw [e_ix_lst S.at_ u2]
    get_elem_tactic_trivial
    by_cases hf : tot + sg + u ≤ W
    · rw [if_pos hf]
      rw [if_pos (le.mp hf)] at nx
      rw [nx]
      exact ⟨_, _, _, ht2, rfl⟩
    · rw [if_neg hf, e_ix_lst S.at_ u2]
      rw [if_neg (fun z => hf (le.mpr z))] at nx
      rw [nx]
      refine ⟨rfl, u, some (.int ((i + 1 : Nat) : Int)), some (.int (tot + sg + u)), ?_, rfl⟩
      show (u : Rat) = long gap ws (i + 1) (i + 1 - (i + 1)) * (B : Rat)
      rw [Nat.sub_self, u3]
      rfl
  · subst eh es
    rw [zr_len, show ws.length - 1 + 1 = ws.length by omega]
    get_elem_tactic_trivial
    rw [cnt_gs (by omega)] at q
    exact retG_of q
/-! ### the common part -/
theorem lcmB_snoc (qs : List Rat) (q : Rat) : lcmB (qs ++ [q]) = lcmB qs * ((q.den : Int) / (((lcmB qs).natAbs.gcd ((q.den : Int)).natAbs : Nat) : Int)) := by
  unfold lcmB
  rw [List.foldl_append]
  rfl
theorem lcmB_take {qs : List Rat} {i : Nat} {q : Rat} (h : qs[i]? = some q) : lcmB (qs.take (i + 1)) = lcmB (qs.take i) * ((q.den : Int) / (((lcmB (qs.take i)).natAbs.gcd ((q.den : Int)).natAbs : Nat) : Int)) := by
  rw [List.take_add_one, h]
  exact lcmB_snoc _ _
theorem lcmB_pos (qs : List Rat) : ∀ i, i ≤ qs.length → 0 < lcmB (qs.take i)
  | 0, _ => by
    show (0 : Int) < 1
    decide
  | i + 1, hi => by
    rw [lcmB_take (List.getElem?_eq_getElem (by omega))]
    exact (lcm_step (lcmB_pos qs i (by omega))).1
theorem lcmB_sz {qs : List Rat} {m : Nat} (h : ∀ q ∈ qs, sz q ≤ m) : ∀ i, i ≤ qs.length → isz (lcmB (qs.take i)) ≤ 1 + m * i
  | 0, _ => by
    show isz 1 ≤ _
    exact Nat.le_trans (by decide) (Nat.le_add_right _ _)
  | i + 1, hi => by
    have ih := lcmB_sz h i (by omega)
    have hq := List.getElem?_eq_getElem (l := qs) (i := i) (by omega)
    rw [lcmB_take hq]
    have s0 := h qs[i] (List.getElem_mem _)
    have s1 := sz_den qs[i]
    have s2 := isz_div (qs[i].den : Int) ((lcmB (qs.take i)).natAbs.gcd ((qs[i].den : Int)).natAbs)
    have s3 := isz_mul (lcmB (qs.take i)) ((qs[i].den : Int) / (((lcmB (qs.take i)).natAbs.gcd ((qs[i].den : Int)).natAbs : Nat) : Int))
    rw [Nat.mul_succ]
    omega
/-- a whole number more changes nothing -/
theorem lcmB_zero (ws : List Rat) (gap : Rat) : lcmB (ws ++ [gap, 0]) = lcmB (ws ++ [gap]) := by
  rw [show ws ++ [gap, 0] = (ws ++ [gap]) ++ [0] by simp, lcmB_snoc]
  generalize lcmB (ws ++ [gap]) = b
  show b * (1 / ((b.natAbs.gcd 1 : Nat) : Int)) = b
  rw [Nat.gcd_one_right]
  show b * (1 / 1) = b
  rw [Int.ediv_self (by decide), Int.mul_one]
theorem pure_law_below (x : AV) (h : AH) (R : AK) (c1 : clH h) (c2 : clBs h.length [x] = true) (q : sp_law_below [x] h R (fun _ _ => False)) :
    b_law_below (ends (retG h R)) [some x, none, none] h := by
  obtain ⟨nm, line, gap, ws, rfl, ok, q⟩ := q
  have hle := ok.le
  obtain ⟨qs, hqs⟩ : ∃ qs, qs = ws ++ [gap] := ⟨_, rfl⟩
  have hl : qs.length = ws.length + 1 := by simp [hqs]
  have hq : ∀ q ∈ qs, sz q ≤ 24 := by
    intro q hq
    rw [hqs] at hq
    rcases List.mem_append.mp hq with hq | hq
    · exact ok.wi q hq
    · rw [List.mem_singleton.mp hq]
      exact ok.ga
  unfold b_law_below wordsV
  get_elem_tactic_trivial
  rw [x_for]
  unfold iSeqT
  get_elem_tactic_trivial
  rw [e_add_lst get_l0 get_l1]
  refine ⟨by rw [List.length_map, List.length_cons, List.length_nil]; omega, ?_⟩
  have em : ws.map rat ++ [rat gap] = qs.map rat := by simp [hqs]
  rw [em]
  get_elem_tactic_trivial
  refine ⟨fun i σ h' => h' = h ++ [AO.lst (ws.map rat), .lst [rat gap], .lst (qs.map rat)] ∧ ∃ (k : Option AV), σ = [some (wordsV nm line gap ws), some (.int (lcmB (qs.take i))), k], ⟨rfl, _, rfl⟩, fun i z σ h' hz ⟨eh, k, es⟩ => ?_, fun σ h' ⟨eh, k, es⟩ => ?_⟩
  · subst eh es
    refine ⟨get_l2, ?_⟩
    obtain ⟨p, hp, rfl⟩ := map_get hz
    have hi : i < qs.length := (List.getElem?_eq_some_iff.mp hp).1
    have hpm := hq p (get_mem hp)
    have pd := sz_den p
    have hs := lcmB_sz hq i (by omega)
    have e2 := lcmB_take hp
    have pos := lcmB_pos qs i (by omega)
    unfold b_law_below_l1 rat
    get_elem_tactic_trivial
    rw [e2]
    generalize lcmB (qs.take i) = B at hs pos
    have gb := gcd_bound (n := B) (d := (p.den : Int)) (by have := den_pos p; omega) (by omega)
    have s1 := isz_div (p.den : Int) (B.natAbs.gcd ((p.den : Int)).natAbs)
    exact ⟨B, (p.den : Int), rfl, rfl, by omega, by omega, gb, mulOk_of (n := 20000) (by omega) (by decide), rfl, _, rfl⟩
  · subst eh es
    refine ⟨get_l2, ?_⟩
    rw [List.length_map, List.take_length, hqs]
    get_elem_tactic_trivial
    exact ret_cut c1 rfl q
/-! ### the widths at which the lines change -/
theorem szok_of {h : AH} {n : Nat} {width gap : Rat} {ws : List Rat} {B : Int} {ss : List Int} (e1 : h[n]? = some (.lst (ss.map AV.int))) (hB : 0 < B) (hsl : ss.length = ws.length + 2) (hss : ∀ (i : Nat) q, (ws ++ [gap, width])[i]? = some q → ∃ s, ss[i]? = some s ∧ (s : Rat) = q * (B : Rat)) :
    ∃ sg sw, SzOk h n width gap ws B ss sg sw := by
  obtain ⟨sg, g1, g2⟩ := hss ws.length gap (by simp)
  obtain ⟨sw, w1, w2⟩ := hss (ws.length + 1) width (by simp)
  exact ⟨sg, sw, e1, hB, hsl, g2, w2, atA_m2 (by rw [List.length_map]; omega) (by rw [List.length_map, List.getElem?_map, hsl, Nat.add_sub_cancel, g1]; rfl),
    atA_m1 (by rw [List.length_map, List.getElem?_map, hsl, show ws.length + 2 - 1 = ws.length + 1 by omega, w1]; rfl), fun i w hi => by
      obtain ⟨s, h1, h2⟩ := hss i w (by rw [List.getElem?_append_left (List.getElem?_eq_some_iff.mp hi).1]; exact hi)
      exact ⟨s, h1, h2⟩⟩
theorem SzOk.to {h h' : AH} {n : Nat} {width gap : Rat} {ws : List Rat} {B : Int} {ss : List Int} {sg sw : Int} (S : SzOk h n width gap ws B ss sg sw) (e : h'[n]? = some (.lst (ss.map AV.int))) : SzOk h' n width gap ws B ss sg sw :=
  { S with at_ := e }
theorem div_mulB {K B : Int} (hB : 0 < B) : (K : Rat) / (B : Rat) * (B : Rat) = (K : Rat) := Rat.div_mul_cancel (fun z => by
  have := Rat.intCast_eq_zero_iff.mp z
  omega)
theorem eq_divB {K B : Int} {q : Rat} (hB : 0 < B) (h : (K : Rat) = q * (B : Rat)) : q = (K : Rat) / (B : Rat) := by
  rw [h]
  exact (Rat.mul_div_cancel (fun z => by
    have := Rat.intCast_eq_zero_iff.mp z
    omega)).symm
theorem lt_divB {K M B : Int} (hB : 0 < B) : (K : Rat) / (B : Rat) < (M : Rat) / (B : Rat) ↔ K < M := by
  have h1 := cast_mul_le hB (div_mulB (K := M) hB).symm (div_mulB (K := K) hB).symm
  rw [← Rat.not_le, ← h1]
  omega
theorem le_divB {K M B : Int} (hB : 0 < B) : (K : Rat) / (B : Rat) ≤ (M : Rat) / (B : Rat) ↔ K ≤ M := (cast_mul_le hB (div_mulB hB).symm (div_mulB hB).symm).symm
/-- keys in order are the candidates in order -/
theorem cs_of {gap : Rat} {ws : List Rat} {B2 : Int} {ks ys : List Int} (hB : 0 < B2) (hn : ks.Nodup) (hl : ks.length ≤ 1000) (hp : ys.Perm ks) (hs : ys.Pairwise (· ≤ ·)) (hm : ∀ K : Int, K ∈ ks ↔ ∃ f k : Nat, f + k + 1 < ws.length ∧ (K : Rat) = long gap ws f (k + 1) * (B2 : Rat))
    (hi : ∀ f k : Nat, f + k < ws.length → ∃ K : Int, (K : Rat) = long gap ws f k * (B2 : Rat)) : Cs gap ws (ys.map fun (K : Int) => (K : Rat) / (B2 : Rat)) := by
  refine ⟨?_, fun q => ?_, by rw [List.length_map, hp.length_eq]; exact hl⟩
  · rw [List.pairwise_map]
    have hn2 : ys.Pairwise (· ≠ ·) := hp.nodup_iff.mpr hn
    refine (hs.and hn2).imp fun {a b} z => ?_
    rw [lt_divB hB]
    have z1 := z.1
    have z2 := z.2
    omega
  · rw [List.mem_map]
    constructor
    · rintro ⟨K, hK, rfl⟩
      obtain ⟨f, k, h1, h2⟩ := (hm K).mp (hp.mem_iff.mp hK)
      exact ⟨f, k, h1, (eq_divB hB h2).symm⟩
    · rintro ⟨f, k, h1, rfl⟩
      obtain ⟨K, hK⟩ := hi f (k + 1) (by omega)
      exact ⟨K, hp.mem_iff.mpr ((hm K).mpr ⟨f, k, h1, hK⟩), (eq_divB hB hK).symm⟩
theorem pure_law_changes (x : AV) (h : AH) (R : AK) (c1 : clH h) (c2 : clBs h.length [x] = true) (q : sp_law_changes [x] h R (fun _ _ => False)) :
    b_law_changes (ends (retG h R)) [some x, none, none, none, none, none, none, none, none, none, none] h := by
  obtain ⟨nm, line, gap, ws, rfl, ok, q⟩ := q
  have hle := ok.le
  have hne := ok.ne
  obtain ⟨W, hW⟩ : ∃ W, W = wordsV nm line gap ws := ⟨_, rfl⟩
  have hW4 : ∀ (h : AH) (Q : AK), ixR W (.int 4) h Q = Q (.tup (ws.map rat)) h := fun h Q => by rw [hW]; rfl
  unfold b_law_changes
  rw [← hW]
  get_elem_tactic_trivial
  rw [hW4]
  get_elem_tactic_trivial
  rw [List.length_map, x_lcT]
  unfold iSeqT
  get_elem_tactic_trivial
  refine ⟨nm, line, gap, ws, 0, hW, rfl, ok, by decide, fun B ss hB hsl hss hlb => ?_⟩
  get_elem_tactic_trivial
  have ss2 : ∃ ss2 : List Int, ss2 = ss.map (2 * ·) := ⟨_, rfl⟩
  obtain ⟨ss2, hss2⟩ := ss2
  unfold lcB
  refine lcT_map (h1 := h ++ [.lst (ss.map AV.int)]) (items := ss.map AV.int) (ys := ss2.map AV.int) (guard := fun h1 => h1[h.length]? = some (.lst (ss.map AV.int))) (fun K k => k) (by rw [hss2]; simp) (by rw [List.length_map]; omega) (fun _ => get_old get_l0) (fun i x y acc Q hx hy hQ => ?_) ?_
  · obtain ⟨v, hv, rfl⟩ := map_get hx
    obtain ⟨u, hu, rfl⟩ := map_get hy
    rw [hss2, List.getElem?_map, hv] at hu
    cases hu
    rw [app_l] at hQ
    get_elem_tactic_trivial
    exact ⟨.inl (.inl ⟨by decide, by decide⟩), hQ⟩
  rw [app_l, len_l0, x_dnew]
  get_elem_tactic_trivial
  obtain ⟨B2, hB2⟩ : ∃ B2, B2 = 2 * B := ⟨_, rfl⟩
  have hB20 : 0 < B2 := by omega
  have hB2R : (B2 : Rat) = 2 * (B : Rat) := by
    rw [hB2, Rat.intCast_mul]
    rfl
  obtain ⟨sg, sw, S⟩ := szok_of (h := h ++ [.lst (ss.map AV.int), .lst (ss2.map AV.int)]) (n := h.length + 1) (width := 0) (gap := gap) (ws := ws) (B := B2) (ss := ss2) get_l1 hB20 (by rw [hss2, List.length_map]; exact hsl) fun i q hq => by
    obtain ⟨s, s1, s2⟩ := hss i q hq
    refine ⟨2 * s, by rw [hss2, List.getElem?_map, s1]; rfl, ?_⟩
    rw [Rat.intCast_mul, s2, hB2R]
    show (2 : Rat) * _ = _
    grind
  obtain ⟨Hb, hHb⟩ : ∃ Hb, Hb = h ++ [AO.lst (ss.map AV.int), .lst (ss2.map AV.int)] := ⟨_, rfl⟩
  rw [← hHb] at S
  have lHb : Hb.length = h.length + 2 := by rw [hHb]; simp
  have eHb : h ++ [AO.lst (ss.map AV.int), .lst (ss2.map AV.int), .dct []] = Hb ++ [.dct (marks [])] := by rw [hHb, app_l]; rfl
  have exb : Ext h Hb := ⟨_, hHb⟩
  rw [eHb, show h.length + 1 + 1 = Hb.length by omega]
  have S0 : ∀ r, SzOk (Hb ++ r) (h.length + 1) 0 gap ws B2 ss2 sg sw := fun r => S.to (get_old S.at_)
  rw [x_for]
  unfold iRng1T
  get_elem_tactic_trivial
  rw [Int.toNat_natCast]
  refine ⟨by omega, by omega, ?_⟩
  refine ⟨fun i σ h' => ∃ (ks : List Int) (a b c : Option AV), h' = Hb ++ [.dct (marks ks)] ∧ ks.Nodup ∧ (∀ K : Int, K ∈ ks ↔ ∃ f k : Nat, f < i ∧ f + k + 1 < ws.length ∧ (K : Rat) = long gap ws f (k + 1) * (B2 : Rat)) ∧ ks.length ≤ 12 * i ∧
      σ = [some W, some (.int (ws.length : Int)), some (.ref (h.length + 1)), some (.ref Hb.length), a, b, c, none, none, none, none],
    ⟨[], _, _, _, rfl, List.nodup_nil, fun K => ⟨by simp, fun ⟨f, k, h, _⟩ => by omega⟩, by simp, rfl⟩, fun i z σ h' hz ⟨ks, a, b, c, eh, hnd, hm, hl, es⟩ => ?_, fun σ h' ⟨ks, a, b, c, eh, hnd, hm, hl, es⟩ => ?_⟩
  · subst eh es
    obtain ⟨hi, rfl⟩ := zr_get hz
    rw [Int.zero_add]
    obtain ⟨t, t1, t2, t3⟩ := S.item hi
    unfold b_law_changes_l2
    get_elem_tactic_trivial
    rw [e_ix_lst (S0 _).at_ t2, x_for]
    unfold iRng2T
    get_elem_tactic_trivial
    refine ⟨⟨by omega, by omega, by omega, by omega⟩, ?_⟩
    rw [show ((ws.length : Int) - ((i : Int) + 1)).toNat = ws.length - (i + 1) by omega]
    refine ⟨fun j σ h2 => ∃ (ks : List Int) (tot : Int) (c : Option AV), h2 = Hb ++ [.dct (marks ks)] ∧ ks.Nodup ∧ (∀ K : Int, K ∈ ks ↔ ∃ f k : Nat, (f < i ∨ (f = i ∧ k < j)) ∧ f + k + 1 < ws.length ∧ (K : Rat) = long gap ws f (k + 1) * (B2 : Rat)) ∧ ks.length ≤ 12 * i + j ∧ (tot : Rat) = long gap ws i j * (B2 : Rat) ∧
        σ = [some W, some (.int (ws.length : Int)), some (.ref (h.length + 1)), some (.ref Hb.length), some (.int (i : Int)), some (.int tot), c, none, none, none, none],
      ⟨ks, t, _, rfl, hnd, fun q => by rw [hm q]; exact ⟨fun ⟨f, k, h1, h2⟩ => ⟨f, k, .inl h1, h2⟩, fun ⟨f, k, h1, h2⟩ => ⟨f, k, by omega, h2⟩⟩, by omega, t3, rfl⟩, fun j z σ h2 hz ⟨ks, tot, c, eh, hnd, hm, hl, ht, es⟩ => ?_, fun σ h2 ⟨ks, tot, c, eh, hnd, hm, hl, ht, es⟩ => ?_⟩
    · subst eh es
      obtain ⟨hj, rfl⟩ := zr_get hz
      obtain ⟨u, u1, u2, u3⟩ := S.item (i := i + 1 + j) (by omega)
      have ei : ((i : Int) + 1 + (j : Int)) = ((i + 1 + j : Nat) : Int) := by omega
      have ht2 : ((tot + sg + u : Int) : Rat) = long gap ws i (j + 1) * (B2 : Rat) := by
        have e : long gap ws i (j + 1) = long gap ws i j + (gap + ws.getD (i + 1 + j) 0) := by
          show _ + (gap + ws.getD (i + j + 1) 0) = _
          rw [show i + j + 1 = i + 1 + j by omega]
        rw [e, Rat.intCast_add, Rat.intCast_add, ht, S.g, u3]
        grind
      unfold b_law_changes_l1
      get_elem_tactic_trivial
      rw [ei, e_ix_lst (S0 _).at_ S.ig]
      get_elem_tactic_trivial
      rw [e_ix_lst (S0 _).at_ u2]
      get_elem_tactic_trivial
      rw [e_set_dct get_l0, set_l0, marks_put]
      have hinj : ∀ f k : Nat, ((tot + sg + u : Int) : Rat) = long gap ws f (k + 1) * (B2 : Rat) → True := fun _ _ _ => trivial
      refine ⟨by unfold marks; rw [List.length_map]; omega, _, _, _, rfl, ?_, fun K => ?_, ?_, ht2, rfl⟩
      · split
        · exact hnd
        · rename_i hk
          rw [List.nodup_append]
          exact ⟨hnd, by simp, fun x hx y hy => by
            rw [List.mem_singleton.mp hy]
            rintro rfl
            exact hk hx⟩
      · have hK : (K ∈ if tot + sg + u ∈ ks then ks else ks ++ [tot + sg + u]) ↔ K ∈ ks ∨ K = tot + sg + u := by
          split
          · rename_i hk
            constructor
            · exact .inl
            · rintro (h | rfl)
              · exact h
              · exact hk
          · rw [List.mem_append, List.mem_singleton]
        rw [hK, hm K]
        constructor
        · rintro (⟨f, k, h1, h2⟩ | rfl)
          · exact ⟨f, k, by omega, h2⟩
          · exact ⟨i, j, by omega, by omega, ht2⟩
        · rintro ⟨f, k, h1, h2, e⟩
          by_cases hfk : f = i ∧ k = j
          · obtain ⟨rfl, rfl⟩ := hfk
            rw [← ht2] at e
            exact .inr (Rat.intCast_inj.mp e)
          · exact .inl ⟨f, k, by omega, h2, e⟩
      · split
        · omega
        · rw [List.length_append, List.length_cons, List.length_nil]
          omega
    · subst eh es
      rw [zr_len] at hm hl
      refine ⟨ks, _, _, _, rfl, hnd, fun q => ?_, by omega, rfl⟩
      rw [hm q]
      exact ⟨fun ⟨f, k, h1, h2, e⟩ => ⟨f, k, by omega, h2, e⟩, fun ⟨f, k, h1, h2, e⟩ => ⟨f, k, by omega, h2, e⟩⟩
  · subst eh es
    rw [zr_len] at hm hl
    unfold b_law_changes_r2
    get_elem_tactic_trivial
    rw [x_for]
    unfold iSeqT
    get_elem_tactic_trivial
    rw [e_sorted get_l0]
    refine ⟨ks, marks_keys ks, by omega, fun ys hp hs => ?_⟩
    have C := cs_of hB20 hnd (by omega) hp hs (fun K => by
      rw [hm K]
      exact ⟨fun ⟨f, k, _, h2, e⟩ => ⟨f, k, h2, e⟩, fun ⟨f, k, h2, e⟩ => ⟨f, k, by omega, h2, e⟩⟩) fun f k hfk => ⟨_, S.sum f k hfk⟩
    obtain ⟨cs, hcs⟩ : ∃ cs, cs = ys.map fun (K : Int) => (K : Rat) / (B2 : Rat) := ⟨_, rfl⟩
    rw [← hcs] at C
    have lcs : cs.length = ys.length := by rw [hcs, List.length_map]
    have few := C.few
    have getc : ∀ (j : Nat) (K : Int), ys[j]? = some K → cs.getD j 0 = (K : Rat) / (B2 : Rat) := fun j K hK => by
      rw [List.getD_eq_getElem?_getD, hcs, List.getElem?_map, hK]
      rfl
    get_elem_tactic_trivial
    refine ⟨fun i σ h' => ∃ (x8 x9 : Option AV), h' = Hb ++ [.dct (marks ks), .lst ((steps gap ws cs i).map stepV), .lst (ys.map AV.int)] ∧ σ = [some W, some (.int (ws.length : Int)), some (.ref (h.length + 1)), some (.ref Hb.length), a, b, c, some (.ref (Hb.length + 1)), x8, x9, none],
      ⟨_, _, rfl, rfl⟩, fun i z σ h' hz ⟨x8, x9, eh, es⟩ => ?_, fun σ h' ⟨x8, x9, eh, es⟩ => ?_⟩
    · subst eh es
      refine ⟨get_l2, ?_⟩
      obtain ⟨K, hK, rfl⟩ := map_get hz
      have hi : i < cs.length := by rw [lcs]; exact (List.getElem?_eq_some_iff.mp hK).1
      have ec := getc i K hK
      have sl := steps_le (gap := gap) (ws := ws) (cs := cs) i
      have e1 : steps gap ws cs (i + 1) = steps gap ws cs i ++ (if cnt ((K : Rat) / (B2 : Rat)) gap ws ≠ pvw gap ws cs i then [((K : Rat) / (B2 : Rat), cnt ((K : Rat) / (B2 : Rat)) gap ws)] else []) := by
        rw [← ec]
        rfl
      have ep : cnt (((K - 1 : Int) : Rat) / (B2 : Rat)) gap ws = pvw gap ws cs i := by
        have gK : ∀ j, j < cs.length → ∃ M : Int, cs.getD j 0 = (M : Rat) / (B2 : Rat) := fun j hj => by
          have hj2 : j < ys.length := by omega
          exact ⟨ys[j], getc j _ (List.getElem?_eq_getElem hj2)⟩
        refine C.cnt (by omega) (by omega) (fun j hj => ?_) fun j j1 j2 => ?_
        · obtain ⟨M, hM⟩ := gK j (by omega)
          have := C.lt hj hi
          rw [hM, ec, lt_divB hB20] at this
          rw [hM, le_divB hB20]
          omega
        · obtain ⟨M, hM⟩ := gK j j2
          have := C.le j1 j2
          rw [hM, ec, le_divB hB20] at this
          rw [hM, lt_divB hB20]
          omega
      unfold b_law_changes_l3
      get_elem_tactic_trivial
      refine ⟨_, _, line, gap, ws, B2, ss2, sg, sw, K, (K : Rat) / (B2 : Rat), ok, rfl, S0 _, rfl, rfl, (div_mulB hB20).symm, ?_⟩
      get_elem_tactic_trivial
      refine ⟨_, _, line, gap, ws, B2, ss2, sg, sw, K - 1, ((K - 1 : Int) : Rat) / (B2 : Rat), ok, rfl, S0 _, rfl, rfl, (div_mulB hB20).symm, ?_⟩
      get_elem_tactic_trivial
      rw [ep]
      by_cases hcp : cnt ((K : Rat) / (B2 : Rat)) gap ws = pvw gap ws cs i
      · rw [if_neg (by rw [hcp, beq_self_eq_true]; decide)]
        rw [if_neg (by simpa using hcp), List.append_nil] at e1
        rw [e1]
        exact ⟨_, _, rfl, rfl⟩
      · rw [if_pos (by rw [beq_eq_false_iff_ne]; exact fun z => hcp (Int.ofNat.inj z))]
        rw [if_pos hcp] at e1
        rw [e_isLst get_l1]
        have hlq : ∀ q ∈ ws ++ [gap], sz q ≤ 24 := fun q hq => by
          rcases List.mem_append.mp hq with hq | hq
          · exact ok.wi q hq
          · rw [List.mem_singleton.mp hq]
            exact ok.ga
        have hBl : B = lcmB (ws ++ [gap]) := by rw [hlb, lcmB_zero]
        have sB : isz (lcmB (ws ++ [gap])) ≤ 400 := by
          have := lcmB_sz hlq (ws ++ [gap]).length (Nat.le_refl _)
          rw [List.take_length, List.length_append] at this
          have e : (1 : Nat) = [gap].length := rfl
          rw [← e] at this
          omega
        have hB22 : 2 * lcmB (ws ++ [gap]) = B2 := by rw [← hBl, hB2]
        have sB2 : isz B2 ≤ 402 := by
          rw [← hB22]
          have := isz_mul 2 (lcmB (ws ++ [gap]))
          have : isz 2 = 2 := by decide
          omega
        have sc := C.len ok (cs.getD i 0) (by rw [getD_get hi]; exact List.getElem_mem _)
        have sK : isz K ≤ 2000 := by
          rw [ec] at sc
          generalize hc : (K : Rat) / (B2 : Rat) = c at sc
          have e1 : (K : Rat) = c * (B2 : Rat) := by rw [← hc, div_mulB hB20]
          have e2 : ((K * (c.den : Int) : Int) : Rat) = ((c.num * B2 : Int) : Rat) := by
            rw [Rat.intCast_mul, Rat.intCast_mul, ← mul_den c, e1]
            grind
          have e3 : K * (c.den : Int) = c.num * B2 := Rat.intCast_inj.mp e2
          have s1 := isz_mul c.num B2
          have s2 := sz_num c
          have s3 : isz K ≤ isz (c.num * B2) := by
            rw [← e3]
            refine isz_mono ?_
            rw [Int.natAbs_mul]
            have := den_pos c
            exact Nat.le_mul_of_pos_right _ (by omega)
          omega
        refine ⟨trivial, nm, line, gap, ws, hW, ok, ?_⟩
        get_elem_tactic_trivial
        refine ⟨.inl (.inl ⟨by decide, by decide⟩), ?_⟩
        rw [hB22]
        refine ⟨K, B2, rfl, rfl, by omega, by omega, by omega, ?_⟩
        dsimp only
        rw [e_append get_l1, set_l1, Rat.divInt_eq_div, e1]
        refine ⟨by rw [List.length_map]; omega, _, _, ?_, rfl⟩
        rw [List.map_append]
        rfl
    · subst eh es
      rw [List.length_map, ← lcs]
      refine ⟨get_l2, ?_⟩
      unfold b_law_changes_r1
      get_elem_tactic_trivial
      rw [e_tuple_lst get_l1]
      exact ret_ext c1 (exb.app _) clB_steps (q cs C)
/-! ### steps told, steps read -/
theorem pure_law_is_steps (x y : AV) (h : AH) (R : AK) (c1 : clH h) (c2 : clBs h.length [x, y] = true) (q : sp_law_is_steps [x, y] h R (fun _ _ => False)) :
    b_law_is_steps (ends (retG h R)) [some x, some y, none, none] h := by
  obtain ⟨l, rfl, rfl, hs, q⟩ := q
  unfold b_law_is_steps stepsV
  get_elem_tactic_trivial
  rw [beq_self_eq_true, if_neg (by decide), x_for]
  unfold iZipT
  get_elem_tactic_trivial
  refine ⟨fun i σ h' => h' = h ∧ ∃ a b, σ = [some (stepsV l), some (stepsV l), a, b], ⟨rfl, _, _, rfl⟩, fun i z σ h' hz ⟨eh, a, b, es⟩ => ?_, fun σ h' ⟨eh, a, b, es⟩ => ?_⟩
  · subst eh es
    obtain ⟨y, hy, rfl⟩ := zip2_self _ hz
    obtain ⟨s, hs1, rfl⟩ := map_get hy
    have ss := hs s (get_mem hs1)
    unfold b_law_is_steps_l1 stepV
    get_elem_tactic_trivial
    rw [if_neg (by decide)]
    refine isRsp_rat (by omega) ?_
    get_elem_tactic_trivial
    refine ⟨trivial, ?_⟩
    simp only [isI]
    get_elem_tactic_trivial
    rw [aeq_rat, decide_eq_true rfl, if_neg (by decide), beq_self_eq_true, if_neg (by decide)]
    exact ⟨plain_rat _ _, plain_rat _ _, _, _, rfl⟩
  · subst eh es
    exact retG_of q
theorem pure_law_read (x y z : AV) (h : AH) (R : AK) (c1 : clH h) (c2 : clBs h.length [x, y, z] = true) (q : sp_law_read [x, y, z] h R (fun _ _ => False)) :
    b_law_read (ends (retG h R)) [some x, some y, some z, none, none] h := by
  obtain ⟨line, gap, ws, cs, width, ok, C, rfl, rfl, rfl, hw, q⟩ := q
  have hne := ok.ne
  rw [← rd_cnt C (by omega) width] at q
  have hmem := steps_mem (gap := gap) (ws := ws) (cs := cs) cs.length (Nat.le_refl _)
  generalize steps gap ws cs cs.length = l at hmem q c2
  unfold b_law_read
  get_elem_tactic_trivial
  rw [x_for, x_iseq_tup (xs := l.map stepV) (fun _ => rfl)]
  refine ⟨fun i σ h' => h' = h ∧ ∃ a, σ = [some (stepsV l), some (.int (ws.length : Int)), some (rat width), some (.int ((rdS width ws.length (l.take i) : Nat) : Int)), a], ⟨rfl, _, rfl⟩, fun i z σ h' hz ⟨eh, a, es⟩ => ⟨trivial, ?_⟩, fun σ h' ⟨eh, a, es⟩ => ⟨trivial, ?_⟩⟩
  · subst eh es
    obtain ⟨s, hs, rfl⟩ := map_get hz
    have sc := C.len ok s.1 (hmem s (get_mem hs))
    have e1 : rdS width ws.length (l.take (i + 1)) = if width < s.1 then rdS width ws.length (l.take i) else s.2 := by
      rw [List.take_add_one, hs]
      exact rdS_snoc
    unfold b_law_read_l1 stepV
    get_elem_tactic_trivial
    refine ⟨width, s.1, rfl, rfl, by omega, ?_⟩
    get_elem_tactic_trivial
    rw [e1]
    by_cases hlt : width < s.1
    · rw [if_neg (fun z => z hlt), if_pos hlt]
      exact ⟨_, rfl⟩
    · rw [if_pos hlt, if_neg hlt]
      exact ⟨_, rfl⟩
  · subst eh es
    rw [List.length_map, List.take_length]
    get_elem_tactic_trivial
    exact retG_of q
/-! ### the law -/
/-- what is asked: words with widths -/
def Ask (h : AH) (v : AV) : Prop := ∃ (s : Str) (line gap : Rat) (ws qs : List Rat) (m : Nat), v = .tup [wordsV (.str s) line gap ws, .ref m] ∧ WordsOk line gap ws ∧ h[m]? = some (.lst (qs.map rat)) ∧ qs.length ≤ 4 ∧ ∀ q ∈ qs, sz q ≤ 1000
theorem Ask.to {h h' : AH} {v : AV} {p : Nat} (a : Ask h v) (hp : ∀ u k, v = .tup [u, .ref k] → p < k) (f : ∀ k x, p < k → h[k]? = some x → h'[k]? = some x) : Ask h' v := by
  obtain ⟨s, line, gap, ws, qs, m, rfl, ok, e, hl, hq⟩ := a
  exact ⟨s, line, gap, ws, qs, m, rfl, ok, f m _ (hp _ _ rfl) e, hl, hq⟩
theorem pure_law (x : AV) (h : AH) (R : AK) (c1 : clH h) (c2 : clBs h.length [x] = true) (q : sp_law [x] h R (fun _ _ => False)) :
    b_law (ends (retG h R)) [some x, none, none, none, none, none, none, none, none, none, none] h := by
  obtain ⟨ns, rfl, hl, q⟩ := q
  unfold b_law
  get_elem_tactic_trivial
  refine ⟨ns, rfl, hl, ?_⟩
  get_elem_tactic_trivial
  have d0 : DrawAt (h ++ [.lst (ns.map AV.int), .lst [.ref h.length, .int 0, .int 0, .int 7, .int 3]]) (h.length + 1) := ⟨h.length, ns, 0, 0, 7, get_l1, get_l0, by omega⟩
  obtain ⟨n, hn⟩ : ∃ n, n = h.length + 1 := ⟨_, rfl⟩
  rw [← hn] at d0 ⊢
  refine ⟨n, _, 12, rfl, rfl, rfl, by decide, by decide, d0, fun line1 gap1 ws1 h1 ok1 d1 => ?_⟩
  get_elem_tactic_trivial
  refine ⟨n, _, 12, rfl, rfl, rfl, by decide, by decide, d1.at, fun line2 gap2 ws2 h2 ok2 d2 => ?_⟩
  get_elem_tactic_trivial
  have hn2 := d2.at.lt
  obtain ⟨b, hb⟩ : ∃ b, b = h2.length := ⟨_, rfl⟩
  obtain ⟨w1, hw1⟩ : ∃ w1, w1 = wordsV (.str "w") line1 gap1 ws1 := ⟨_, rfl⟩
  obtain ⟨w2, hw2⟩ : ∃ w2, w2 = wordsV (.str "w") line2 gap2 ws2 := ⟨_, rfl⟩
  have two : ∀ v ∈ [w1, w2], ∃ s line gap ws, v = wordsV (.str s) line gap ws ∧ WordsOk line gap ws := fun v hv => by
    simp only [List.mem_cons, List.not_mem_nil, or_false] at hv
    rcases hv with rfl | rfl
    · exact ⟨_, _, _, _, hw1, ok1⟩
    · exact ⟨_, _, _, _, hw2, ok2⟩
  rw [← hw1, ← hw2, ← hb]
  have gb : (h2 ++ [AO.lst [w1, w2], .lst []])[b]? = some (.lst [w1, w2]) := by rw [hb]; exact get_l0
  rw [x_for, x_iseq (n := b) (fun _ => rfl) gb]
  obtain ⟨St, hSt⟩ : ∃ St : Nat → ASt → AH → Prop, St = fun m σ h' => ∃ (x4 x5 : Option AV) (ps : List AV), σ = [some (.rol (ns.map AV.int)), some (.ref n), some (.ref b), some (.ref (b + 1)), x4, x5, none, none, none, none, none] ∧ DrawAt h' n ∧ h'[b]? = some (.lst [w1, w2]) ∧ h'[b + 1]? = some (.lst ps) ∧ ps.length = m ∧ (∀ v ∈ ps, Ask h' v) ∧ ∀ v ∈ ps, ∀ u k, v = .tup [u, .ref k] → b + 1 < k := ⟨_, rfl⟩
  refine ⟨St, ?_, fun i z σ h' hz hI => ?_, fun σ h' hI => ?_⟩
  · rw [hSt]
    exact ⟨_, _, [], rfl, d2.at.app _, gb, by rw [hb]; exact get_l1, rfl, by simp, by simp⟩
  · rw [hSt] at hI ⊢
    obtain ⟨x4, x5, ps, rfl, da, g1, g2, hm, hps, hk⟩ := hI
    refine ⟨g1, ?_⟩
    have hi2 : i < 2 := (List.getElem?_eq_some_iff.mp hz).1
    obtain ⟨s, line, gap, ws, rfl, ok⟩ := two z (get_mem hz)
    unfold b_law_l1
    get_elem_tactic_trivial
    rw [e_isLst g2]
    refine ⟨trivial, ?_⟩
    refine lcT_draw (h1 := h') (n := n) (items := zrange 0 4) (guard := fun _ => True) (fun ys => ∃ qs : List Rat, ys = qs.map rat ∧ ∀ q ∈ qs, sz q ≤ 1000) da (fun K kk => ⟨by decide, by decide, kk⟩) (by rw [zr_len]; decide) (fun _ _ => trivial) ⟨[], rfl, by simp⟩ (fun i x acc h3 Q hx hi ⟨qs, e, hw⟩ d3 hq => ?_) (fun ys h3 ⟨qs, e, hw⟩ hl d3 => ?_)
    · get_elem_tactic_trivial
      refine ⟨n, rfl, d3.at.app _, _, line, gap, ws, rfl, ok, fun w h4 hw4 d4 => ?_⟩
      obtain ⟨h5, rfl, d5⟩ := d4.cut d3.at.lt
      refine hq _ _ ⟨qs ++ [w], by simp [e], fun q hq => ?_⟩ d5
      rcases List.mem_append.mp hq with hq | hq
      · exact hw q hq
      · rw [List.mem_singleton.mp hq]
        exact hw4
    · subst e
      rw [List.length_map, zr_len] at hl
      have l2 := get_lt g2
      have g3 : h3[b + 1]? = some (.lst ps) := by
        rw [d3.get (by omega)]
        exact g2
      have hl3 : h3.length = h'.length := d3.1
      rw [e_append (get_old g3)]
      refine ⟨by omega, _, _, ps ++ [.tup [wordsV (.str s) line gap ws, .ref h'.length]], rfl, (d3.at.app _).set (by omega), get_set (get_old (by rw [d3.get (by omega)]; exact g1)) (by omega), set_at (get_old g3), by rw [List.length_append, hm]; rfl, fun v hv => ?_, fun v hv u k e => ?_⟩
      · rcases List.mem_append.mp hv with hv | hv
        · refine (hps v hv).to (hk v hv) fun k x hk1 e => ?_
          refine get_set (get_old ?_) (by omega)
          rw [d3.get (by omega)]
          exact e
        · rw [List.mem_singleton.mp hv]
          exact ⟨s, line, gap, ws, qs, _, rfl, ok, get_set (by rw [← hl3]; exact get_l0) (by omega), by omega, hw⟩
      · rcases List.mem_append.mp hv with hv | hv
        · exact hk v hv u k e
        · rw [List.mem_singleton.mp hv] at e
          cases e
          omega
  · rw [hSt] at hI
    obtain ⟨x4, x5, ps, rfl, da, g1, g2, hm, hps, hk⟩ := hI
    refine ⟨g1, ?_⟩
    have hm : ps.length = 2 := hm
    have l1 := get_lt g1
    have l2 := get_lt g2
    unfold b_law_r1
    get_elem_tactic_trivial
    rw [e_isLst g2, e_ix_lst g1 (v := w1) rfl]
    refine ⟨trivial, ?_⟩
    rw [e_append (get_old g2)]
    refine ⟨by omega, ?_⟩
    obtain ⟨ps2, hps2⟩ : ∃ ps2, ps2 = ps ++ [.tup [w1, .ref h'.length]] := ⟨_, rfl⟩
    obtain ⟨H, hH⟩ : ∃ H, H = (h' ++ [AO.lst []]).set (b + 1) (.lst ps2) := ⟨_, rfl⟩
    have gH : H[b + 1]? = some (.lst ps2) := by
      rw [hH]
      exact set_at (get_old g2)
    have ask : ∀ v ∈ ps2, Ask H v := fun v hv => by
      rw [hps2] at hv
      rw [hH]
      rcases List.mem_append.mp hv with hv | hv
      · exact (hps v hv).to (hk v hv) fun k x hk1 e => get_set (get_old e) (by omega)
      · rw [List.mem_singleton.mp hv, hw1]
        exact ⟨_, line1, gap1, ws1, [], _, rfl, ok1, get_set get_l0 (by omega), by simp, by simp⟩
    rw [← hps2, ← hH, x_for, x_iseq (n := b + 1) (fun _ => rfl) gH]
    refine ⟨fun i σ h3 => Ext H h3 ∧ ∃ x4 x5 x6 x7 x8 x9, σ = [some (.rol (ns.map AV.int)), some (.ref n), some (.ref b), some (.ref (b + 1)), x4, x5, x6, x7, x8, x9, none], ⟨Ext.refl, _, _, _, _, _, _, rfl⟩, fun i z σ h3 hz ⟨ex, x4, x5, x6, x7, x8, x9, es⟩ => ?_, fun σ h3 ⟨ex, x4, x5, x6, x7, x8, x9, es⟩ => ?_⟩
    · subst es
      refine ⟨by show h3[b + 1]? = _; rw [ex.get (get_lt gH)]; exact gH, ?_⟩
      obtain ⟨s, line, gap, ws, qs, m, rfl, ok, em, hql, hq⟩ := ask z (get_mem hz)
      have hne := ok.ne
      obtain ⟨W, hW⟩ : ∃ W, W = wordsV (.str s) line gap ws := ⟨_, rfl⟩
      have hW4 : ∀ (h : AH) (Q : AK), ixR W (.int 4) h Q = Q (.tup (ws.map rat)) h := fun h Q => by rw [hW]; rfl
      rw [← hW]
      have em3 : h3[m]? = some (.lst (qs.map rat)) := by rw [ex.get (get_lt em)]; exact em
      unfold b_law_l3
      get_elem_tactic_trivial
      refine ⟨_, line, gap, ws, hW, ok, fun cs C => ?_⟩
      get_elem_tactic_trivial
      refine ⟨_, line, gap, ws, hW, ok, fun cs' C' => ?_⟩
      obtain rfl := C.uniq C'
      refine ⟨_, rfl, rfl, fun t ht => ?_, ?_⟩
      · have := C.len ok t.1 (steps_mem cs.length (Nat.le_refl _) t ht)
        omega
      get_elem_tactic_trivial
      rw [hW4]
      get_elem_tactic_trivial
      rw [List.length_map, x_for, x_iseq (n := m) (fun _ => rfl) em3]
      refine ⟨fun j σ h4 => Ext h3 h4 ∧ ∃ x8 x9, σ = [some (.rol (ns.map AV.int)), some (.ref n), some (.ref b), some (.ref (b + 1)), some W, some (.ref m), some (stepsV (steps gap ws cs cs.length)), some (.int (ws.length : Int)), x8, x9, none], ⟨Ext.refl, _, _, rfl⟩, fun j z σ h4 hz ⟨ex4, x8, x9, es⟩ => ?_, fun σ h4 ⟨ex4, x8, x9, es⟩ => ?_⟩
      · subst es
        refine ⟨by show h4[m]? = _; rw [ex4.get (get_lt em3)]; exact em3, ?_⟩
        obtain ⟨width, hwd, rfl⟩ := map_get hz
        have sw := hq width (get_mem hwd)
        unfold b_law_l2
        get_elem_tactic_trivial
        refine ⟨_, line, gap, ws, width, hW, rfl, ok, sw, fun B ss hB hsl hss _ => ?_⟩
        get_elem_tactic_trivial
        obtain ⟨sg, sw2, S⟩ := szok_of (h := h4 ++ [.lst (ss.map AV.int)]) (n := h4.length) get_l0 hB hsl hss
        refine ⟨line, gap, ws, cs, width, ok, C, rfl, rfl, rfl, sw, ?_⟩
        get_elem_tactic_trivial
        rw [e_ix_lst get_l0 S.iw]
        refine ⟨_, _, line, gap, ws, B, ss, sg, sw2, sw2, width, ok, rfl, S, rfl, rfl, S.w, ?_⟩
        get_elem_tactic_trivial
        rw [beq_self_eq_true, if_neg (by decide)]
        exact ⟨ex4.app _, _, _, rfl⟩
      · subst es
        exact ⟨by show h4[m]? = _; rw [ex4.get (get_lt em3)]; exact em3, ex.trans ex4, _, _, _, _, _, _, rfl⟩
    · subst es
      get_elem_tactic_trivial
      exact ⟨by show h3[b + 1]? = _; rw [ex.get (get_lt gH)]; exact gH, retG_of (q _)⟩
end AL

namespace AL
open PySem PySem.Spec PyProof.Rows L2
def topS (i : Nat) : Stmt := PySem.Challenge.pw_wishpanes_k16_steps.main.body.getD i (.Pass ⟨0, 0, 0, 0⟩)
structure Txt (K : PySem.W.Frag) (mg : Str → Option Value) : Prop where
  abs : mg "abs" = none
  bool : mg "bool" = none
  enumerate : mg "enumerate" = none
  gcd : mg "gcd" = some (.builtin "math.gcd")
  int : mg "int" = none
  isinstance : mg "isinstance" = none
  len : mg "len" = none
  list : mg "list" = none
  range : mg "range" = none
  sorted : mg "sorted" = none
  tuple : mg "tuple" = none
  zip : mg "zip" = none
section
variable {P : Program} {w : World} {K : PySem.W.Frag} {mg : Str → Option Value} {base : Heap}
abbrev st_ratio : Stmt := topS 2
theorem sc_ratio : FnScope ["n", "d", "common"] ["n", "d"] (defScope st_ratio) := ⟨rfl, rfl, rfl, by decide +kernel, rfl, by decide +kernel, by decide +kernel⟩
theorem cal_ratio (T : Txt K mg) (DF : DefIs K mg "ratio" st_ratio) : Cal P w K mg base 1 "ratio" ["n", "d"] sp_ratio :=
  .mk_ DF (fun F => F.binds (fun _ _ _ _ _ _ us hl => match us, hl with | [_, _], _ => rfl)) fun F => okA F sc_ratio (fun _ _ _ _ q => A2_len q) (fun cdv A outer s H E hr =>
    (ass_cons (as_if (at_cmp op_ltA (ae_var 1 (pv 1)) ae_int (nomark _)) (ass_cons (as_set (i := 0) sc_ratio.nd rfl (Or.inl rfl) (ae_un un_negA (ae_var 0 (pv 0))))
    (ass_one (as_set (i := 1) sc_ratio.nd rfl (Or.inl rfl) (ae_un un_negA (ae_var 1 (pv 1)))))) ass_nil)
    (ass_cons (as_if (at_cmp (op_eqA hr.units) (ae_var 1 (pv 1)) ae_int (nomark _)) (ass_one (as_ret (ae_tup (aa_cons (ae_var 0 (pv 0)) (aa_cons ae_int aa_nil))))) ass_nil)
    (ass_cons (as_set (i := 2) sc_ratio.nd rfl (Or.inl rfl) (ae_callBfun call_gcdA (by rfl) T.gcd (aa_cons (ae_var 0 (pv 0)) (aa_cons (ae_var 1 (pv 1)) aa_nil))))
    (ass_cons (as_if (at_cmp (op_eqA hr.units) (ae_var 2 (pv 2)) ae_int (nomark _)) (ass_one (as_ret (ae_tup (aa_cons (ae_var 0 (pv 0)) (aa_cons (ae_var 1 (pv 1)) aa_nil))))) ass_nil)
    (ass_one (as_ret (ae_tup (aa_cons (ae_op op_fdivA (ae_var 0 (pv 0)) (ae_var 2 (pv 2))) (aa_cons (ae_op op_fdivA (ae_var 1 (pv 1)) (ae_var 2 (pv 2))) aa_nil))))))))))
    fun xs h R c1 c2 q => match xs, q with | [x0, x1], q => pure_ratio x0 x1 h R c1 c2 q
abbrev st_plus : Stmt := topS 3
theorem sc_plus : FnScope ["a", "b"] ["a", "b"] (defScope st_plus) := ⟨rfl, rfl, rfl, by decide +kernel, rfl, by decide +kernel, by decide +kernel⟩
theorem cal_plus (T : Txt K mg) (DF : DefIs K mg "plus" st_plus) (C_ratio : Cal P w K mg base 1 "ratio" ["n", "d"] sp_ratio) : Cal P w K mg base 2 "plus" ["a", "b"] sp_plus :=
  .mk_ DF (fun F => F.binds (fun _ _ _ _ _ _ us hl => match us, hl with | [_, _], _ => rfl)) fun F => okA F sc_plus (fun _ _ _ _ q => A2_len q) (fun cdv A outer s H E hr =>
    (ass_cons (as_if (at_w (aw_and (at_cmp (op_eqA hr.units) (ae_ix (ix_A (hu_of hr)) (ae_var 0 (pv 0)) ae_int (fun _ _ => rfl)) ae_int (nomark _)) (aw_and1 (at_cmp (op_eqA hr.units) (ae_ix (ix_A (hu_of hr)) (ae_var 1 (pv 1)) ae_int (fun _ _ => rfl)) ae_int (nomark _))))) (ass_one (as_ret (ae_tup (aa_cons (ae_op op_addA (ae_ix (ix_A (hu_of hr)) (ae_var 0 (pv 0)) ae_int (fun _ _ => rfl)) (ae_ix (ix_A (hu_of hr)) (ae_var 1 (pv 1)) ae_int (fun _ _ => rfl))) (aa_cons ae_int aa_nil))))) ass_nil)
    (ass_one (as_ret (ae_cal C_ratio (hr.mono (by decide)) (by rfl) (aa_cons (ae_op op_addA (ae_op op_mulA (ae_ix (ix_A (hu_of hr)) (ae_var 0 (pv 0)) ae_int (fun _ _ => rfl)) (ae_ix (ix_A (hu_of hr)) (ae_var 1 (pv 1)) ae_int (fun _ _ => rfl))) (ae_op op_mulA (ae_ix (ix_A (hu_of hr)) (ae_var 1 (pv 1)) ae_int (fun _ _ => rfl)) (ae_ix (ix_A (hu_of hr)) (ae_var 0 (pv 0)) ae_int (fun _ _ => rfl)))) (aa_cons (ae_op op_mulA (ae_ix (ix_A (hu_of hr)) (ae_var 0 (pv 0)) ae_int (fun _ _ => rfl)) (ae_ix (ix_A (hu_of hr)) (ae_var 1 (pv 1)) ae_int (fun _ _ => rfl))) aa_nil)))))))
    fun xs h R c1 c2 q => match xs, q with | [x0, x1], q => pure_plus x0 x1 h R c1 c2 q
abbrev st_less : Stmt := topS 4
theorem sc_less : FnScope ["a", "b"] ["a", "b"] (defScope st_less) := ⟨rfl, rfl, rfl, by decide +kernel, rfl, by decide +kernel, by decide +kernel⟩
theorem cal_less (T : Txt K mg) (DF : DefIs K mg "less" st_less) : Cal P w K mg base 1 "less" ["a", "b"] sp_less :=
  .mk_ DF (fun F => F.binds (fun _ _ _ _ _ _ us hl => match us, hl with | [_, _], _ => rfl)) fun F => okA F sc_less (fun _ _ _ _ q => A2_len q) (fun cdv A outer s H E hr =>
    (ass_one (as_ret (ae_cmp op_ltA (ae_op op_mulA (ae_ix (ix_A (hu_of hr)) (ae_var 0 (pv 0)) ae_int (fun _ _ => rfl)) (ae_ix (ix_A (hu_of hr)) (ae_var 1 (pv 1)) ae_int (fun _ _ => rfl))) (ae_op op_mulA (ae_ix (ix_A (hu_of hr)) (ae_var 1 (pv 1)) ae_int (fun _ _ => rfl)) (ae_ix (ix_A (hu_of hr)) (ae_var 0 (pv 0)) ae_int (fun _ _ => rfl))) (nomark _)))))
    fun xs h R c1 c2 q => match xs, q with | [x0, x1], q => pure_less x0 x1 h R c1 c2 q
abbrev st_at_most : Stmt := topS 5
theorem sc_at_most : FnScope ["a", "b"] ["a", "b"] (defScope st_at_most) := ⟨rfl, rfl, rfl, by decide +kernel, rfl, by decide +kernel, by decide +kernel⟩
theorem cal_at_most (T : Txt K mg) (DF : DefIs K mg "at_most" st_at_most) : Cal P w K mg base 1 "at_most" ["a", "b"] sp_at_most :=
  .mk_ DF (fun F => F.binds (fun _ _ _ _ _ _ us hl => match us, hl with | [_, _], _ => rfl)) fun F => okA F sc_at_most (fun _ _ _ _ q => A2_len q) (fun cdv A outer s H E hr =>
    (ass_one (as_ret (ae_cmp op_leA (ae_op op_mulA (ae_ix (ix_A (hu_of hr)) (ae_var 0 (pv 0)) ae_int (fun _ _ => rfl)) (ae_ix (ix_A (hu_of hr)) (ae_var 1 (pv 1)) ae_int (fun _ _ => rfl))) (ae_op op_mulA (ae_ix (ix_A (hu_of hr)) (ae_var 1 (pv 1)) ae_int (fun _ _ => rfl)) (ae_ix (ix_A (hu_of hr)) (ae_var 0 (pv 0)) ae_int (fun _ _ => rfl))) (nomark _)))))
    fun xs h R c1 c2 q => match xs, q with | [x0, x1], q => pure_at_most x0 x1 h R c1 c2 q
abbrev st_run_width : Stmt := topS 7
theorem sc_run_width : FnScope ["words", "first", "last", "total", "at"] ["words", "first", "last"] (defScope st_run_width) := ⟨rfl, rfl, rfl, by decide +kernel, rfl, by decide +kernel, by decide +kernel⟩
theorem cal_run_width (T : Txt K mg) (DF : DefIs K mg "run_width" st_run_width) (C_plus : Cal P w K mg base 2 "plus" ["a", "b"] sp_plus) : Cal P w K mg base 3 "run_width" ["words", "first", "last"] sp_run_width :=
  .mk_ DF (fun F => F.binds (fun _ _ _ _ _ _ us hl => match us, hl with | [_, _, _], _ => rfl)) fun F => okA F sc_run_width (fun _ _ _ _ q => A3_len q) (fun cdv A outer s H E hr =>
    (ass_cons (as_set (i := 3) sc_run_width.nd rfl (Or.inl rfl) (ae_ix (ix_A (hu_of hr)) (ae_ix (ix_A (hu_of hr)) (ae_var 0 (pv 0)) ae_int (fun _ _ => rfl)) (ae_var 1 (pv 1)) (fun _ _ => rfl)))
    (ass_cons (as_for PassesOwn.never rfl (ai_range2 (by rfl) T.range (aa_cons (ae_op op_addA (ae_var 1 (pv 1)) ae_int) (aa_cons (ae_op op_addA (ae_var 2 (pv 2)) ae_int) aa_nil))) (ag_name (i := 4) sc_run_width.nd rfl (Or.inl rfl)) (ass_one (as_set (i := 3) sc_run_width.nd rfl (Or.inl rfl) (ae_cal C_plus (hr.mono (by decide)) (by rfl) (aa_cons (ae_var 3 (pv 3)) (aa_cons (ae_cal C_plus (hr.mono (by decide)) (by rfl) (aa_cons (ae_ix (ix_A (hu_of hr)) (ae_var 0 (pv 0)) ae_int (fun _ _ => rfl)) (aa_cons (ae_ix (ix_A (hu_of hr)) (ae_ix (ix_A (hu_of hr)) (ae_var 0 (pv 0)) ae_int (fun _ _ => rfl)) (ae_var 4 (pv 4)) (fun _ _ => rfl)) aa_nil))) aa_nil))))))
    (ass_one (as_ret (ae_var 3 (pv 3)))))))
    fun xs h R c1 c2 q => match xs, q with | [x0, x1, x2], q => pure_run_width x0 x1 x2 h R c1 c2 q
abbrev st_line_rows : Stmt := topS 8
theorem sc_line_rows : FnScope ["words", "width", "widths", "gap", "lines", "present", "total", "at", "own", "longer"] ["words", "width"] (defScope st_line_rows) := ⟨rfl, rfl, rfl, by decide +kernel, rfl, by decide +kernel, by decide +kernel⟩
theorem cal_line_rows (T : Txt K mg) (DF : DefIs K mg "line_rows" st_line_rows) (C_plus : Cal P w K mg base 2 "plus" ["a", "b"] sp_plus) (C_at_most : Cal P w K mg base 1 "at_most" ["a", "b"] sp_at_most) : Cal P w K mg base 3 "line_rows" ["words", "width"] sp_line_rows :=
  .mk_ DF (fun F => F.binds (fun _ _ _ _ _ _ us hl => match us, hl with | [_, _], _ => rfl)) fun F => okA F sc_line_rows (fun _ _ _ _ q => A2_len q) (fun cdv A outer s H E hr =>
    (ass_cons (as_set (i := 2) sc_line_rows.nd rfl (Or.inl rfl) (ae_ix (ix_A (hu_of hr)) (ae_var 0 (pv 0)) ae_int (fun _ _ => rfl)))
    (ass_cons (as_set (i := 3) sc_line_rows.nd rfl (Or.inl rfl) (ae_ix (ix_A (hu_of hr)) (ae_var 0 (pv 0)) ae_int (fun _ _ => rfl)))
    (ass_cons (as_set (i := 4) sc_line_rows.nd rfl (Or.inl rfl) (ae_lst aa_nil))
    (ass_cons (as_set (i := 5) sc_line_rows.nd rfl (Or.inl rfl) (ae_lst aa_nil))
    (ass_cons (as_set (i := 6) sc_line_rows.nd rfl (Or.inl rfl) (ae_tup (aa_cons ae_int (aa_cons ae_int aa_nil))))
    (ass_cons (as_for PassesOwn.never rfl (ai_enum (by rfl) T.enumerate (aa_cons (ae_var 2 (pv 2)) aa_nil)) (ag_tup rfl (ags_cons (ag_name (i := 7) sc_line_rows.nd rfl (Or.inl rfl)) (ags_cons (ag_name (i := 8) sc_line_rows.nd rfl (Or.inl rfl)) ags_nil))) (ass_cons (as_if (at_not (at_tru tru_A (ae_var 5 (pv 5)))) (ass_cons (as_set (i := 5) sc_line_rows.nd rfl (Or.inl rfl) (ae_lst (aa_cons (ae_var 7 (pv 7)) aa_nil)))
    (ass_cons (as_set (i := 6) sc_line_rows.nd rfl (Or.inl rfl) (ae_var 8 (pv 8)))
    (ass_one as_cont))) ass_nil)
    (ass_cons (as_set (i := 9) sc_line_rows.nd rfl (Or.inl rfl) (ae_cal C_plus (hr.mono (by decide)) (by rfl) (aa_cons (ae_var 6 (pv 6)) (aa_cons (ae_cal C_plus (hr.mono (by decide)) (by rfl) (aa_cons (ae_var 3 (pv 3)) (aa_cons (ae_var 8 (pv 8)) aa_nil))) aa_nil))))
    (ass_one (as_if (at_tru tru_A (ae_cal C_at_most (hr.mono (by decide)) (by rfl) (aa_cons (ae_var 9 (pv 9)) (aa_cons (ae_var 1 (pv 1)) aa_nil)))) (ass_cons (as_expr (ae_bm (ts := fun _ _ _ => False) ok_lst (pe_bm PySem.F.plainAttrs_list PySem.F.slot_list_append PySem.F.type_list_append mt_appendA (ae_var 5 (pv 5)) (aa_cons (ae_var 7 (pv 7)) aa_nil))))
    (ass_one (as_set (i := 6) sc_line_rows.nd rfl (Or.inl rfl) (ae_var 9 (pv 9))))) (ass_cons (as_expr (ae_bm (ts := fun _ _ _ => False) ok_lst (pe_bm PySem.F.plainAttrs_list PySem.F.slot_list_append PySem.F.type_list_append mt_appendA (ae_var 4 (pv 4)) (aa_cons (ae_callTy call_tupleA (by rfl) T.tuple (by decide +kernel) (aa_cons (ae_var 5 (pv 5)) aa_nil)) aa_nil))))
    (ass_cons (as_set (i := 5) sc_line_rows.nd rfl (Or.inl rfl) (ae_lst (aa_cons (ae_var 7 (pv 7)) aa_nil)))
    (ass_one (as_set (i := 6) sc_line_rows.nd rfl (Or.inl rfl) (ae_var 8 (pv 8)))))))))))
    (ass_cons (as_expr (ae_bm (ts := fun _ _ _ => False) ok_lst (pe_bm PySem.F.plainAttrs_list PySem.F.slot_list_append PySem.F.type_list_append mt_appendA (ae_var 4 (pv 4)) (aa_cons (ae_callTy call_tupleA (by rfl) T.tuple (by decide +kernel) (aa_cons (ae_var 5 (pv 5)) aa_nil)) aa_nil))))
    (ass_one (as_ret (ae_callTy call_tupleA (by rfl) T.tuple (by decide +kernel) (aa_cons (ae_var 4 (pv 4)) aa_nil))))))))))))
    fun xs h R c1 c2 q => match xs, q with | [x0, x1], q => pure_line_rows x0 x1 h R c1 c2 q
abbrev st_run_widths : Stmt := topS 10
theorem sc_run_widths : FnScope ["words", "many", "found", "first", "last"] ["words"] (defScope st_run_widths) := ⟨rfl, rfl, rfl, by decide +kernel, rfl, by decide +kernel, by decide +kernel⟩
theorem cal_run_widths (T : Txt K mg) (DF : DefIs K mg "run_widths" st_run_widths) (C_run_width : Cal P w K mg base 3 "run_width" ["words", "first", "last"] sp_run_width) (C_ordered : Cal P w K mg base 2 "ordered" ["ratios"] sp_ordered) : Cal P w K mg base 4 "run_widths" ["words"] sp_run_widths :=
  .mk_ DF (fun F => F.binds (fun _ _ _ _ _ _ us hl => match us, hl with | [_], _ => rfl)) fun F => okA F sc_run_widths (fun _ _ _ _ q => A1_len q) (fun cdv A outer s H E hr =>
    (ass_cons (as_set (i := 1) sc_run_widths.nd rfl (Or.inl rfl) (ae_callB call_lenA (by rfl) T.len (by decide +kernel) (aa_cons (ae_ix (ix_A (hu_of hr)) (ae_var 0 (pv 0)) ae_int (fun _ _ => rfl)) aa_nil)))
    (ass_cons (as_set (i := 2) sc_run_widths.nd rfl (Or.inl rfl) (ae_lst aa_nil))
    (ass_cons (as_for PassesOwn.never rfl (ai_range1 (by rfl) T.range (aa_cons (ae_var 1 (pv 1)) aa_nil)) (ag_name (i := 3) sc_run_widths.nd rfl (Or.inl rfl)) (ass_one (as_for PassesOwn.never rfl (ai_range2 (by rfl) T.range (aa_cons (ae_op op_addA (ae_var 3 (pv 3)) ae_int) (aa_cons (ae_var 1 (pv 1)) aa_nil))) (ag_name (i := 4) sc_run_widths.nd rfl (Or.inl rfl)) (ass_one (as_expr (ae_bm (ts := fun _ _ _ => False) ok_lst (pe_bm PySem.F.plainAttrs_list PySem.F.slot_list_append PySem.F.type_list_append mt_appendA (ae_var 2 (pv 2)) (aa_cons (ae_cal C_run_width (hr.mono (by decide)) (by rfl) (aa_cons (ae_var 0 (pv 0)) (aa_cons (ae_var 3 (pv 3)) (aa_cons (ae_var 4 (pv 4)) aa_nil)))) aa_nil))))))))
    (ass_one (as_ret (ae_cal C_ordered (hr.mono (by decide)) (by rfl) (aa_cons (ae_var 2 (pv 2)) aa_nil))))))))
    fun xs h R c1 c2 q => match xs, q with | [x0], q => pure_run_widths x0 h R c1 c2 q
abbrev st_ordered : Stmt := topS 11
theorem sc_ordered : FnScope ["ratios", "told", "value", "at"] ["ratios"] (defScope st_ordered) := ⟨rfl, rfl, rfl, by decide +kernel, rfl, by decide +kernel, by decide +kernel⟩
theorem cal_ordered (T : Txt K mg) (DF : DefIs K mg "ordered" st_ordered) (C_less : Cal P w K mg base 1 "less" ["a", "b"] sp_less) : Cal P w K mg base 2 "ordered" ["ratios"] sp_ordered :=
  .mk_ DF (fun F => F.binds (fun _ _ _ _ _ _ us hl => match us, hl with | [_], _ => rfl)) fun F => okA F sc_ordered (fun _ _ _ _ q => A1_len q) (fun cdv A outer s H E hr =>
    (ass_cons (as_set (i := 1) sc_ordered.nd rfl (Or.inl rfl) (ae_lst aa_nil))
    (ass_cons (as_for PassesOwn.never rfl (ai_seq (ae_var 0 (pv 0))) (ag_name (i := 2) sc_ordered.nd rfl (Or.inl rfl)) (ass_cons (as_set (i := 3) sc_ordered.nd rfl (Or.inl rfl) ae_int)
    (ass_cons (as_while PassesOwn.never (at_w (aw_and (at_cmp op_ltA (ae_var 3 (pv 3)) (ae_callB call_lenA (by rfl) T.len (by decide +kernel) (aa_cons (ae_var 1 (pv 1)) aa_nil)) (nomark _)) (aw_and1 (at_tru tru_A (ae_cal C_less (hr.mono (by decide)) (by rfl) (aa_cons (ae_ix (ix_A (hu_of hr)) (ae_var 1 (pv 1)) (ae_var 3 (pv 3)) (fun _ _ => rfl)) (aa_cons (ae_var 2 (pv 2)) aa_nil))))))) (ass_one (as_aug (i := 3) sc_ordered.nd rfl (Or.inl rfl) ae_int ip_addA)))
    (ass_one (as_if (at_w (aw_or (at_cmp (op_eqA hr.units) (ae_var 3 (pv 3)) (ae_callB call_lenA (by rfl) T.len (by decide +kernel) (aa_cons (ae_var 1 (pv 1)) aa_nil)) (nomark _)) (aw_or1 (at_cmp (op_neA hr.units) (ae_ix (ix_A (hu_of hr)) (ae_var 1 (pv 1)) (ae_var 3 (pv 3)) (fun _ _ => rfl)) (ae_var 2 (pv 2)) (nomark _))))) (ass_one (as_expr (ae_bm (ts := fun _ _ _ => False) ok_lst (pe_bm PySem.F.plainAttrs_list PySem.F.slot_list_insert PySem.F.type_list_insert mt_insertA (ae_var 1 (pv 1)) (aa_cons (ae_var 3 (pv 3)) (aa_cons (ae_var 2 (pv 2)) aa_nil)))))) ass_nil)))))
    (ass_one (as_ret (ae_var 1 (pv 1)))))))
    fun xs h R c1 c2 q => match xs, q with | [x0], q => pure_ordered x0 h R c1 c2 q
abbrev st_steps_of : Stmt := topS 12
theorem sc_steps_of : FnScope ["words", "told", "last", "width", "lines"] ["words"] (defScope st_steps_of) := ⟨rfl, rfl, rfl, by decide +kernel, rfl, by decide +kernel, by decide +kernel⟩
theorem cal_steps_of (T : Txt K mg) (DF : DefIs K mg "steps_of" st_steps_of) (C_line_rows : Cal P w K mg base 3 "line_rows" ["words", "width"] sp_line_rows) (C_run_widths : Cal P w K mg base 4 "run_widths" ["words"] sp_run_widths) : Cal P w K mg base 5 "steps_of" ["words"] sp_steps_of :=
  .mk_ DF (fun F => F.binds (fun _ _ _ _ _ _ us hl => match us, hl with | [_], _ => rfl)) fun F => okA F sc_steps_of (fun _ _ _ _ q => A1_len q) (fun cdv A outer s H E hr =>
    (ass_cons (as_set (i := 1) sc_steps_of.nd rfl (Or.inl rfl) (ae_lst aa_nil))
    (ass_cons (as_set (i := 2) sc_steps_of.nd rfl (Or.inl rfl) (ae_callB call_lenA (by rfl) T.len (by decide +kernel) (aa_cons (ae_ix (ix_A (hu_of hr)) (ae_var 0 (pv 0)) ae_int (fun _ _ => rfl)) aa_nil)))
    (ass_cons (as_for PassesOwn.never rfl (ai_seq (ae_cal C_run_widths (hr.mono (by decide)) (by rfl) (aa_cons (ae_var 0 (pv 0)) aa_nil))) (ag_name (i := 3) sc_steps_of.nd rfl (Or.inl rfl)) (ass_cons (as_set (i := 4) sc_steps_of.nd rfl (Or.inl rfl) (ae_callB call_lenA (by rfl) T.len (by decide +kernel) (aa_cons (ae_cal C_line_rows (hr.mono (by decide)) (by rfl) (aa_cons (ae_var 0 (pv 0)) (aa_cons (ae_var 3 (pv 3)) aa_nil))) aa_nil)))
    (ass_one (as_if (at_cmp (op_neA hr.units) (ae_var 4 (pv 4)) (ae_var 2 (pv 2)) (nomark _)) (ass_cons (as_expr (ae_bm (ts := fun _ _ _ => False) ok_lst (pe_bm PySem.F.plainAttrs_list PySem.F.slot_list_append PySem.F.type_list_append mt_appendA (ae_var 1 (pv 1)) (aa_cons (ae_tup (aa_cons (ae_var 3 (pv 3)) (aa_cons (ae_var 4 (pv 4)) aa_nil))) aa_nil))))
    (ass_one (as_set (i := 2) sc_steps_of.nd rfl (Or.inl rfl) (ae_var 4 (pv 4))))) ass_nil))))
    (ass_one (as_ret (ae_callTy call_tupleA (by rfl) T.tuple (by decide +kernel) (aa_cons (ae_var 1 (pv 1)) aa_nil))))))))
    fun xs h R c1 c2 q => match xs, q with | [x0], q => pure_steps_of x0 h R c1 c2 q
abbrev st_law_begin : Stmt := topS 14
theorem sc_law_begin : FnScope ["script", "cell"] ["script"] (defScope st_law_begin) := ⟨rfl, rfl, rfl, by decide +kernel, rfl, by decide +kernel, by decide +kernel⟩
theorem cal_law_begin (T : Txt K mg) (DF : DefIs K mg "_law_begin" st_law_begin) : Cal P w K mg base 1 "_law_begin" ["script"] sp_law_begin :=
  .mk_ DF (fun F => F.binds (fun _ _ _ _ _ _ us hl => match us, hl with | [_], _ => rfl)) fun F => okA F sc_law_begin (fun _ _ _ _ q => A1_len q) (fun cdv A outer s H E hr =>
    (ass_one (as_ret (ae_lst (aa_cons (ae_lc (gr := (gName 1)) rfl sc_law_begin.nd (ai_seq (ae_var 0 (pv 0))) (blkOk_by (N := ["script", "cell"]) (sc := defScope st_law_begin) (own := [("cell", 1)]) (by decide +kernel)) (cg_name (by decide)) (fun _ _ _ _ _ hq q => hq _ _ q) (fun _ _ _ _ _ => pg_name (i := 1) sc_law_begin.nd rfl (Or.inl rfl)) (fun _ _ _ _ _ => ats_nil) (fun _ _ _ _ _ => (ae_callTy call_intA (by rfl) T.int (by decide +kernel) (aa_cons (ae_var 1 (pv 1)) aa_nil)))) (aa_cons ae_int (aa_cons ae_int (aa_cons ae_int (aa_cons ae_int aa_nil)))))))))
    fun xs h R c1 c2 q => match xs, q with | [x0], q => pure_law_begin x0 h R c1 c2 q
abbrev st_law_draw : Stmt := topS 15
theorem sc_law_draw : FnScope ["d", "many", "found", "size", "cell"] ["d", "many"] (defScope st_law_draw) := ⟨rfl, rfl, rfl, by decide +kernel, rfl, by decide +kernel, by decide +kernel⟩
theorem cal_law_draw (T : Txt K mg) (DF : DefIs K mg "_law_draw" st_law_draw) : Cal P w K mg base 1 "_law_draw" ["d", "many"] sp_law_draw :=
  .mk_ DF (fun F => F.binds (fun _ _ _ _ _ _ us hl => match us, hl with | [_, _], _ => rfl)) fun F => okA F sc_law_draw (fun _ _ _ _ q => A2_len q) (fun cdv A outer s H E hr =>
    (ass_cons (as_if (at_cmp op_gtA (ae_ix (ix_A (hu_of hr)) (ae_var 0 (pv 0)) ae_int (fun _ _ => rfl)) ae_int (nomark _)) (ass_cons (as_set (i := 2) sc_law_draw.nd rfl (Or.inl rfl) (ae_ix (ix_A (hu_of hr)) (ae_var 0 (pv 0)) ae_int (fun _ _ => rfl)))
    (ass_cons (as_asg (ae_op op_fdivA (ae_var 2 (pv 2)) (ae_var 1 (pv 1))) (ag_sub (ae_var 0 (pv 0)) ae_int (set_A (hu_of hr))))
    (ass_one (as_ret (ae_op op_modA (ae_callTy call_intA (by rfl) T.int (by decide +kernel) (aa_cons (ae_var 2 (pv 2)) aa_nil)) (ae_var 1 (pv 1))))))) ass_nil)
    (ass_cons (as_set (i := 3) sc_law_draw.nd rfl (Or.inl rfl) ae_int)
    (ass_cons (as_if (at_cmp op_ltA (ae_ix (ix_A (hu_of hr)) (ae_var 0 (pv 0)) ae_int (fun _ _ => rfl)) (ae_callB call_lenA (by rfl) T.len (by decide +kernel) (aa_cons (ae_ix (ix_A (hu_of hr)) (ae_var 0 (pv 0)) ae_int (fun _ _ => rfl)) aa_nil)) (nomark _)) (ass_cons (as_set (i := 4) sc_law_draw.nd rfl (Or.inl rfl) (ae_ix (ix_A (hu_of hr)) (ae_ix (ix_A (hu_of hr)) (ae_var 0 (pv 0)) ae_int (fun _ _ => rfl)) (ae_ix (ix_A (hu_of hr)) (ae_var 0 (pv 0)) ae_int (fun _ _ => rfl)) (fun _ _ => rfl)))
    (ass_one (as_set (i := 3) sc_law_draw.nd rfl (Or.inl rfl) (ae_op op_addA (ae_op op_mulA ae_int (ae_callB call_absA (by rfl) T.abs (by decide +kernel) (aa_cons (ae_var 4 (pv 4)) aa_nil))) (ae_callTy call_intA (by rfl) T.int (by decide +kernel) (aa_cons (ae_cmp op_ltA (ae_var 4 (pv 4)) ae_int (nomark _)) aa_nil)))))) ass_nil)
    (ass_cons (as_augS (ae_var 0 (pv 0)) ae_int (get_A (hu_of hr)) ae_int ip_addA (set_A (hu_of hr)))
    (ass_cons (as_if (at_cmp op_geA (ae_var 3 (pv 3)) (ae_op op_mulA ae_int (ae_op op_powA ae_int ae_int)) (nomark _)) (ass_cons (as_set (i := 2) sc_law_draw.nd rfl (Or.inl rfl) (ae_op op_modA (ae_callTy call_intA (by rfl) T.int (by decide +kernel) (aa_cons (ae_op op_fdivA (ae_var 3 (pv 3)) ae_int) aa_nil)) (ae_op op_shlA ae_int ae_int)))
    (ass_cons (as_asg (ae_op op_fdivA (ae_var 2 (pv 2)) (ae_var 1 (pv 1))) (ag_sub (ae_var 0 (pv 0)) ae_int (set_A (hu_of hr))))
    (ass_one (as_ret (ae_op op_modA (ae_callTy call_intA (by rfl) T.int (by decide +kernel) (aa_cons (ae_var 2 (pv 2)) aa_nil)) (ae_var 1 (pv 1))))))) ass_nil)
    (ass_cons (as_asg (ae_op op_modA (ae_callTy call_intA (by rfl) T.int (by decide +kernel) (aa_cons (ae_op op_addA (ae_op op_addA (ae_op op_addA (ae_op op_mulA (ae_ix (ix_A (hu_of hr)) (ae_var 0 (pv 0)) ae_int (fun _ _ => rfl)) ae_int) (ae_op op_mulA (ae_op op_modA (ae_callTy call_intA (by rfl) T.int (by decide +kernel) (aa_cons (ae_var 3 (pv 3)) aa_nil)) ae_int) ae_int)) (ae_op op_mulA (ae_ix (ix_A (hu_of hr)) (ae_var 0 (pv 0)) ae_int (fun _ _ => rfl)) ae_int)) ae_int) aa_nil)) ae_int) (ag_sub (ae_var 0 (pv 0)) ae_int (set_A (hu_of hr))))
    (ass_one (as_ret (ae_op op_modA (ae_callTy call_intA (by rfl) T.int (by decide +kernel) (aa_cons (ae_op op_fdivA (ae_ix (ix_A (hu_of hr)) (ae_var 0 (pv 0)) ae_int (fun _ _ => rfl)) ae_int) aa_nil)) (ae_var 1 (pv 1))))))))))))
    fun xs h R c1 c2 q => match xs, q with | [x0, x1], q => pure_law_draw x0 x1 h R c1 c2 q
abbrev st_law_pick : Stmt := topS 16
theorem sc_law_pick : FnScope ["d", "row"] ["d", "row"] (defScope st_law_pick) := ⟨rfl, rfl, rfl, by decide +kernel, rfl, by decide +kernel, by decide +kernel⟩
theorem cal_law_pick (T : Txt K mg) (DF : DefIs K mg "_law_pick" st_law_pick) (C_law_draw : Cal P w K mg base 1 "_law_draw" ["d", "many"] sp_law_draw) : Cal P w K mg base 2 "_law_pick" ["d", "row"] sp_law_pick :=
  .mk_ DF (fun F => F.binds (fun _ _ _ _ _ _ us hl => match us, hl with | [_, _], _ => rfl)) fun F => okA F sc_law_pick (fun _ _ _ _ q => A2_len q) (fun cdv A outer s H E hr =>
    (ass_one (as_ret (ae_ix (ix_A (hu_of hr)) (ae_var 1 (pv 1)) (ae_cal C_law_draw (hr.mono (by decide)) (by rfl) (aa_cons (ae_var 0 (pv 0)) (aa_cons (ae_callB call_lenA (by rfl) T.len (by decide +kernel) (aa_cons (ae_var 1 (pv 1)) aa_nil)) aa_nil))) (fun _ _ => rfl)))))
    fun xs h R c1 c2 q => match xs, q with | [x0, x1], q => pure_law_pick x0 x1 h R c1 c2 q
abbrev st_law_gcd : Stmt := topS 17
theorem sc_law_gcd : FnScope ["a", "b", "k"] ["a", "b"] (defScope st_law_gcd) := ⟨rfl, rfl, rfl, by decide +kernel, rfl, by decide +kernel, by decide +kernel⟩
theorem cal_law_gcd (T : Txt K mg) (DF : DefIs K mg "_law_gcd" st_law_gcd) : Cal P w K mg base 1 "_law_gcd" ["a", "b"] sp_law_gcd :=
  .mk_ DF (fun F => F.binds (fun _ _ _ _ _ _ us hl => match us, hl with | [_, _], _ => rfl)) fun F => okA F sc_law_gcd (fun _ _ _ _ q => A2_len q) (fun cdv A outer s H E hr =>
    (ass_cons (as_set (i := 0) sc_law_gcd.nd rfl (Or.inl rfl) (ae_callB call_absA (by rfl) T.abs (by decide +kernel) (aa_cons (ae_var 0 (pv 0)) aa_nil)))
    (ass_cons (as_set (i := 1) sc_law_gcd.nd rfl (Or.inl rfl) (ae_callB call_absA (by rfl) T.abs (by decide +kernel) (aa_cons (ae_var 1 (pv 1)) aa_nil)))
    (ass_cons (as_for PassesOwn.never rfl (ai_range1 (by rfl) T.range (aa_cons ae_int aa_nil)) (ag_name (i := 2) sc_law_gcd.nd rfl (Or.inl rfl)) (ass_cons (as_if (at_cmp (op_eqA hr.units) (ae_var 1 (pv 1)) ae_int (nomark _)) (ass_one as_break) ass_nil)
    (ass_one (as_par (i := 0) (j := 1) rfl sc_law_gcd.nd rfl rfl (by decide) rfl rfl (aa_cons (ae_var 1 (pv 1)) (aa_cons (ae_op op_modA (ae_callTy call_intA (by rfl) T.int (by decide +kernel) (aa_cons (ae_var 0 (pv 0)) aa_nil)) (ae_var 1 (pv 1))) aa_nil)) (by rfl)))))
    (ass_one (as_ret (ae_var 0 (pv 0))))))))
    fun xs h R c1 c2 q => match xs, q with | [x0, x1], q => pure_law_gcd x0 x1 h R c1 c2 q
abbrev st_law_r : Stmt := topS 18
theorem sc_law_r : FnScope ["n", "d", "g"] ["n", "d"] (defScope st_law_r) := ⟨rfl, rfl, rfl, by decide +kernel, rfl, by decide +kernel, by decide +kernel⟩
theorem cal_law_r (T : Txt K mg) (DF : DefIs K mg "_law_r" st_law_r) (C_law_gcd : Cal P w K mg base 1 "_law_gcd" ["a", "b"] sp_law_gcd) : Cal P w K mg base 2 "_law_r" ["n", "d"] sp_law_r :=
  .mk_ DF (fun F => F.binds (fun _ _ _ _ _ _ us hl => match us, hl with | [_, _], _ => rfl)) fun F => okA F sc_law_r (fun _ _ _ _ q => A2_len q) (fun cdv A outer s H E hr =>
    (ass_cons (as_if (at_cmp op_ltA (ae_var 1 (pv 1)) ae_int (nomark _)) (ass_cons (as_set (i := 0) sc_law_r.nd rfl (Or.inl rfl) (ae_un un_negA (ae_var 0 (pv 0))))
    (ass_one (as_set (i := 1) sc_law_r.nd rfl (Or.inl rfl) (ae_un un_negA (ae_var 1 (pv 1)))))) ass_nil)
    (ass_cons (as_set (i := 2) sc_law_r.nd rfl (Or.inl rfl) (ae_cal C_law_gcd (hr.mono (by decide)) (by rfl) (aa_cons (ae_var 0 (pv 0)) (aa_cons (ae_var 1 (pv 1)) aa_nil))))
    (ass_one (as_ret (ae_tup (aa_cons (ae_op op_fdivA (ae_var 0 (pv 0)) (ae_var 2 (pv 2))) (aa_cons (ae_op op_fdivA (ae_var 1 (pv 1)) (ae_var 2 (pv 2))) aa_nil))))))))
    fun xs h R c1 c2 q => match xs, q with | [x0, x1], q => pure_law_r x0 x1 h R c1 c2 q
abbrev st_law_add : Stmt := topS 19
theorem sc_law_add : FnScope ["a", "b"] ["a", "b"] (defScope st_law_add) := ⟨rfl, rfl, rfl, by decide +kernel, rfl, by decide +kernel, by decide +kernel⟩
theorem cal_law_add (T : Txt K mg) (DF : DefIs K mg "_law_add" st_law_add) (C_law_r : Cal P w K mg base 2 "_law_r" ["n", "d"] sp_law_r) : Cal P w K mg base 3 "_law_add" ["a", "b"] sp_law_add :=
  .mk_ DF (fun F => F.binds (fun _ _ _ _ _ _ us hl => match us, hl with | [_, _], _ => rfl)) fun F => okA F sc_law_add (fun _ _ _ _ q => A2_len q) (fun cdv A outer s H E hr =>
    (ass_one (as_ret (ae_cal C_law_r (hr.mono (by decide)) (by rfl) (aa_cons (ae_op op_addA (ae_op op_mulA (ae_ix (ix_A (hu_of hr)) (ae_var 0 (pv 0)) ae_int (fun _ _ => rfl)) (ae_ix (ix_A (hu_of hr)) (ae_var 1 (pv 1)) ae_int (fun _ _ => rfl))) (ae_op op_mulA (ae_ix (ix_A (hu_of hr)) (ae_var 1 (pv 1)) ae_int (fun _ _ => rfl)) (ae_ix (ix_A (hu_of hr)) (ae_var 0 (pv 0)) ae_int (fun _ _ => rfl)))) (aa_cons (ae_op op_mulA (ae_ix (ix_A (hu_of hr)) (ae_var 0 (pv 0)) ae_int (fun _ _ => rfl)) (ae_ix (ix_A (hu_of hr)) (ae_var 1 (pv 1)) ae_int (fun _ _ => rfl))) aa_nil))))))
    fun xs h R c1 c2 q => match xs, q with | [x0, x1], q => pure_law_add x0 x1 h R c1 c2 q
abbrev st_law_sub : Stmt := topS 20
theorem sc_law_sub : FnScope ["a", "b"] ["a", "b"] (defScope st_law_sub) := ⟨rfl, rfl, rfl, by decide +kernel, rfl, by decide +kernel, by decide +kernel⟩
theorem cal_law_sub (T : Txt K mg) (DF : DefIs K mg "_law_sub" st_law_sub) (C_law_r : Cal P w K mg base 2 "_law_r" ["n", "d"] sp_law_r) : Cal P w K mg base 3 "_law_sub" ["a", "b"] sp_law_sub :=
  .mk_ DF (fun F => F.binds (fun _ _ _ _ _ _ us hl => match us, hl with | [_, _], _ => rfl)) fun F => okA F sc_law_sub (fun _ _ _ _ q => A2_len q) (fun cdv A outer s H E hr =>
    (ass_one (as_ret (ae_cal C_law_r (hr.mono (by decide)) (by rfl) (aa_cons (ae_op op_subA (ae_op op_mulA (ae_ix (ix_A (hu_of hr)) (ae_var 0 (pv 0)) ae_int (fun _ _ => rfl)) (ae_ix (ix_A (hu_of hr)) (ae_var 1 (pv 1)) ae_int (fun _ _ => rfl))) (ae_op op_mulA (ae_ix (ix_A (hu_of hr)) (ae_var 1 (pv 1)) ae_int (fun _ _ => rfl)) (ae_ix (ix_A (hu_of hr)) (ae_var 0 (pv 0)) ae_int (fun _ _ => rfl)))) (aa_cons (ae_op op_mulA (ae_ix (ix_A (hu_of hr)) (ae_var 0 (pv 0)) ae_int (fun _ _ => rfl)) (ae_ix (ix_A (hu_of hr)) (ae_var 1 (pv 1)) ae_int (fun _ _ => rfl))) aa_nil))))))
    fun xs h R c1 c2 q => match xs, q with | [x0, x1], q => pure_law_sub x0 x1 h R c1 c2 q
abbrev st_law_lt : Stmt := topS 21
theorem sc_law_lt : FnScope ["a", "b"] ["a", "b"] (defScope st_law_lt) := ⟨rfl, rfl, rfl, by decide +kernel, rfl, by decide +kernel, by decide +kernel⟩
theorem cal_law_lt (T : Txt K mg) (DF : DefIs K mg "_law_lt" st_law_lt) : Cal P w K mg base 1 "_law_lt" ["a", "b"] sp_law_lt :=
  .mk_ DF (fun F => F.binds (fun _ _ _ _ _ _ us hl => match us, hl with | [_, _], _ => rfl)) fun F => okA F sc_law_lt (fun _ _ _ _ q => A2_len q) (fun cdv A outer s H E hr =>
    (ass_one (as_ret (ae_cmp op_ltA (ae_op op_mulA (ae_ix (ix_A (hu_of hr)) (ae_var 0 (pv 0)) ae_int (fun _ _ => rfl)) (ae_ix (ix_A (hu_of hr)) (ae_var 1 (pv 1)) ae_int (fun _ _ => rfl))) (ae_op op_mulA (ae_ix (ix_A (hu_of hr)) (ae_var 1 (pv 1)) ae_int (fun _ _ => rfl)) (ae_ix (ix_A (hu_of hr)) (ae_var 0 (pv 0)) ae_int (fun _ _ => rfl))) (nomark _)))))
    fun xs h R c1 c2 q => match xs, q with | [x0, x1], q => pure_law_lt x0 x1 h R c1 c2 q
abbrev st_law_is_int : Stmt := topS 22
theorem sc_law_is_int : FnScope ["thing"] ["thing"] (defScope st_law_is_int) := ⟨rfl, rfl, rfl, by decide +kernel, rfl, by decide +kernel, by decide +kernel⟩
theorem cal_law_is_int (T : Txt K mg) (DF : DefIs K mg "_law_is_int" st_law_is_int) : Cal P w K mg base 1 "_law_is_int" ["thing"] sp_law_is_int :=
  .mk_ DF (fun F => F.binds (fun _ _ _ _ _ _ us hl => match us, hl with | [_], _ => rfl)) fun F => okA F sc_law_is_int (fun _ _ _ _ q => A1_len q) (fun cdv A outer s H E hr =>
    (ass_one (as_ret (ae_and (ae_callB call_instA (by rfl) T.isinstance (by decide +kernel) (aa_cons (ae_var 0 (pv 0)) (aa_cons (ae_ty (by rfl) T.int (by decide +kernel)) aa_nil))) (ae_one (ae_not (ae_callB call_instA (by rfl) T.isinstance (by decide +kernel) (aa_cons (ae_var 0 (pv 0)) (aa_cons (ae_ty (by rfl) T.bool (by decide +kernel)) aa_nil)))))))))
    fun xs h R c1 c2 q => match xs, q with | [x0], q => pure_law_is_int x0 h R c1 c2 q
abbrev st_law_is_r : Stmt := topS 23
theorem sc_law_is_r : FnScope ["thing"] ["thing"] (defScope st_law_is_r) := ⟨rfl, rfl, rfl, by decide +kernel, rfl, by decide +kernel, by decide +kernel⟩
theorem cal_law_is_r (T : Txt K mg) (DF : DefIs K mg "_law_is_r" st_law_is_r) (C_law_gcd : Cal P w K mg base 1 "_law_gcd" ["a", "b"] sp_law_gcd) (C_law_is_int : Cal P w K mg base 1 "_law_is_int" ["thing"] sp_law_is_int) : Cal P w K mg base 2 "_law_is_r" ["thing"] sp_law_is_r :=
  .mk_ DF (fun F => F.binds (fun _ _ _ _ _ _ us hl => match us, hl with | [_], _ => rfl)) fun F => okA F sc_law_is_r (fun _ _ _ _ q => A1_len q) (fun cdv A outer s H E hr =>
    (ass_cons (as_if (at_w (aw_or (at_not (at_tru tru_A (ae_callB call_instA (by rfl) T.isinstance (by decide +kernel) (aa_cons (ae_var 0 (pv 0)) (aa_cons (ae_ty (by rfl) T.tuple (by decide +kernel)) aa_nil))))) (aw_or1 (at_cmp (op_neA hr.units) (ae_callB call_lenA (by rfl) T.len (by decide +kernel) (aa_cons (ae_var 0 (pv 0)) aa_nil)) ae_int (nomark _))))) (ass_one (as_ret ae_bl)) ass_nil)
    (ass_cons (as_if (at_w (aw_or (at_not (at_tru tru_A (ae_cal C_law_is_int (hr.mono (by decide)) (by rfl) (aa_cons (ae_ix (ix_A (hu_of hr)) (ae_var 0 (pv 0)) ae_int (fun _ _ => rfl)) aa_nil)))) (aw_or (at_not (at_tru tru_A (ae_cal C_law_is_int (hr.mono (by decide)) (by rfl) (aa_cons (ae_ix (ix_A (hu_of hr)) (ae_var 0 (pv 0)) ae_int (fun _ _ => rfl)) aa_nil)))) (aw_or1 (at_cmp op_ltA (ae_ix (ix_A (hu_of hr)) (ae_var 0 (pv 0)) ae_int (fun _ _ => rfl)) ae_int (nomark _)))))) (ass_one (as_ret ae_bl)) ass_nil)
    (ass_one (as_ret (ae_cmp (op_eqA hr.units) (ae_cal C_law_gcd (hr.mono (by decide)) (by rfl) (aa_cons (ae_ix (ix_A (hu_of hr)) (ae_var 0 (pv 0)) ae_int (fun _ _ => rfl)) (aa_cons (ae_ix (ix_A (hu_of hr)) (ae_var 0 (pv 0)) ae_int (fun _ _ => rfl)) aa_nil))) ae_int (nomark _)))))))
    fun xs h R c1 c2 q => match xs, q with | [x0], q => pure_law_is_r x0 h R c1 c2 q
abbrev st_law_size : Stmt := topS 24
theorem sc_law_size : FnScope ["d", "way"] ["d", "way"] (defScope st_law_size) := ⟨rfl, rfl, rfl, by decide +kernel, rfl, by decide +kernel, by decide +kernel⟩
theorem cal_law_size (T : Txt K mg) (DF : DefIs K mg "_law_size" st_law_size) (C_law_draw : Cal P w K mg base 1 "_law_draw" ["d", "many"] sp_law_draw) (C_law_r : Cal P w K mg base 2 "_law_r" ["n", "d"] sp_law_r) : Cal P w K mg base 3 "_law_size" ["d", "way"] sp_law_size :=
  .mk_ DF (fun F => F.binds (fun _ _ _ _ _ _ us hl => match us, hl with | [_, _], _ => rfl)) fun F => okA F sc_law_size (fun _ _ _ _ q => A2_len q) (fun cdv A outer s H E hr =>
    (ass_cons (as_if (at_cmp (op_eqA hr.units) (ae_var 1 (pv 1)) ae_int (nomark _)) (ass_one (as_ret (ae_tup (aa_cons (ae_op op_addA ae_int (ae_op op_mulA ae_int (ae_cal C_law_draw (hr.mono (by decide)) (by rfl) (aa_cons (ae_var 0 (pv 0)) (aa_cons ae_int aa_nil))))) (aa_cons ae_int aa_nil))))) ass_nil)
    (ass_cons (as_if (at_cmp (op_eqA hr.units) (ae_var 1 (pv 1)) ae_int (nomark _)) (ass_one (as_ret (ae_cal C_law_r (hr.mono (by decide)) (by rfl) (aa_cons (ae_op op_addA ae_int (ae_cal C_law_draw (hr.mono (by decide)) (by rfl) (aa_cons (ae_var 0 (pv 0)) (aa_cons ae_int aa_nil)))) (aa_cons (ae_op op_addA ae_int (ae_cal C_law_draw (hr.mono (by decide)) (by rfl) (aa_cons (ae_var 0 (pv 0)) (aa_cons ae_int aa_nil)))) aa_nil))))) ass_nil)
    (ass_one (as_ret (ae_cal C_law_r (hr.mono (by decide)) (by rfl) (aa_cons (ae_op op_addA ae_int (ae_cal C_law_draw (hr.mono (by decide)) (by rfl) (aa_cons (ae_var 0 (pv 0)) (aa_cons ae_int aa_nil)))) (aa_cons (ae_op op_addA ae_int (ae_cal C_law_draw (hr.mono (by decide)) (by rfl) (aa_cons (ae_var 0 (pv 0)) (aa_cons ae_int aa_nil)))) aa_nil))))))))
    fun xs h R c1 c2 q => match xs, q with | [x0, x1], q => pure_law_size x0 x1 h R c1 c2 q
abbrev st_law_told_words : Stmt := topS 25
theorem sc_law_told_words : FnScope ["d", "name", "most", "many", "way", "widths", "gap", "k"] ["d", "name", "most"] (defScope st_law_told_words) := ⟨rfl, rfl, rfl, by decide +kernel, rfl, by decide +kernel, by decide +kernel⟩
theorem cal_law_told_words (T : Txt K mg) (DF : DefIs K mg "_law_told_words" st_law_told_words) (C_law_draw : Cal P w K mg base 1 "_law_draw" ["d", "many"] sp_law_draw) (C_law_size : Cal P w K mg base 3 "_law_size" ["d", "way"] sp_law_size) : Cal P w K mg base 4 "_law_told_words" ["d", "name", "most"] sp_law_told_words :=
  .mk_ DF (fun F => F.binds (fun _ _ _ _ _ _ us hl => match us, hl with | [_, _, _], _ => rfl)) fun F => okA F sc_law_told_words (fun _ _ _ _ q => A3_len q) (fun cdv A outer s H E hr =>
    (ass_cons (as_set (i := 3) sc_law_told_words.nd rfl (Or.inl rfl) (ae_op op_addA ae_int (ae_cal C_law_draw (hr.mono (by decide)) (by rfl) (aa_cons (ae_var 0 (pv 0)) (aa_cons (ae_var 2 (pv 2)) aa_nil)))))
    (ass_cons (as_set (i := 4) sc_law_told_words.nd rfl (Or.inr rfl) (ae_cal C_law_draw (hr.mono (by decide)) (by rfl) (aa_cons (ae_var 0 (pv 0)) (aa_cons ae_int aa_nil))))
    (ass_cons (as_set (i := 5) sc_law_told_words.nd rfl (Or.inr rfl) (ae_lc (gr := (gName 7)) rfl sc_law_told_words.nd (ai_range1 (by rfl) T.range (aa_cons (ae_var 3 (pv 3)) aa_nil)) (blkOk_by (N := ["d", "name", "most", "many", "way", "widths", "gap", "k"]) (sc := defScope st_law_told_words) (own := [("k", 7)]) (by decide +kernel)) (cg_name (by decide)) (fun _ _ _ _ _ hq q => hq _ _ q) (fun _ _ _ _ _ => pg_name (i := 7) sc_law_told_words.nd rfl (Or.inl rfl)) (fun _ _ _ _ _ => ats_nil) (fun _ _ _ _ _ => (ae_cal C_law_size (hr.mono (by decide)) (by rfl) (aa_cons (ae_var 0 (pv 0)) (aa_cons (ae_var 4 (pv 4)) aa_nil))))))
    (ass_cons (as_if (at_cmp (op_eqA hr.units) (ae_cal C_law_draw (hr.mono (by decide)) (by rfl) (aa_cons (ae_var 0 (pv 0)) (aa_cons ae_int aa_nil))) ae_int (nomark _)) (ass_one (as_set (i := 5) sc_law_told_words.nd rfl (Or.inr rfl) (ae_lc (gr := (gName 7)) rfl sc_law_told_words.nd (ai_range1 (by rfl) T.range (aa_cons (ae_var 3 (pv 3)) aa_nil)) (blkOk_by (N := ["d", "name", "most", "many", "way", "widths", "gap", "k"]) (sc := defScope st_law_told_words) (own := [("k", 7)]) (by decide +kernel)) (cg_name (by decide)) (fun _ _ _ _ _ hq q => hq _ _ q) (fun _ _ _ _ _ => pg_name (i := 7) sc_law_told_words.nd rfl (Or.inl rfl)) (fun _ _ _ _ _ => ats_nil) (fun _ _ _ _ _ => (ae_ix (ix_A (hu_of hr)) (ae_var 5 (pv 5)) ae_int (fun _ _ => rfl)))))) ass_nil)
    (ass_cons (as_set (i := 6) sc_law_told_words.nd rfl (Or.inl rfl) (ae_tup (aa_cons ae_int (aa_cons ae_int aa_nil))))
    (ass_cons (as_if (at_cmp op_gtA (ae_cal C_law_draw (hr.mono (by decide)) (by rfl) (aa_cons (ae_var 0 (pv 0)) (aa_cons ae_int aa_nil))) ae_int (nomark _)) (ass_one (as_set (i := 6) sc_law_told_words.nd rfl (Or.inl rfl) (ae_cal C_law_size (hr.mono (by decide)) (by rfl) (aa_cons (ae_var 0 (pv 0)) (aa_cons (ae_var 4 (pv 4)) aa_nil))))) ass_nil)
    (ass_one (as_ret (ae_tup (aa_cons ae_str (aa_cons (ae_var 1 (pv 1)) (aa_cons (ae_cal C_law_size (hr.mono (by decide)) (by rfl) (aa_cons (ae_var 0 (pv 0)) (aa_cons (ae_var 4 (pv 4)) aa_nil))) (aa_cons (ae_var 6 (pv 6)) (aa_cons (ae_callTy call_tupleA (by rfl) T.tuple (by decide +kernel) (aa_cons (ae_var 5 (pv 5)) aa_nil)) aa_nil)))))))))))))))
    fun xs h R c1 c2 q => match xs, q with | [x0, x1, x2], q => pure_law_told_words x0 x1 x2 h R c1 c2 q
abbrev st_law_long : Stmt := topS 26
theorem sc_law_long : FnScope ["words", "first", "last", "total", "k"] ["words", "first", "last"] (defScope st_law_long) := ⟨rfl, rfl, rfl, by decide +kernel, rfl, by decide +kernel, by decide +kernel⟩
theorem cal_law_long (T : Txt K mg) (DF : DefIs K mg "_law_long" st_law_long) (C_law_add : Cal P w K mg base 3 "_law_add" ["a", "b"] sp_law_add) : Cal P w K mg base 4 "_law_long" ["words", "first", "last"] sp_law_long :=
  .mk_ DF (fun F => F.binds (fun _ _ _ _ _ _ us hl => match us, hl with | [_, _, _], _ => rfl)) fun F => okA F sc_law_long (fun _ _ _ _ q => A3_len q) (fun cdv A outer s H E hr =>
    (ass_cons (as_set (i := 3) sc_law_long.nd rfl (Or.inl rfl) (ae_ix (ix_A (hu_of hr)) (ae_ix (ix_A (hu_of hr)) (ae_var 0 (pv 0)) ae_int (fun _ _ => rfl)) (ae_var 1 (pv 1)) (fun _ _ => rfl)))
    (ass_cons (as_for PassesOwn.never rfl (ai_range2 (by rfl) T.range (aa_cons (ae_op op_addA (ae_var 1 (pv 1)) ae_int) (aa_cons (ae_op op_addA (ae_var 2 (pv 2)) ae_int) aa_nil))) (ag_name (i := 4) sc_law_long.nd rfl (Or.inl rfl)) (ass_one (as_set (i := 3) sc_law_long.nd rfl (Or.inl rfl) (ae_cal C_law_add (hr.mono (by decide)) (by rfl) (aa_cons (ae_var 3 (pv 3)) (aa_cons (ae_cal C_law_add (hr.mono (by decide)) (by rfl) (aa_cons (ae_ix (ix_A (hu_of hr)) (ae_var 0 (pv 0)) ae_int (fun _ _ => rfl)) (aa_cons (ae_ix (ix_A (hu_of hr)) (ae_ix (ix_A (hu_of hr)) (ae_var 0 (pv 0)) ae_int (fun _ _ => rfl)) (ae_var 4 (pv 4)) (fun _ _ => rfl)) aa_nil))) aa_nil))))))
    (ass_one (as_ret (ae_var 3 (pv 3)))))))
    fun xs h R c1 c2 q => match xs, q with | [x0, x1, x2], q => pure_law_long x0 x1 x2 h R c1 c2 q
abbrev st_law_near : Stmt := topS 27
theorem sc_law_near : FnScope ["d", "words", "first", "last", "total", "small", "way"] ["d", "words"] (defScope st_law_near) := ⟨rfl, rfl, rfl, by decide +kernel, rfl, by decide +kernel, by decide +kernel⟩
theorem cal_law_near (T : Txt K mg) (DF : DefIs K mg "_law_near" st_law_near) (C_law_draw : Cal P w K mg base 1 "_law_draw" ["d", "many"] sp_law_draw) (C_law_pick : Cal P w K mg base 2 "_law_pick" ["d", "row"] sp_law_pick) (C_law_r : Cal P w K mg base 2 "_law_r" ["n", "d"] sp_law_r) (C_law_add : Cal P w K mg base 3 "_law_add" ["a", "b"] sp_law_add) (C_law_sub : Cal P w K mg base 3 "_law_sub" ["a", "b"] sp_law_sub) (C_law_long : Cal P w K mg base 4 "_law_long" ["words", "first", "last"] sp_law_long) : Cal P w K mg base 5 "_law_near" ["d", "words"] sp_law_near :=
  .mk_ DF (fun F => F.binds (fun _ _ _ _ _ _ us hl => match us, hl with | [_, _], _ => rfl)) fun F => okA F sc_law_near (fun _ _ _ _ q => A2_len q) (fun cdv A outer s H E hr =>
    (ass_cons (as_set (i := 2) sc_law_near.nd rfl (Or.inl rfl) (ae_cal C_law_draw (hr.mono (by decide)) (by rfl) (aa_cons (ae_var 0 (pv 0)) (aa_cons (ae_callB call_lenA (by rfl) T.len (by decide +kernel) (aa_cons (ae_ix (ix_A (hu_of hr)) (ae_var 1 (pv 1)) ae_int (fun _ _ => rfl)) aa_nil)) aa_nil))))
    (ass_cons (as_set (i := 3) sc_law_near.nd rfl (Or.inl rfl) (ae_op op_addA (ae_var 2 (pv 2)) (ae_cal C_law_draw (hr.mono (by decide)) (by rfl) (aa_cons (ae_var 0 (pv 0)) (aa_cons (ae_op op_subA (ae_callB call_lenA (by rfl) T.len (by decide +kernel) (aa_cons (ae_ix (ix_A (hu_of hr)) (ae_var 1 (pv 1)) ae_int (fun _ _ => rfl)) aa_nil)) (ae_var 2 (pv 2))) aa_nil)))))
    (ass_cons (as_set (i := 4) sc_law_near.nd rfl (Or.inl rfl) (ae_cal C_law_long (hr.mono (by decide)) (by rfl) (aa_cons (ae_var 1 (pv 1)) (aa_cons (ae_var 2 (pv 2)) (aa_cons (ae_var 3 (pv 3)) aa_nil)))))
    (ass_cons (as_set (i := 5) sc_law_near.nd rfl (Or.inl rfl) (ae_cal C_law_pick (hr.mono (by decide)) (by rfl) (aa_cons (ae_var 0 (pv 0)) (aa_cons (ae_lst (aa_cons (ae_tup (aa_cons ae_int (aa_cons ae_int aa_nil))) (aa_cons (ae_tup (aa_cons ae_int (aa_cons ae_int aa_nil))) (aa_cons (ae_tup (aa_cons ae_int (aa_cons (ae_op op_powA ae_int ae_int) aa_nil))) aa_nil)))) aa_nil))))
    (ass_cons (as_set (i := 6) sc_law_near.nd rfl (Or.inl rfl) (ae_cal C_law_draw (hr.mono (by decide)) (by rfl) (aa_cons (ae_var 0 (pv 0)) (aa_cons ae_int aa_nil))))
    (ass_cons (as_if (at_cmp op_ltA (ae_var 6 (pv 6)) ae_int (nomark _)) (ass_one (as_ret (ae_var 4 (pv 4)))) ass_nil)
    (ass_cons (as_if (at_cmp op_ltA (ae_var 6 (pv 6)) ae_int (nomark _)) (ass_one (as_ret (ae_cal C_law_sub (hr.mono (by decide)) (by rfl) (aa_cons (ae_var 4 (pv 4)) (aa_cons (ae_var 5 (pv 5)) aa_nil))))) ass_nil)
    (ass_cons (as_if (at_cmp (op_eqA hr.units) (ae_var 6 (pv 6)) ae_int (nomark _)) (ass_one (as_ret (ae_cal C_law_add (hr.mono (by decide)) (by rfl) (aa_cons (ae_var 4 (pv 4)) (aa_cons (ae_var 5 (pv 5)) aa_nil))))) ass_nil)
    (ass_cons (as_if (at_cmp (op_eqA hr.units) (ae_var 6 (pv 6)) ae_int (nomark _)) (ass_one (as_ret (ae_cal C_law_r (hr.mono (by decide)) (by rfl) (aa_cons (ae_op op_subA (ae_cal C_law_draw (hr.mono (by decide)) (by rfl) (aa_cons (ae_var 0 (pv 0)) (aa_cons ae_int aa_nil))) ae_int) (aa_cons (ae_op op_addA ae_int (ae_cal C_law_draw (hr.mono (by decide)) (by rfl) (aa_cons (ae_var 0 (pv 0)) (aa_cons ae_int aa_nil)))) aa_nil))))) ass_nil)
    (ass_one (as_ret (ae_cal C_law_pick (hr.mono (by decide)) (by rfl) (aa_cons (ae_var 0 (pv 0)) (aa_cons (ae_lst (aa_cons (ae_tup (aa_cons ae_int (aa_cons ae_int aa_nil))) (aa_cons (ae_tup (aa_cons (ae_un un_negA ae_int) (aa_cons ae_int aa_nil))) (aa_cons (ae_tup (aa_cons (ae_op op_powA ae_int ae_int) (aa_cons ae_int aa_nil))) aa_nil)))) aa_nil)))))))))))))))
    fun xs h R c1 c2 q => match xs, q with | [x0, x1], q => pure_law_near x0 x1 h R c1 c2 q
abbrev st_law_whole : Stmt := topS 28
theorem sc_law_whole : FnScope ["words", "width", "shares", "below", "share"] ["words", "width"] (defScope st_law_whole) := ⟨rfl, rfl, rfl, by decide +kernel, rfl, by decide +kernel, by decide +kernel⟩
theorem cal_law_whole (T : Txt K mg) (DF : DefIs K mg "_law_whole" st_law_whole) (C_law_gcd : Cal P w K mg base 1 "_law_gcd" ["a", "b"] sp_law_gcd) : Cal P w K mg base 2 "_law_whole" ["words", "width"] sp_law_whole :=
  .mk_ DF (fun F => F.binds (fun _ _ _ _ _ _ us hl => match us, hl with | [_, _], _ => rfl)) fun F => okA F sc_law_whole (fun _ _ _ _ q => A2_len q) (fun cdv A outer s H E hr =>
    (ass_cons (as_set (i := 2) sc_law_whole.nd rfl (Or.inl rfl) (ae_op op_addA (ae_callTy call_listA (by rfl) T.list (by decide +kernel) (aa_cons (ae_ix (ix_A (hu_of hr)) (ae_var 0 (pv 0)) ae_int (fun _ _ => rfl)) aa_nil)) (ae_lst (aa_cons (ae_ix (ix_A (hu_of hr)) (ae_var 0 (pv 0)) ae_int (fun _ _ => rfl)) (aa_cons (ae_var 1 (pv 1)) aa_nil)))))
    (ass_cons (as_set (i := 3) sc_law_whole.nd rfl (Or.inr rfl) ae_int)
    (ass_cons (as_for PassesOwn.never rfl (ai_seq (ae_var 2 (pv 2))) (ag_name (i := 4) sc_law_whole.nd rfl (Or.inl rfl)) (ass_one (as_set (i := 3) sc_law_whole.nd rfl (Or.inr rfl) (ae_op op_mulA (ae_var 3 (pv 3)) (ae_op op_fdivA (ae_ix (ix_A (hu_of hr)) (ae_var 4 (pv 4)) ae_int (fun _ _ => rfl)) (ae_cal C_law_gcd (hr.mono (by decide)) (by rfl) (aa_cons (ae_var 3 (pv 3)) (aa_cons (ae_ix (ix_A (hu_of hr)) (ae_var 4 (pv 4)) ae_int (fun _ _ => rfl)) aa_nil))))))))
    (ass_one (as_ret (ae_lc (gr := (gName 4)) rfl sc_law_whole.nd (ai_seq (ae_var 2 (pv 2))) (blkOk_by (N := ["words", "width", "shares", "below", "share"]) (sc := defScope st_law_whole) (own := [("share", 4)]) (by decide +kernel)) (cg_name (by decide)) (fun _ _ _ _ _ hq q => hq _ _ q) (fun _ _ _ _ _ => pg_name (i := 4) sc_law_whole.nd rfl (Or.inl rfl)) (fun _ _ _ _ _ => ats_nil) (fun _ _ _ _ _ => (ae_op op_mulA (ae_ix (ix_A (hu_of hr)) (ae_var 4 (pv 4)) ae_int (fun _ _ => rfl)) (ae_op op_fdivA (ae_var 3 (pv 3)) (ae_ix (ix_A (hu_of hr)) (ae_var 4 (pv 4)) ae_int (fun _ _ => rfl))))))))))))
    fun xs h R c1 c2 q => match xs, q with | [x0, x1], q => pure_law_whole x0 x1 h R c1 c2 q
abbrev st_law_count : Stmt := topS 29
theorem sc_law_count : FnScope ["sizes", "many", "width", "lines", "total", "k", "longer"] ["sizes", "many", "width"] (defScope st_law_count) := ⟨rfl, rfl, rfl, by decide +kernel, rfl, by decide +kernel, by decide +kernel⟩
theorem cal_law_count (T : Txt K mg) (DF : DefIs K mg "_law_count" st_law_count) : Cal P w K mg base 1 "_law_count" ["sizes", "many", "width"] sp_law_count :=
  .mk_ DF (fun F => F.binds (fun _ _ _ _ _ _ us hl => match us, hl with | [_, _, _], _ => rfl)) fun F => okA F sc_law_count (fun _ _ _ _ q => A3_len q) (fun cdv A outer s H E hr =>
    (ass_cons (as_set (i := 3) sc_law_count.nd rfl (Or.inl rfl) ae_int)
    (ass_cons (as_set (i := 4) sc_law_count.nd rfl (Or.inl rfl) (ae_ix (ix_A (hu_of hr)) (ae_var 0 (pv 0)) ae_int (fun _ _ => rfl)))
    (ass_cons (as_for PassesOwn.never rfl (ai_range2 (by rfl) T.range (aa_cons ae_int (aa_cons (ae_var 1 (pv 1)) aa_nil))) (ag_name (i := 5) sc_law_count.nd rfl (Or.inl rfl)) (ass_cons (as_set (i := 6) sc_law_count.nd rfl (Or.inl rfl) (ae_op op_addA (ae_op op_addA (ae_var 4 (pv 4)) (ae_ix (ix_A (hu_of hr)) (ae_var 0 (pv 0)) (ae_un un_negA ae_int) (fun _ _ => rfl))) (ae_ix (ix_A (hu_of hr)) (ae_var 0 (pv 0)) (ae_var 5 (pv 5)) (fun _ _ => rfl))))
    (ass_one (as_if (at_cmp op_leA (ae_var 6 (pv 6)) (ae_var 2 (pv 2)) (nomark _)) (ass_one (as_set (i := 4) sc_law_count.nd rfl (Or.inl rfl) (ae_var 6 (pv 6)))) (ass_cons (as_aug (i := 3) sc_law_count.nd rfl (Or.inl rfl) ae_int ip_addA)
    (ass_one (as_set (i := 4) sc_law_count.nd rfl (Or.inl rfl) (ae_ix (ix_A (hu_of hr)) (ae_var 0 (pv 0)) (ae_var 5 (pv 5)) (fun _ _ => rfl)))))))))
    (ass_one (as_ret (ae_var 3 (pv 3))))))))
    fun xs h R c1 c2 q => match xs, q with | [x0, x1, x2], q => pure_law_count x0 x1 x2 h R c1 c2 q
abbrev st_law_below : Stmt := topS 30
theorem sc_law_below : FnScope ["words", "below", "share"] ["words"] (defScope st_law_below) := ⟨rfl, rfl, rfl, by decide +kernel, rfl, by decide +kernel, by decide +kernel⟩
theorem cal_law_below (T : Txt K mg) (DF : DefIs K mg "_law_below" st_law_below) (C_law_gcd : Cal P w K mg base 1 "_law_gcd" ["a", "b"] sp_law_gcd) : Cal P w K mg base 2 "_law_below" ["words"] sp_law_below :=
  .mk_ DF (fun F => F.binds (fun _ _ _ _ _ _ us hl => match us, hl with | [_], _ => rfl)) fun F => okA F sc_law_below (fun _ _ _ _ q => A1_len q) (fun cdv A outer s H E hr =>
    (ass_cons (as_set (i := 1) sc_law_below.nd rfl (Or.inl rfl) ae_int)
    (ass_cons (as_for PassesOwn.never rfl (ai_seq (ae_op op_addA (ae_callTy call_listA (by rfl) T.list (by decide +kernel) (aa_cons (ae_ix (ix_A (hu_of hr)) (ae_var 0 (pv 0)) ae_int (fun _ _ => rfl)) aa_nil)) (ae_lst (aa_cons (ae_ix (ix_A (hu_of hr)) (ae_var 0 (pv 0)) ae_int (fun _ _ => rfl)) aa_nil)))) (ag_name (i := 2) sc_law_below.nd rfl (Or.inl rfl)) (ass_one (as_set (i := 1) sc_law_below.nd rfl (Or.inl rfl) (ae_op op_mulA (ae_var 1 (pv 1)) (ae_op op_fdivA (ae_ix (ix_A (hu_of hr)) (ae_var 2 (pv 2)) ae_int (fun _ _ => rfl)) (ae_cal C_law_gcd (hr.mono (by decide)) (by rfl) (aa_cons (ae_var 1 (pv 1)) (aa_cons (ae_ix (ix_A (hu_of hr)) (ae_var 2 (pv 2)) ae_int (fun _ _ => rfl)) aa_nil))))))))
    (ass_one (as_ret (ae_var 1 (pv 1)))))))
    fun xs h R c1 c2 q => match xs, q with | [x0], q => pure_law_below x0 h R c1 c2 q
abbrev st_law_changes : Stmt := topS 31
theorem sc_law_changes : FnScope ["words", "many", "sizes", "found", "first", "total", "last", "told", "width", "lines", "size"] ["words"] (defScope st_law_changes) := ⟨rfl, rfl, rfl, by decide +kernel, rfl, by decide +kernel, by decide +kernel⟩
theorem cal_law_changes (T : Txt K mg) (DF : DefIs K mg "_law_changes" st_law_changes) (C_law_r : Cal P w K mg base 2 "_law_r" ["n", "d"] sp_law_r) (C_law_whole : Cal P w K mg base 2 "_law_whole" ["words", "width"] sp_law_whole) (C_law_count : Cal P w K mg base 1 "_law_count" ["sizes", "many", "width"] sp_law_count) (C_law_below : Cal P w K mg base 2 "_law_below" ["words"] sp_law_below) : Cal P w K mg base 3 "_law_changes" ["words"] sp_law_changes :=
  .mk_ DF (fun F => F.binds (fun _ _ _ _ _ _ us hl => match us, hl with | [_], _ => rfl)) fun F => okA F sc_law_changes (fun _ _ _ _ q => A1_len q) (fun cdv A outer s H E hr =>
    (ass_cons (as_set (i := 1) sc_law_changes.nd rfl (Or.inl rfl) (ae_callB call_lenA (by rfl) T.len (by decide +kernel) (aa_cons (ae_ix (ix_A (hu_of hr)) (ae_var 0 (pv 0)) ae_int (fun _ _ => rfl)) aa_nil)))
    (ass_cons (as_setLc (i := 2) (gr := (gName 10)) rfl sc_law_changes.nd rfl rfl (sw_true rfl rfl rfl (by decide +kernel)) (ai_seq (ae_cal C_law_whole (hr.mono (by decide)) (by rfl) (aa_cons (ae_var 0 (pv 0)) (aa_cons (ae_tup (aa_cons ae_int (aa_cons ae_int aa_nil))) aa_nil)))) (blkOk_by (N := ["words", "many", "sizes", "found", "first", "total", "last", "told", "width", "lines", "size"]) (sc := defScope st_law_changes) (own := [("size", 10)]) (by decide +kernel)) (cg_name (by decide)) (fun _ _ _ _ _ hq q => hq _ _ q) (fun _ _ _ _ _ => pg_name (i := 10) sc_law_changes.nd rfl (Or.inl rfl)) (fun _ _ _ _ _ => ats_nil) (fun _ _ _ _ _ => (ae_op op_mulA ae_int (ae_var 10 (pv 10)))))
    (ass_cons (as_set (i := 3) sc_law_changes.nd rfl (Or.inl rfl) ae_dnew)
    (ass_cons (as_for PassesOwn.never rfl (ai_range1 (by rfl) T.range (aa_cons (ae_var 1 (pv 1)) aa_nil)) (ag_name (i := 4) sc_law_changes.nd rfl (Or.inl rfl)) (ass_cons (as_set (i := 5) sc_law_changes.nd rfl (Or.inl rfl) (ae_ix (ix_A (hu_of hr)) (ae_var 2 (pv 2)) (ae_var 4 (pv 4)) (fun _ _ => rfl)))
    (ass_one (as_for PassesOwn.never rfl (ai_range2 (by rfl) T.range (aa_cons (ae_op op_addA (ae_var 4 (pv 4)) ae_int) (aa_cons (ae_var 1 (pv 1)) aa_nil))) (ag_name (i := 6) sc_law_changes.nd rfl (Or.inl rfl)) (ass_cons (as_set (i := 5) sc_law_changes.nd rfl (Or.inl rfl) (ae_op op_addA (ae_op op_addA (ae_var 5 (pv 5)) (ae_ix (ix_A (hu_of hr)) (ae_var 2 (pv 2)) (ae_un un_negA ae_int) (fun _ _ => rfl))) (ae_ix (ix_A (hu_of hr)) (ae_var 2 (pv 2)) (ae_var 6 (pv 6)) (fun _ _ => rfl))))
    (ass_one (as_asg ae_bl (ag_sub (ae_var 3 (pv 3)) (ae_var 5 (pv 5)) (set_A (hu_of hr))))))))))
    (ass_cons (as_set (i := 7) sc_law_changes.nd rfl (Or.inl rfl) (ae_lst aa_nil))
    (ass_cons (as_for PassesOwn.never rfl (ai_seq (ae_callB (call_sortedA rfl) (by rfl) T.sorted (by decide +kernel) (aa_cons (ae_var 3 (pv 3)) aa_nil))) (ag_name (i := 8) sc_law_changes.nd rfl (Or.inl rfl)) (ass_cons (as_set (i := 9) sc_law_changes.nd rfl (Or.inl rfl) (ae_cal C_law_count (hr.mono (by decide)) (by rfl) (aa_cons (ae_var 2 (pv 2)) (aa_cons (ae_var 1 (pv 1)) (aa_cons (ae_var 8 (pv 8)) aa_nil)))))
    (ass_one (as_if (at_cmp (op_neA hr.units) (ae_var 9 (pv 9)) (ae_cal C_law_count (hr.mono (by decide)) (by rfl) (aa_cons (ae_var 2 (pv 2)) (aa_cons (ae_var 1 (pv 1)) (aa_cons (ae_op op_subA (ae_var 8 (pv 8)) ae_int) aa_nil)))) (nomark _)) (ass_one (as_expr (ae_bm (ts := fun _ _ _ => False) ok_lst (pe_bm PySem.F.plainAttrs_list PySem.F.slot_list_append PySem.F.type_list_append mt_appendA (ae_var 7 (pv 7)) (aa_cons (ae_tup (aa_cons (ae_cal C_law_r (hr.mono (by decide)) (by rfl) (aa_cons (ae_var 8 (pv 8)) (aa_cons (ae_op op_mulA ae_int (ae_cal C_law_below (hr.mono (by decide)) (by rfl) (aa_cons (ae_var 0 (pv 0)) aa_nil))) aa_nil))) (aa_cons (ae_var 9 (pv 9)) aa_nil))) aa_nil))))) ass_nil))))
    (ass_one (as_ret (ae_callTy call_tupleA (by rfl) T.tuple (by decide +kernel) (aa_cons (ae_var 7 (pv 7)) aa_nil)))))))))))
    fun xs h R c1 c2 q => match xs, q with | [x0], q => pure_law_changes x0 h R c1 c2 q
abbrev st_law_is_steps : Stmt := topS 32
theorem sc_law_is_steps : FnScope ["told", "due", "step", "own"] ["told", "due"] (defScope st_law_is_steps) := ⟨rfl, rfl, rfl, by decide +kernel, rfl, by decide +kernel, by decide +kernel⟩
theorem cal_law_is_steps (T : Txt K mg) (DF : DefIs K mg "_law_is_steps" st_law_is_steps) (C_law_is_int : Cal P w K mg base 1 "_law_is_int" ["thing"] sp_law_is_int) (C_law_is_r : Cal P w K mg base 2 "_law_is_r" ["thing"] sp_law_is_r) : Cal P w K mg base 3 "_law_is_steps" ["told", "due"] sp_law_is_steps :=
  .mk_ DF (fun F => F.binds (fun _ _ _ _ _ _ us hl => match us, hl with | [_, _], _ => rfl)) fun F => okA F sc_law_is_steps (fun _ _ _ _ q => A2_len q) (fun cdv A outer s H E hr =>
    (ass_cons (as_if (at_w (aw_or (at_not (at_tru tru_A (ae_callB call_instA (by rfl) T.isinstance (by decide +kernel) (aa_cons (ae_var 0 (pv 0)) (aa_cons (ae_ty (by rfl) T.tuple (by decide +kernel)) aa_nil))))) (aw_or1 (at_cmp (op_neA hr.units) (ae_callB call_lenA (by rfl) T.len (by decide +kernel) (aa_cons (ae_var 0 (pv 0)) aa_nil)) (ae_callB call_lenA (by rfl) T.len (by decide +kernel) (aa_cons (ae_var 1 (pv 1)) aa_nil)) (nomark _))))) (ass_one (as_ret ae_bl)) ass_nil)
    (ass_cons (as_for PassesOwn.never rfl (ai_zip (by rfl) T.zip (aa_cons (ae_var 0 (pv 0)) (aa_cons (ae_var 1 (pv 1)) aa_nil))) (ag_tup rfl (ags_cons (ag_name (i := 2) sc_law_is_steps.nd rfl (Or.inl rfl)) (ags_cons (ag_name (i := 3) sc_law_is_steps.nd rfl (Or.inl rfl)) ags_nil))) (ass_cons (as_if (at_w (aw_or (at_not (at_tru tru_A (ae_callB call_instA (by rfl) T.isinstance (by decide +kernel) (aa_cons (ae_var 2 (pv 2)) (aa_cons (ae_ty (by rfl) T.tuple (by decide +kernel)) aa_nil))))) (aw_or1 (at_cmp (op_neA hr.units) (ae_callB call_lenA (by rfl) T.len (by decide +kernel) (aa_cons (ae_var 2 (pv 2)) aa_nil)) ae_int (nomark _))))) (ass_one (as_ret ae_bl)) ass_nil)
    (ass_cons (as_if (at_w (aw_or (at_not (at_tru tru_A (ae_cal C_law_is_r (hr.mono (by decide)) (by rfl) (aa_cons (ae_ix (ix_A (hu_of hr)) (ae_var 2 (pv 2)) ae_int (fun _ _ => rfl)) aa_nil)))) (aw_or1 (at_not (at_tru tru_A (ae_cal C_law_is_int (hr.mono (by decide)) (by rfl) (aa_cons (ae_ix (ix_A (hu_of hr)) (ae_var 2 (pv 2)) ae_int (fun _ _ => rfl)) aa_nil))))))) (ass_one (as_ret ae_bl)) ass_nil)
    (ass_one (as_if (at_w (aw_or (at_cmp (op_neA hr.units) (ae_ix (ix_A (hu_of hr)) (ae_var 2 (pv 2)) ae_int (fun _ _ => rfl)) (ae_ix (ix_A (hu_of hr)) (ae_var 3 (pv 3)) ae_int (fun _ _ => rfl)) (nomark _)) (aw_or1 (at_cmp (op_neA hr.units) (ae_ix (ix_A (hu_of hr)) (ae_var 2 (pv 2)) ae_int (fun _ _ => rfl)) (ae_ix (ix_A (hu_of hr)) (ae_var 3 (pv 3)) ae_int (fun _ _ => rfl)) (nomark _))))) (ass_one (as_ret ae_bl)) ass_nil)))))
    (ass_one (as_ret ae_bl)))))
    fun xs h R c1 c2 q => match xs, q with | [x0, x1], q => pure_law_is_steps x0 x1 h R c1 c2 q
abbrev st_law_read : Stmt := topS 33
theorem sc_law_read : FnScope ["told", "many", "width", "lines", "step"] ["told", "many", "width"] (defScope st_law_read) := ⟨rfl, rfl, rfl, by decide +kernel, rfl, by decide +kernel, by decide +kernel⟩
theorem cal_law_read (T : Txt K mg) (DF : DefIs K mg "_law_read" st_law_read) (C_law_lt : Cal P w K mg base 1 "_law_lt" ["a", "b"] sp_law_lt) : Cal P w K mg base 2 "_law_read" ["told", "many", "width"] sp_law_read :=
  .mk_ DF (fun F => F.binds (fun _ _ _ _ _ _ us hl => match us, hl with | [_, _, _], _ => rfl)) fun F => okA F sc_law_read (fun _ _ _ _ q => A3_len q) (fun cdv A outer s H E hr =>
    (ass_cons (as_set (i := 3) sc_law_read.nd rfl (Or.inl rfl) (ae_var 1 (pv 1)))
    (ass_cons (as_for PassesOwn.never rfl (ai_seq (ae_var 0 (pv 0))) (ag_name (i := 4) sc_law_read.nd rfl (Or.inl rfl)) (ass_one (as_if (at_not (at_tru tru_A (ae_cal C_law_lt (hr.mono (by decide)) (by rfl) (aa_cons (ae_var 2 (pv 2)) (aa_cons (ae_ix (ix_A (hu_of hr)) (ae_var 4 (pv 4)) ae_int (fun _ _ => rfl)) aa_nil))))) (ass_one (as_set (i := 3) sc_law_read.nd rfl (Or.inl rfl) (ae_ix (ix_A (hu_of hr)) (ae_var 4 (pv 4)) ae_int (fun _ _ => rfl)))) ass_nil)))
    (ass_one (as_ret (ae_var 3 (pv 3)))))))
    fun xs h R c1 c2 q => match xs, q with | [x0, x1, x2], q => pure_law_read x0 x1 x2 h R c1 c2 q
abbrev st_law : Stmt := topS 34
theorem sc_law : FnScope ["script", "d", "both", "todo", "words", "widths", "told", "many", "width", "sizes", "k"] ["script"] (defScope st_law) := ⟨rfl, rfl, rfl, by decide +kernel, rfl, by decide +kernel, by decide +kernel⟩
theorem ok_law (T : Txt K mg) {f : Addr} {fd : FuncData} (F : Fun K "law" "law" st_law f fd) (C_steps_of : Cal P w K mg base 5 "steps_of" ["words"] sp_steps_of) (C_law_begin : Cal P w K mg base 1 "_law_begin" ["script"] sp_law_begin) (C_law_told_words : Cal P w K mg base 4 "_law_told_words" ["d", "name", "most"] sp_law_told_words) (C_law_near : Cal P w K mg base 5 "_law_near" ["d", "words"] sp_law_near) (C_law_whole : Cal P w K mg base 2 "_law_whole" ["words", "width"] sp_law_whole) (C_law_count : Cal P w K mg base 1 "_law_count" ["sizes", "many", "width"] sp_law_count) (C_law_changes : Cal P w K mg base 3 "_law_changes" ["words"] sp_law_changes) (C_law_is_steps : Cal P w K mg base 3 "_law_is_steps" ["told", "due"] sp_law_is_steps) (C_law_read : Cal P w K mg base 2 "_law_read" ["told", "many", "width"] sp_law_read) : FnOk P w K mg base CX0 6 f fd ["script"] (upSp K sp_law) :=
  okA F sc_law (fun _ _ _ _ q => A1_len q) (fun cdv A outer s H E hr =>
    (ass_cons (as_set (i := 1) sc_law.nd rfl (Or.inr rfl) (ae_cal C_law_begin (hr.mono (by decide)) (by rfl) (aa_cons (ae_var 0 (pv 0)) aa_nil)))
    (ass_cons (as_set (i := 2) sc_law.nd rfl (Or.inl rfl) (ae_lst (aa_cons (ae_cal C_law_told_words (hr.mono (by decide)) (by rfl) (aa_cons (ae_var 1 (pv 1)) (aa_cons ae_str (aa_cons ae_int aa_nil)))) (aa_cons (ae_cal C_law_told_words (hr.mono (by decide)) (by rfl) (aa_cons (ae_var 1 (pv 1)) (aa_cons ae_str (aa_cons ae_int aa_nil)))) aa_nil))))
    (ass_cons (as_set (i := 3) sc_law.nd rfl (Or.inl rfl) (ae_lst aa_nil))
    (ass_cons (as_for PassesOwn.never rfl (ai_seq (ae_var 2 (pv 2))) (ag_name (i := 4) sc_law.nd rfl (Or.inr rfl)) (ass_one (as_expr (ae_bm (ts := fun _ _ _ => False) ok_lst (pe_bm PySem.F.plainAttrs_list PySem.F.slot_list_append PySem.F.type_list_append mt_appendA (ae_var 3 (pv 3)) (aa_cons (ae_tup (aa_cons (ae_var 4 (pv 4)) (aa_cons (ae_lc (gr := (gName 10)) rfl sc_law.nd (ai_range1 (by rfl) T.range (aa_cons ae_int aa_nil)) (blkOk_by (N := ["script", "d", "both", "todo", "words", "widths", "told", "many", "width", "sizes", "k"]) (sc := defScope st_law) (own := [("k", 10)]) (by decide +kernel)) (cg_name (by decide)) (fun _ _ _ _ _ hq q => hq _ _ q) (fun _ _ _ _ _ => pg_name (i := 10) sc_law.nd rfl (Or.inl rfl)) (fun _ _ _ _ _ => ats_nil) (fun _ _ _ _ _ => (ae_cal C_law_near (hr.mono (by decide)) (by rfl) (aa_cons (ae_var 1 (pv 1)) (aa_cons (ae_var 4 (pv 4)) aa_nil))))) aa_nil))) aa_nil))))))
    (ass_cons (as_expr (ae_bm (ts := fun _ _ _ => False) ok_lst (pe_bm PySem.F.plainAttrs_list PySem.F.slot_list_append PySem.F.type_list_append mt_appendA (ae_var 3 (pv 3)) (aa_cons (ae_tup (aa_cons (ae_ix (ix_A (hu_of hr)) (ae_var 2 (pv 2)) ae_int (fun _ _ => rfl)) (aa_cons (ae_lst aa_nil) aa_nil))) aa_nil))))
    (ass_cons (as_for PassesOwn.never rfl (ai_seq (ae_var 3 (pv 3))) (ag_tup rfl (ags_cons (ag_name (i := 4) sc_law.nd rfl (Or.inr rfl)) (ags_cons (ag_name (i := 5) sc_law.nd rfl (Or.inl rfl)) ags_nil))) (ass_cons (as_set (i := 6) sc_law.nd rfl (Or.inl rfl) (ae_cal C_steps_of (hr.mono (by decide)) (by rfl) (aa_cons (ae_var 4 (pv 4)) aa_nil)))
    (ass_cons (as_if (at_not (at_tru tru_A (ae_cal C_law_is_steps (hr.mono (by decide)) (by rfl) (aa_cons (ae_var 6 (pv 6)) (aa_cons (ae_cal C_law_changes (hr.mono (by decide)) (by rfl) (aa_cons (ae_var 4 (pv 4)) aa_nil)) aa_nil))))) (ass_one (as_ret ae_bl)) ass_nil)
    (ass_cons (as_set (i := 7) sc_law.nd rfl (Or.inl rfl) (ae_callB call_lenA (by rfl) T.len (by decide +kernel) (aa_cons (ae_ix (ix_A (hu_of hr)) (ae_var 4 (pv 4)) ae_int (fun _ _ => rfl)) aa_nil)))
    (ass_one (as_for PassesOwn.never rfl (ai_seq (ae_var 5 (pv 5))) (ag_name (i := 8) sc_law.nd rfl (Or.inl rfl)) (ass_cons (as_set (i := 9) sc_law.nd rfl (Or.inl rfl) (ae_cal C_law_whole (hr.mono (by decide)) (by rfl) (aa_cons (ae_var 4 (pv 4)) (aa_cons (ae_var 8 (pv 8)) aa_nil))))
    (ass_one (as_if (at_cmp (op_neA hr.units) (ae_cal C_law_read (hr.mono (by decide)) (by rfl) (aa_cons (ae_var 6 (pv 6)) (aa_cons (ae_var 7 (pv 7)) (aa_cons (ae_var 8 (pv 8)) aa_nil)))) (ae_cal C_law_count (hr.mono (by decide)) (by rfl) (aa_cons (ae_var 9 (pv 9)) (aa_cons (ae_var 7 (pv 7)) (aa_cons (ae_ix (ix_A (hu_of hr)) (ae_var 9 (pv 9)) (ae_un un_negA ae_int) (fun _ _ => rfl)) aa_nil)))) (nomark _)) (ass_one (as_ret ae_bl)) ass_nil)))))))))
    (ass_one (as_ret ae_bl)))))))))
    fun xs h R c1 c2 q => match xs, q with | [x0], q => pure_law x0 h R c1 c2 q
end
theorem all_mk {l : PySem.W.OpenLaw} {w : World} {K : PySem.W.Frag} {h : Heap} {mg : Str → Option Value} {fa : Addr} (X : K.In h) (G : h.Ns mainGlobals mg) (hfa : mg "law" = some (.ref fa))
    {f_ratio : Addr} {od_ratio an_ratio : Option Addr} {sl_ratio : Array (Option Value)} {oc_ratio kV_ratio dc_ratio pm_ratio cd_ratio ct_ratio : Value}
    {f_less : Addr} {od_less an_less : Option Addr} {sl_less : Array (Option Value)} {oc_less kV_less dc_less pm_less cd_less ct_less : Value}
    {f_at_most : Addr} {od_at_most an_at_most : Option Addr} {sl_at_most : Array (Option Value)} {oc_at_most kV_at_most dc_at_most pm_at_most cd_at_most ct_at_most : Value}
    {f_law_begin : Addr} {od_law_begin an_law_begin : Option Addr} {sl_law_begin : Array (Option Value)} {oc_law_begin kV_law_begin dc_law_begin pm_law_begin cd_law_begin ct_law_begin : Value}
    {f_law_draw : Addr} {od_law_draw an_law_draw : Option Addr} {sl_law_draw : Array (Option Value)} {oc_law_draw kV_law_draw dc_law_draw pm_law_draw cd_law_draw ct_law_draw : Value}
    {f_law_gcd : Addr} {od_law_gcd an_law_gcd : Option Addr} {sl_law_gcd : Array (Option Value)} {oc_law_gcd kV_law_gcd dc_law_gcd pm_law_gcd cd_law_gcd ct_law_gcd : Value}
    {f_law_lt : Addr} {od_law_lt an_law_lt : Option Addr} {sl_law_lt : Array (Option Value)} {oc_law_lt kV_law_lt dc_law_lt pm_law_lt cd_law_lt ct_law_lt : Value}
    {f_law_is_int : Addr} {od_law_is_int an_law_is_int : Option Addr} {sl_law_is_int : Array (Option Value)} {oc_law_is_int kV_law_is_int dc_law_is_int pm_law_is_int cd_law_is_int ct_law_is_int : Value}
    {f_law_count : Addr} {od_law_count an_law_count : Option Addr} {sl_law_count : Array (Option Value)} {oc_law_count kV_law_count dc_law_count pm_law_count cd_law_count ct_law_count : Value}
    {f_plus : Addr} {od_plus an_plus : Option Addr} {sl_plus : Array (Option Value)} {oc_plus kV_plus dc_plus pm_plus cd_plus ct_plus : Value}
    {f_ordered : Addr} {od_ordered an_ordered : Option Addr} {sl_ordered : Array (Option Value)} {oc_ordered kV_ordered dc_ordered pm_ordered cd_ordered ct_ordered : Value}
    {f_law_pick : Addr} {od_law_pick an_law_pick : Option Addr} {sl_law_pick : Array (Option Value)} {oc_law_pick kV_law_pick dc_law_pick pm_law_pick cd_law_pick ct_law_pick : Value}
    {f_law_r : Addr} {od_law_r an_law_r : Option Addr} {sl_law_r : Array (Option Value)} {oc_law_r kV_law_r dc_law_r pm_law_r cd_law_r ct_law_r : Value}
    {f_law_is_r : Addr} {od_law_is_r an_law_is_r : Option Addr} {sl_law_is_r : Array (Option Value)} {oc_law_is_r kV_law_is_r dc_law_is_r pm_law_is_r cd_law_is_r ct_law_is_r : Value}
    {f_law_whole : Addr} {od_law_whole an_law_whole : Option Addr} {sl_law_whole : Array (Option Value)} {oc_law_whole kV_law_whole dc_law_whole pm_law_whole cd_law_whole ct_law_whole : Value}
    {f_law_below : Addr} {od_law_below an_law_below : Option Addr} {sl_law_below : Array (Option Value)} {oc_law_below kV_law_below dc_law_below pm_law_below cd_law_below ct_law_below : Value}
    {f_law_read : Addr} {od_law_read an_law_read : Option Addr} {sl_law_read : Array (Option Value)} {oc_law_read kV_law_read dc_law_read pm_law_read cd_law_read ct_law_read : Value}
    {f_run_width : Addr} {od_run_width an_run_width : Option Addr} {sl_run_width : Array (Option Value)} {oc_run_width kV_run_width dc_run_width pm_run_width cd_run_width ct_run_width : Value}
    {f_line_rows : Addr} {od_line_rows an_line_rows : Option Addr} {sl_line_rows : Array (Option Value)} {oc_line_rows kV_line_rows dc_line_rows pm_line_rows cd_line_rows ct_line_rows : Value}
    {f_law_add : Addr} {od_law_add an_law_add : Option Addr} {sl_law_add : Array (Option Value)} {oc_law_add kV_law_add dc_law_add pm_law_add cd_law_add ct_law_add : Value}
    {f_law_sub : Addr} {od_law_sub an_law_sub : Option Addr} {sl_law_sub : Array (Option Value)} {oc_law_sub kV_law_sub dc_law_sub pm_law_sub cd_law_sub ct_law_sub : Value}
    {f_law_size : Addr} {od_law_size an_law_size : Option Addr} {sl_law_size : Array (Option Value)} {oc_law_size kV_law_size dc_law_size pm_law_size cd_law_size ct_law_size : Value}
    {f_law_changes : Addr} {od_law_changes an_law_changes : Option Addr} {sl_law_changes : Array (Option Value)} {oc_law_changes kV_law_changes dc_law_changes pm_law_changes cd_law_changes ct_law_changes : Value}
    {f_law_is_steps : Addr} {od_law_is_steps an_law_is_steps : Option Addr} {sl_law_is_steps : Array (Option Value)} {oc_law_is_steps kV_law_is_steps dc_law_is_steps pm_law_is_steps cd_law_is_steps ct_law_is_steps : Value}
    {f_run_widths : Addr} {od_run_widths an_run_widths : Option Addr} {sl_run_widths : Array (Option Value)} {oc_run_widths kV_run_widths dc_run_widths pm_run_widths cd_run_widths ct_run_widths : Value}
    {f_law_told_words : Addr} {od_law_told_words an_law_told_words : Option Addr} {sl_law_told_words : Array (Option Value)} {oc_law_told_words kV_law_told_words dc_law_told_words pm_law_told_words cd_law_told_words ct_law_told_words : Value}
    {f_law_long : Addr} {od_law_long an_law_long : Option Addr} {sl_law_long : Array (Option Value)} {oc_law_long kV_law_long dc_law_long pm_law_long cd_law_long ct_law_long : Value}
    {f_steps_of : Addr} {od_steps_of an_steps_of : Option Addr} {sl_steps_of : Array (Option Value)} {oc_steps_of kV_steps_of dc_steps_of pm_steps_of cd_steps_of ct_steps_of : Value}
    {f_law_near : Addr} {od_law_near an_law_near : Option Addr} {sl_law_near : Array (Option Value)} {oc_law_near kV_law_near dc_law_near pm_law_near cd_law_near ct_law_near : Value}
    {f_law : Addr} {od_law an_law : Option Addr} {sl_law : Array (Option Value)} {oc_law kV_law dc_law pm_law cd_law ct_law : Value}
    (a_ratio : PySem.W.nsIn K mainGlobals "ratio" = some (some (.ref f_ratio)))
    (l_ratio : K.lookup f_ratio = some ⟨oc_ratio, od_ratio, .func (PySem.W.fnOf "ratio" "ratio" (defArgs st_ratio) (defBody st_ratio) (defScope st_ratio) .none kV_ratio dc_ratio pm_ratio an_ratio cd_ratio ct_ratio), sl_ratio⟩)
    (c_ratio : PySem.W.codeIn K cd_ratio "ratio" = true)
    (k_ratio : PySem.W.keepIn K (.ref f_ratio) = true)
    (a_less : PySem.W.nsIn K mainGlobals "less" = some (some (.ref f_less)))
    (l_less : K.lookup f_less = some ⟨oc_less, od_less, .func (PySem.W.fnOf "less" "less" (defArgs st_less) (defBody st_less) (defScope st_less) .none kV_less dc_less pm_less an_less cd_less ct_less), sl_less⟩)
    (c_less : PySem.W.codeIn K cd_less "less" = true)
    (k_less : PySem.W.keepIn K (.ref f_less) = true)
    (a_at_most : PySem.W.nsIn K mainGlobals "at_most" = some (some (.ref f_at_most)))
    (l_at_most : K.lookup f_at_most = some ⟨oc_at_most, od_at_most, .func (PySem.W.fnOf "at_most" "at_most" (defArgs st_at_most) (defBody st_at_most) (defScope st_at_most) .none kV_at_most dc_at_most pm_at_most an_at_most cd_at_most ct_at_most), sl_at_most⟩)
    (c_at_most : PySem.W.codeIn K cd_at_most "at_most" = true)
    (k_at_most : PySem.W.keepIn K (.ref f_at_most) = true)
    (a_law_begin : PySem.W.nsIn K mainGlobals "_law_begin" = some (some (.ref f_law_begin)))
    (l_law_begin : K.lookup f_law_begin = some ⟨oc_law_begin, od_law_begin, .func (PySem.W.fnOf "_law_begin" "_law_begin" (defArgs st_law_begin) (defBody st_law_begin) (defScope st_law_begin) .none kV_law_begin dc_law_begin pm_law_begin an_law_begin cd_law_begin ct_law_begin), sl_law_begin⟩)
    (c_law_begin : PySem.W.codeIn K cd_law_begin "_law_begin" = true)
    (k_law_begin : PySem.W.keepIn K (.ref f_law_begin) = true)
    (a_law_draw : PySem.W.nsIn K mainGlobals "_law_draw" = some (some (.ref f_law_draw)))
    (l_law_draw : K.lookup f_law_draw = some ⟨oc_law_draw, od_law_draw, .func (PySem.W.fnOf "_law_draw" "_law_draw" (defArgs st_law_draw) (defBody st_law_draw) (defScope st_law_draw) .none kV_law_draw dc_law_draw pm_law_draw an_law_draw cd_law_draw ct_law_draw), sl_law_draw⟩)
    (c_law_draw : PySem.W.codeIn K cd_law_draw "_law_draw" = true)
    (k_law_draw : PySem.W.keepIn K (.ref f_law_draw) = true)
    (a_law_gcd : PySem.W.nsIn K mainGlobals "_law_gcd" = some (some (.ref f_law_gcd)))
    (l_law_gcd : K.lookup f_law_gcd = some ⟨oc_law_gcd, od_law_gcd, .func (PySem.W.fnOf "_law_gcd" "_law_gcd" (defArgs st_law_gcd) (defBody st_law_gcd) (defScope st_law_gcd) .none kV_law_gcd dc_law_gcd pm_law_gcd an_law_gcd cd_law_gcd ct_law_gcd), sl_law_gcd⟩)
    (c_law_gcd : PySem.W.codeIn K cd_law_gcd "_law_gcd" = true)
    (k_law_gcd : PySem.W.keepIn K (.ref f_law_gcd) = true)
    (a_law_lt : PySem.W.nsIn K mainGlobals "_law_lt" = some (some (.ref f_law_lt)))
    (l_law_lt : K.lookup f_law_lt = some ⟨oc_law_lt, od_law_lt, .func (PySem.W.fnOf "_law_lt" "_law_lt" (defArgs st_law_lt) (defBody st_law_lt) (defScope st_law_lt) .none kV_law_lt dc_law_lt pm_law_lt an_law_lt cd_law_lt ct_law_lt), sl_law_lt⟩)
    (c_law_lt : PySem.W.codeIn K cd_law_lt "_law_lt" = true)
    (k_law_lt : PySem.W.keepIn K (.ref f_law_lt) = true)
    (a_law_is_int : PySem.W.nsIn K mainGlobals "_law_is_int" = some (some (.ref f_law_is_int)))
    (l_law_is_int : K.lookup f_law_is_int = some ⟨oc_law_is_int, od_law_is_int, .func (PySem.W.fnOf "_law_is_int" "_law_is_int" (defArgs st_law_is_int) (defBody st_law_is_int) (defScope st_law_is_int) .none kV_law_is_int dc_law_is_int pm_law_is_int an_law_is_int cd_law_is_int ct_law_is_int), sl_law_is_int⟩)
    (c_law_is_int : PySem.W.codeIn K cd_law_is_int "_law_is_int" = true)
    (k_law_is_int : PySem.W.keepIn K (.ref f_law_is_int) = true)
    (a_law_count : PySem.W.nsIn K mainGlobals "_law_count" = some (some (.ref f_law_count)))
    (l_law_count : K.lookup f_law_count = some ⟨oc_law_count, od_law_count, .func (PySem.W.fnOf "_law_count" "_law_count" (defArgs st_law_count) (defBody st_law_count) (defScope st_law_count) .none kV_law_count dc_law_count pm_law_count an_law_count cd_law_count ct_law_count), sl_law_count⟩)
    (c_law_count : PySem.W.codeIn K cd_law_count "_law_count" = true)
    (k_law_count : PySem.W.keepIn K (.ref f_law_count) = true)
    (a_plus : PySem.W.nsIn K mainGlobals "plus" = some (some (.ref f_plus)))
    (l_plus : K.lookup f_plus = some ⟨oc_plus, od_plus, .func (PySem.W.fnOf "plus" "plus" (defArgs st_plus) (defBody st_plus) (defScope st_plus) .none kV_plus dc_plus pm_plus an_plus cd_plus ct_plus), sl_plus⟩)
    (c_plus : PySem.W.codeIn K cd_plus "plus" = true)
    (k_plus : PySem.W.keepIn K (.ref f_plus) = true)
    (a_ordered : PySem.W.nsIn K mainGlobals "ordered" = some (some (.ref f_ordered)))
    (l_ordered : K.lookup f_ordered = some ⟨oc_ordered, od_ordered, .func (PySem.W.fnOf "ordered" "ordered" (defArgs st_ordered) (defBody st_ordered) (defScope st_ordered) .none kV_ordered dc_ordered pm_ordered an_ordered cd_ordered ct_ordered), sl_ordered⟩)
    (c_ordered : PySem.W.codeIn K cd_ordered "ordered" = true)
    (k_ordered : PySem.W.keepIn K (.ref f_ordered) = true)
    (a_law_pick : PySem.W.nsIn K mainGlobals "_law_pick" = some (some (.ref f_law_pick)))
    (l_law_pick : K.lookup f_law_pick = some ⟨oc_law_pick, od_law_pick, .func (PySem.W.fnOf "_law_pick" "_law_pick" (defArgs st_law_pick) (defBody st_law_pick) (defScope st_law_pick) .none kV_law_pick dc_law_pick pm_law_pick an_law_pick cd_law_pick ct_law_pick), sl_law_pick⟩)
    (c_law_pick : PySem.W.codeIn K cd_law_pick "_law_pick" = true)
    (k_law_pick : PySem.W.keepIn K (.ref f_law_pick) = true)
    (a_law_r : PySem.W.nsIn K mainGlobals "_law_r" = some (some (.ref f_law_r)))
    (l_law_r : K.lookup f_law_r = some ⟨oc_law_r, od_law_r, .func (PySem.W.fnOf "_law_r" "_law_r" (defArgs st_law_r) (defBody st_law_r) (defScope st_law_r) .none kV_law_r dc_law_r pm_law_r an_law_r cd_law_r ct_law_r), sl_law_r⟩)
    (c_law_r : PySem.W.codeIn K cd_law_r "_law_r" = true)
    (k_law_r : PySem.W.keepIn K (.ref f_law_r) = true)
    (a_law_is_r : PySem.W.nsIn K mainGlobals "_law_is_r" = some (some (.ref f_law_is_r)))
    (l_law_is_r : K.lookup f_law_is_r = some ⟨oc_law_is_r, od_law_is_r, .func (PySem.W.fnOf "_law_is_r" "_law_is_r" (defArgs st_law_is_r) (defBody st_law_is_r) (defScope st_law_is_r) .none kV_law_is_r dc_law_is_r pm_law_is_r an_law_is_r cd_law_is_r ct_law_is_r), sl_law_is_r⟩)
    (c_law_is_r : PySem.W.codeIn K cd_law_is_r "_law_is_r" = true)
    (k_law_is_r : PySem.W.keepIn K (.ref f_law_is_r) = true)
    (a_law_whole : PySem.W.nsIn K mainGlobals "_law_whole" = some (some (.ref f_law_whole)))
    (l_law_whole : K.lookup f_law_whole = some ⟨oc_law_whole, od_law_whole, .func (PySem.W.fnOf "_law_whole" "_law_whole" (defArgs st_law_whole) (defBody st_law_whole) (defScope st_law_whole) .none kV_law_whole dc_law_whole pm_law_whole an_law_whole cd_law_whole ct_law_whole), sl_law_whole⟩)
    (c_law_whole : PySem.W.codeIn K cd_law_whole "_law_whole" = true)
    (k_law_whole : PySem.W.keepIn K (.ref f_law_whole) = true)
    (a_law_below : PySem.W.nsIn K mainGlobals "_law_below" = some (some (.ref f_law_below)))
    (l_law_below : K.lookup f_law_below = some ⟨oc_law_below, od_law_below, .func (PySem.W.fnOf "_law_below" "_law_below" (defArgs st_law_below) (defBody st_law_below) (defScope st_law_below) .none kV_law_below dc_law_below pm_law_below an_law_below cd_law_below ct_law_below), sl_law_below⟩)
    (c_law_below : PySem.W.codeIn K cd_law_below "_law_below" = true)
    (k_law_below : PySem.W.keepIn K (.ref f_law_below) = true)
    (a_law_read : PySem.W.nsIn K mainGlobals "_law_read" = some (some (.ref f_law_read)))
    (l_law_read : K.lookup f_law_read = some ⟨oc_law_read, od_law_read, .func (PySem.W.fnOf "_law_read" "_law_read" (defArgs st_law_read) (defBody st_law_read) (defScope st_law_read) .none kV_law_read dc_law_read pm_law_read an_law_read cd_law_read ct_law_read), sl_law_read⟩)
    (c_law_read : PySem.W.codeIn K cd_law_read "_law_read" = true)
    (k_law_read : PySem.W.keepIn K (.ref f_law_read) = true)
    (a_run_width : PySem.W.nsIn K mainGlobals "run_width" = some (some (.ref f_run_width)))
    (l_run_width : K.lookup f_run_width = some ⟨oc_run_width, od_run_width, .func (PySem.W.fnOf "run_width" "run_width" (defArgs st_run_width) (defBody st_run_width) (defScope st_run_width) .none kV_run_width dc_run_width pm_run_width an_run_width cd_run_width ct_run_width), sl_run_width⟩)
    (c_run_width : PySem.W.codeIn K cd_run_width "run_width" = true)
    (k_run_width : PySem.W.keepIn K (.ref f_run_width) = true)
    (a_line_rows : PySem.W.nsIn K mainGlobals "line_rows" = some (some (.ref f_line_rows)))
    (l_line_rows : K.lookup f_line_rows = some ⟨oc_line_rows, od_line_rows, .func (PySem.W.fnOf "line_rows" "line_rows" (defArgs st_line_rows) (defBody st_line_rows) (defScope st_line_rows) .none kV_line_rows dc_line_rows pm_line_rows an_line_rows cd_line_rows ct_line_rows), sl_line_rows⟩)
    (c_line_rows : PySem.W.codeIn K cd_line_rows "line_rows" = true)
    (k_line_rows : PySem.W.keepIn K (.ref f_line_rows) = true)
    (a_law_add : PySem.W.nsIn K mainGlobals "_law_add" = some (some (.ref f_law_add)))
    (l_law_add : K.lookup f_law_add = some ⟨oc_law_add, od_law_add, .func (PySem.W.fnOf "_law_add" "_law_add" (defArgs st_law_add) (defBody st_law_add) (defScope st_law_add) .none kV_law_add dc_law_add pm_law_add an_law_add cd_law_add ct_law_add), sl_law_add⟩)
    (c_law_add : PySem.W.codeIn K cd_law_add "_law_add" = true)
    (k_law_add : PySem.W.keepIn K (.ref f_law_add) = true)
    (a_law_sub : PySem.W.nsIn K mainGlobals "_law_sub" = some (some (.ref f_law_sub)))
    (l_law_sub : K.lookup f_law_sub = some ⟨oc_law_sub, od_law_sub, .func (PySem.W.fnOf "_law_sub" "_law_sub" (defArgs st_law_sub) (defBody st_law_sub) (defScope st_law_sub) .none kV_law_sub dc_law_sub pm_law_sub an_law_sub cd_law_sub ct_law_sub), sl_law_sub⟩)
    (c_law_sub : PySem.W.codeIn K cd_law_sub "_law_sub" = true)
    (k_law_sub : PySem.W.keepIn K (.ref f_law_sub) = true)
    (a_law_size : PySem.W.nsIn K mainGlobals "_law_size" = some (some (.ref f_law_size)))
    (l_law_size : K.lookup f_law_size = some ⟨oc_law_size, od_law_size, .func (PySem.W.fnOf "_law_size" "_law_size" (defArgs st_law_size) (defBody st_law_size) (defScope st_law_size) .none kV_law_size dc_law_size pm_law_size an_law_size cd_law_size ct_law_size), sl_law_size⟩)
    (c_law_size : PySem.W.codeIn K cd_law_size "_law_size" = true)
    (k_law_size : PySem.W.keepIn K (.ref f_law_size) = true)
    (a_law_changes : PySem.W.nsIn K mainGlobals "_law_changes" = some (some (.ref f_law_changes)))
    (l_law_changes : K.lookup f_law_changes = some ⟨oc_law_changes, od_law_changes, .func (PySem.W.fnOf "_law_changes" "_law_changes" (defArgs st_law_changes) (defBody st_law_changes) (defScope st_law_changes) .none kV_law_changes dc_law_changes pm_law_changes an_law_changes cd_law_changes ct_law_changes), sl_law_changes⟩)
    (c_law_changes : PySem.W.codeIn K cd_law_changes "_law_changes" = true)
    (k_law_changes : PySem.W.keepIn K (.ref f_law_changes) = true)
    (a_law_is_steps : PySem.W.nsIn K mainGlobals "_law_is_steps" = some (some (.ref f_law_is_steps)))
    (l_law_is_steps : K.lookup f_law_is_steps = some ⟨oc_law_is_steps, od_law_is_steps, .func (PySem.W.fnOf "_law_is_steps" "_law_is_steps" (defArgs st_law_is_steps) (defBody st_law_is_steps) (defScope st_law_is_steps) .none kV_law_is_steps dc_law_is_steps pm_law_is_steps an_law_is_steps cd_law_is_steps ct_law_is_steps), sl_law_is_steps⟩)
    (c_law_is_steps : PySem.W.codeIn K cd_law_is_steps "_law_is_steps" = true)
    (k_law_is_steps : PySem.W.keepIn K (.ref f_law_is_steps) = true)
    (a_run_widths : PySem.W.nsIn K mainGlobals "run_widths" = some (some (.ref f_run_widths)))
    (l_run_widths : K.lookup f_run_widths = some ⟨oc_run_widths, od_run_widths, .func (PySem.W.fnOf "run_widths" "run_widths" (defArgs st_run_widths) (defBody st_run_widths) (defScope st_run_widths) .none kV_run_widths dc_run_widths pm_run_widths an_run_widths cd_run_widths ct_run_widths), sl_run_widths⟩)
    (c_run_widths : PySem.W.codeIn K cd_run_widths "run_widths" = true)
    (k_run_widths : PySem.W.keepIn K (.ref f_run_widths) = true)
    (a_law_told_words : PySem.W.nsIn K mainGlobals "_law_told_words" = some (some (.ref f_law_told_words)))
    (l_law_told_words : K.lookup f_law_told_words = some ⟨oc_law_told_words, od_law_told_words, .func (PySem.W.fnOf "_law_told_words" "_law_told_words" (defArgs st_law_told_words) (defBody st_law_told_words) (defScope st_law_told_words) .none kV_law_told_words dc_law_told_words pm_law_told_words an_law_told_words cd_law_told_words ct_law_told_words), sl_law_told_words⟩)
    (c_law_told_words : PySem.W.codeIn K cd_law_told_words "_law_told_words" = true)
    (k_law_told_words : PySem.W.keepIn K (.ref f_law_told_words) = true)
    (a_law_long : PySem.W.nsIn K mainGlobals "_law_long" = some (some (.ref f_law_long)))
    (l_law_long : K.lookup f_law_long = some ⟨oc_law_long, od_law_long, .func (PySem.W.fnOf "_law_long" "_law_long" (defArgs st_law_long) (defBody st_law_long) (defScope st_law_long) .none kV_law_long dc_law_long pm_law_long an_law_long cd_law_long ct_law_long), sl_law_long⟩)
    (c_law_long : PySem.W.codeIn K cd_law_long "_law_long" = true)
    (k_law_long : PySem.W.keepIn K (.ref f_law_long) = true)
    (a_steps_of : PySem.W.nsIn K mainGlobals "steps_of" = some (some (.ref f_steps_of)))
    (l_steps_of : K.lookup f_steps_of = some ⟨oc_steps_of, od_steps_of, .func (PySem.W.fnOf "steps_of" "steps_of" (defArgs st_steps_of) (defBody st_steps_of) (defScope st_steps_of) .none kV_steps_of dc_steps_of pm_steps_of an_steps_of cd_steps_of ct_steps_of), sl_steps_of⟩)
    (c_steps_of : PySem.W.codeIn K cd_steps_of "steps_of" = true)
    (k_steps_of : PySem.W.keepIn K (.ref f_steps_of) = true)
    (a_law_near : PySem.W.nsIn K mainGlobals "_law_near" = some (some (.ref f_law_near)))
    (l_law_near : K.lookup f_law_near = some ⟨oc_law_near, od_law_near, .func (PySem.W.fnOf "_law_near" "_law_near" (defArgs st_law_near) (defBody st_law_near) (defScope st_law_near) .none kV_law_near dc_law_near pm_law_near an_law_near cd_law_near ct_law_near), sl_law_near⟩)
    (c_law_near : PySem.W.codeIn K cd_law_near "_law_near" = true)
    (k_law_near : PySem.W.keepIn K (.ref f_law_near) = true)
    (a_law : PySem.W.nsIn K mainGlobals "law" = some (some (.ref f_law)))
    (l_law : K.lookup f_law = some ⟨oc_law, od_law, .func (PySem.W.fnOf "law" "law" (defArgs st_law) (defBody st_law) (defScope st_law) .none kV_law dc_law pm_law an_law cd_law ct_law), sl_law⟩)
    (c_law : PySem.W.codeIn K cd_law "law" = true)
    (k_law : PySem.W.keepIn K (.ref f_law) = true)
    (z_abs : PySem.W.nsIn K mainGlobals "abs" = some none)
    (z_bool : PySem.W.nsIn K mainGlobals "bool" = some none)
    (z_enumerate : PySem.W.nsIn K mainGlobals "enumerate" = some none)
    (g_gcd : PySem.W.nsIn K mainGlobals "gcd" = some (some (.builtin "math.gcd")))
    (z_int : PySem.W.nsIn K mainGlobals "int" = some none)
    (z_isinstance : PySem.W.nsIn K mainGlobals "isinstance" = some none)
    (z_len : PySem.W.nsIn K mainGlobals "len" = some none)
    (z_list : PySem.W.nsIn K mainGlobals "list" = some none)
    (z_range : PySem.W.nsIn K mainGlobals "range" = some none)
    (z_sorted : PySem.W.nsIn K mainGlobals "sorted" = some none)
    (z_tuple : PySem.W.nsIn K mainGlobals "tuple" = some none)
    (z_zip : PySem.W.nsIn K mainGlobals "zip" = some none) :
    ∃ fd : FuncData, (∀ (s : Shared) (v : Value), BindsTo s fd ⟨[v], []⟩ [("script", v)]) ∧ ∀ base : Heap, K.In base → base.Ns mainGlobals mg → FnOk l.prog w K mg base CX0 6 fa fd ["script"] (upSp K sp_law) := by
  have e := hfa.symm.trans (PySem.W.mg_of X G a_law)
  cases e
  have T : Txt K mg := ⟨PySem.W.mg_none_of X G z_abs, PySem.W.mg_none_of X G z_bool, PySem.W.mg_none_of X G z_enumerate, PySem.W.mg_of X G g_gcd, PySem.W.mg_none_of X G z_int, PySem.W.mg_none_of X G z_isinstance, PySem.W.mg_none_of X G z_len, PySem.W.mg_none_of X G z_list, PySem.W.mg_none_of X G z_range, PySem.W.mg_none_of X G z_sorted, PySem.W.mg_none_of X G z_tuple, PySem.W.mg_none_of X G z_zip⟩
  have D_ratio : DefIs K mg "ratio" st_ratio := ⟨_, _, fun_mk (st := st_ratio) l_ratio c_ratio k_ratio, PySem.W.mg_of X G a_ratio⟩
  have D_less : DefIs K mg "less" st_less := ⟨_, _, fun_mk (st := st_less) l_less c_less k_less, PySem.W.mg_of X G a_less⟩
  have D_at_most : DefIs K mg "at_most" st_at_most := ⟨_, _, fun_mk (st := st_at_most) l_at_most c_at_most k_at_most, PySem.W.mg_of X G a_at_most⟩
  have D_law_begin : DefIs K mg "_law_begin" st_law_begin := ⟨_, _, fun_mk (st := st_law_begin) l_law_begin c_law_begin k_law_begin, PySem.W.mg_of X G a_law_begin⟩
  have D_law_draw : DefIs K mg "_law_draw" st_law_draw := ⟨_, _, fun_mk (st := st_law_draw) l_law_draw c_law_draw k_law_draw, PySem.W.mg_of X G a_law_draw⟩
  have D_law_gcd : DefIs K mg "_law_gcd" st_law_gcd := ⟨_, _, fun_mk (st := st_law_gcd) l_law_gcd c_law_gcd k_law_gcd, PySem.W.mg_of X G a_law_gcd⟩
  have D_law_lt : DefIs K mg "_law_lt" st_law_lt := ⟨_, _, fun_mk (st := st_law_lt) l_law_lt c_law_lt k_law_lt, PySem.W.mg_of X G a_law_lt⟩
  have D_law_is_int : DefIs K mg "_law_is_int" st_law_is_int := ⟨_, _, fun_mk (st := st_law_is_int) l_law_is_int c_law_is_int k_law_is_int, PySem.W.mg_of X G a_law_is_int⟩
  have D_law_count : DefIs K mg "_law_count" st_law_count := ⟨_, _, fun_mk (st := st_law_count) l_law_count c_law_count k_law_count, PySem.W.mg_of X G a_law_count⟩
  have D_plus : DefIs K mg "plus" st_plus := ⟨_, _, fun_mk (st := st_plus) l_plus c_plus k_plus, PySem.W.mg_of X G a_plus⟩
  have D_ordered : DefIs K mg "ordered" st_ordered := ⟨_, _, fun_mk (st := st_ordered) l_ordered c_ordered k_ordered, PySem.W.mg_of X G a_ordered⟩
  have D_law_pick : DefIs K mg "_law_pick" st_law_pick := ⟨_, _, fun_mk (st := st_law_pick) l_law_pick c_law_pick k_law_pick, PySem.W.mg_of X G a_law_pick⟩
  have D_law_r : DefIs K mg "_law_r" st_law_r := ⟨_, _, fun_mk (st := st_law_r) l_law_r c_law_r k_law_r, PySem.W.mg_of X G a_law_r⟩
  have D_law_is_r : DefIs K mg "_law_is_r" st_law_is_r := ⟨_, _, fun_mk (st := st_law_is_r) l_law_is_r c_law_is_r k_law_is_r, PySem.W.mg_of X G a_law_is_r⟩
  have D_law_whole : DefIs K mg "_law_whole" st_law_whole := ⟨_, _, fun_mk (st := st_law_whole) l_law_whole c_law_whole k_law_whole, PySem.W.mg_of X G a_law_whole⟩
  have D_law_below : DefIs K mg "_law_below" st_law_below := ⟨_, _, fun_mk (st := st_law_below) l_law_below c_law_below k_law_below, PySem.W.mg_of X G a_law_below⟩
  have D_law_read : DefIs K mg "_law_read" st_law_read := ⟨_, _, fun_mk (st := st_law_read) l_law_read c_law_read k_law_read, PySem.W.mg_of X G a_law_read⟩
  have D_run_width : DefIs K mg "run_width" st_run_width := ⟨_, _, fun_mk (st := st_run_width) l_run_width c_run_width k_run_width, PySem.W.mg_of X G a_run_width⟩
  have D_line_rows : DefIs K mg "line_rows" st_line_rows := ⟨_, _, fun_mk (st := st_line_rows) l_line_rows c_line_rows k_line_rows, PySem.W.mg_of X G a_line_rows⟩
  have D_law_add : DefIs K mg "_law_add" st_law_add := ⟨_, _, fun_mk (st := st_law_add) l_law_add c_law_add k_law_add, PySem.W.mg_of X G a_law_add⟩
  have D_law_sub : DefIs K mg "_law_sub" st_law_sub := ⟨_, _, fun_mk (st := st_law_sub) l_law_sub c_law_sub k_law_sub, PySem.W.mg_of X G a_law_sub⟩
  have D_law_size : DefIs K mg "_law_size" st_law_size := ⟨_, _, fun_mk (st := st_law_size) l_law_size c_law_size k_law_size, PySem.W.mg_of X G a_law_size⟩
  have D_law_changes : DefIs K mg "_law_changes" st_law_changes := ⟨_, _, fun_mk (st := st_law_changes) l_law_changes c_law_changes k_law_changes, PySem.W.mg_of X G a_law_changes⟩
  have D_law_is_steps : DefIs K mg "_law_is_steps" st_law_is_steps := ⟨_, _, fun_mk (st := st_law_is_steps) l_law_is_steps c_law_is_steps k_law_is_steps, PySem.W.mg_of X G a_law_is_steps⟩
  have D_run_widths : DefIs K mg "run_widths" st_run_widths := ⟨_, _, fun_mk (st := st_run_widths) l_run_widths c_run_widths k_run_widths, PySem.W.mg_of X G a_run_widths⟩
  have D_law_told_words : DefIs K mg "_law_told_words" st_law_told_words := ⟨_, _, fun_mk (st := st_law_told_words) l_law_told_words c_law_told_words k_law_told_words, PySem.W.mg_of X G a_law_told_words⟩
  have D_law_long : DefIs K mg "_law_long" st_law_long := ⟨_, _, fun_mk (st := st_law_long) l_law_long c_law_long k_law_long, PySem.W.mg_of X G a_law_long⟩
  have D_steps_of : DefIs K mg "steps_of" st_steps_of := ⟨_, _, fun_mk (st := st_steps_of) l_steps_of c_steps_of k_steps_of, PySem.W.mg_of X G a_steps_of⟩
  have D_law_near : DefIs K mg "_law_near" st_law_near := ⟨_, _, fun_mk (st := st_law_near) l_law_near c_law_near k_law_near, PySem.W.mg_of X G a_law_near⟩
  have F_law := fun_mk (st := st_law) l_law c_law k_law
  refine ⟨PySem.W.fnOf "law" "law" (defArgs st_law) (defBody st_law) (defScope st_law) .none kV_law dc_law pm_law an_law cd_law ct_law, fun s v => .of_eq rfl, fun base _ _ => ?_⟩
  have C_ratio := cal_ratio (P := l.prog) (w := w) (base := base) T D_ratio 
  have C_less := cal_less (P := l.prog) (w := w) (base := base) T D_less 
  have C_at_most := cal_at_most (P := l.prog) (w := w) (base := base) T D_at_most 
  have C_law_begin := cal_law_begin (P := l.prog) (w := w) (base := base) T D_law_begin 
  have C_law_draw := cal_law_draw (P := l.prog) (w := w) (base := base) T D_law_draw 
  have C_law_gcd := cal_law_gcd (P := l.prog) (w := w) (base := base) T D_law_gcd 
  have C_law_lt := cal_law_lt (P := l.prog) (w := w) (base := base) T D_law_lt 
  have C_law_is_int := cal_law_is_int (P := l.prog) (w := w) (base := base) T D_law_is_int 
  have C_law_count := cal_law_count (P := l.prog) (w := w) (base := base) T D_law_count 
  have C_plus := cal_plus (P := l.prog) (w := w) (base := base) T D_plus C_ratio
  have C_ordered := cal_ordered (P := l.prog) (w := w) (base := base) T D_ordered C_less
  have C_law_pick := cal_law_pick (P := l.prog) (w := w) (base := base) T D_law_pick C_law_draw
  have C_law_r := cal_law_r (P := l.prog) (w := w) (base := base) T D_law_r C_law_gcd
  have C_law_is_r := cal_law_is_r (P := l.prog) (w := w) (base := base) T D_law_is_r C_law_gcd C_law_is_int
  have C_law_whole := cal_law_whole (P := l.prog) (w := w) (base := base) T D_law_whole C_law_gcd
  have C_law_below := cal_law_below (P := l.prog) (w := w) (base := base) T D_law_below C_law_gcd
  have C_law_read := cal_law_read (P := l.prog) (w := w) (base := base) T D_law_read C_law_lt
  have C_run_width := cal_run_width (P := l.prog) (w := w) (base := base) T D_run_width C_plus
  have C_line_rows := cal_line_rows (P := l.prog) (w := w) (base := base) T D_line_rows C_plus C_at_most
  have C_law_add := cal_law_add (P := l.prog) (w := w) (base := base) T D_law_add C_law_r
  have C_law_sub := cal_law_sub (P := l.prog) (w := w) (base := base) T D_law_sub C_law_r
  have C_law_size := cal_law_size (P := l.prog) (w := w) (base := base) T D_law_size C_law_draw C_law_r
  have C_law_changes := cal_law_changes (P := l.prog) (w := w) (base := base) T D_law_changes C_law_r C_law_whole C_law_count C_law_below
  have C_law_is_steps := cal_law_is_steps (P := l.prog) (w := w) (base := base) T D_law_is_steps C_law_is_int C_law_is_r
  have C_run_widths := cal_run_widths (P := l.prog) (w := w) (base := base) T D_run_widths C_run_width C_ordered
  have C_law_told_words := cal_law_told_words (P := l.prog) (w := w) (base := base) T D_law_told_words C_law_draw C_law_size
  have C_law_long := cal_law_long (P := l.prog) (w := w) (base := base) T D_law_long C_law_add
  have C_steps_of := cal_steps_of (P := l.prog) (w := w) (base := base) T D_steps_of C_line_rows C_run_widths
  have C_law_near := cal_law_near (P := l.prog) (w := w) (base := base) T D_law_near C_law_draw C_law_pick C_law_r C_law_add C_law_sub C_law_long
  exact ok_law T F_law C_steps_of C_law_begin C_law_told_words C_law_near C_law_whole C_law_count C_law_changes C_law_is_steps C_law_read
end AL
open PySem PySem.W PyProof.Rows
set_option maxRecDepth 100000 in
set_option maxHeartbeats 0 in
theorem PySem.Challenge.cw_wishpanes_k16_steps_holds : PySem.Challenge.rw_wishpanes_k16_steps.Holds := by
  w_on; o_law; k_head; (case hw => w_witness2)
  k_fill
  refine L2.walk_of (l := PySem.Challenge.rw_wishpanes_k16_steps) (n := 63) (k := 6) (x := "script") (CX := fun _ => L2.CX0) (sp := fun w => AL.upSp _ AL.sp_law) rfl (by decide) rfl ⟨rfl, by decide, by decide⟩ (fun w h Y => PySem.W.kIn_of Y) ?F (fun w H a ns hl hO hS => AL.law_up1 hl hO hS) (fun _ _ _ _ _ h => h)
  case F =>
    intro w mg fa h KX G hmg
    refine' AL.all_mk KX G hmg ?a_ratio ?l_ratio ?c_ratio ?k_ratio ?a_less ?l_less ?c_less ?k_less ?a_at_most ?l_at_most ?c_at_most ?k_at_most ?a_law_begin ?l_law_begin ?c_law_begin ?k_law_begin ?a_law_draw ?l_law_draw ?c_law_draw ?k_law_draw ?a_law_gcd ?l_law_gcd ?c_law_gcd ?k_law_gcd ?a_law_lt ?l_law_lt ?c_law_lt ?k_law_lt ?a_law_is_int ?l_law_is_int ?c_law_is_int ?k_law_is_int ?a_law_count ?l_law_count ?c_law_count ?k_law_count ?a_plus ?l_plus ?c_plus ?k_plus ?a_ordered ?l_ordered ?c_ordered ?k_ordered ?a_law_pick ?l_law_pick ?c_law_pick ?k_law_pick ?a_law_r ?l_law_r ?c_law_r ?k_law_r ?a_law_is_r ?l_law_is_r ?c_law_is_r ?k_law_is_r ?a_law_whole ?l_law_whole ?c_law_whole ?k_law_whole ?a_law_below ?l_law_below ?c_law_below ?k_law_below ?a_law_read ?l_law_read ?c_law_read ?k_law_read ?a_run_width ?l_run_width ?c_run_width ?k_run_width ?a_line_rows ?l_line_rows ?c_line_rows ?k_line_rows ?a_law_add ?l_law_add ?c_law_add ?k_law_add ?a_law_sub ?l_law_sub ?c_law_sub ?k_law_sub ?a_law_size ?l_law_size ?c_law_size ?k_law_size ?a_law_changes ?l_law_changes ?c_law_changes ?k_law_changes ?a_law_is_steps ?l_law_is_steps ?c_law_is_steps ?k_law_is_steps ?a_run_widths ?l_run_widths ?c_run_widths ?k_run_widths ?a_law_told_words ?l_law_told_words ?c_law_told_words ?k_law_told_words ?a_law_long ?l_law_long ?c_law_long ?k_law_long ?a_steps_of ?l_steps_of ?c_steps_of ?k_steps_of ?a_law_near ?l_law_near ?c_law_near ?k_law_near ?a_law ?l_law ?c_law ?k_law ?z_abs ?z_bool ?z_enumerate ?g_gcd ?z_int ?z_isinstance ?z_len ?z_list ?z_range ?z_sorted ?z_tuple ?z_zip
    (case a_ratio => k_is); (case l_ratio => k_is); (case c_ratio => k_is); (case k_ratio => k_is)
    (case a_less => k_is); (case l_less => k_is); (case c_less => k_is); (case k_less => k_is)
    (case a_at_most => k_is); (case l_at_most => k_is); (case c_at_most => k_is); (case k_at_most => k_is)
    (case a_law_begin => k_is); (case l_law_begin => k_is); (case c_law_begin => k_is); (case k_law_begin => k_is)
    (case a_law_draw => k_is); (case l_law_draw => k_is); (case c_law_draw => k_is); (case k_law_draw => k_is)
    (case a_law_gcd => k_is); (case l_law_gcd => k_is); (case c_law_gcd => k_is); (case k_law_gcd => k_is)
    (case a_law_lt => k_is); (case l_law_lt => k_is); (case c_law_lt => k_is); (case k_law_lt => k_is)
    (case a_law_is_int => k_is); (case l_law_is_int => k_is); (case c_law_is_int => k_is); (case k_law_is_int => k_is)
    (case a_law_count => k_is); (case l_law_count => k_is); (case c_law_count => k_is); (case k_law_count => k_is)
    (case a_plus => k_is); (case l_plus => k_is); (case c_plus => k_is); (case k_plus => k_is)
    (case a_ordered => k_is); (case l_ordered => k_is); (case c_ordered => k_is); (case k_ordered => k_is)
    (case a_law_pick => k_is); (case l_law_pick => k_is); (case c_law_pick => k_is); (case k_law_pick => k_is)
    (case a_law_r => k_is); (case l_law_r => k_is); (case c_law_r => k_is); (case k_law_r => k_is)
    (case a_law_is_r => k_is); (case l_law_is_r => k_is); (case c_law_is_r => k_is); (case k_law_is_r => k_is)
    (case a_law_whole => k_is); (case l_law_whole => k_is); (case c_law_whole => k_is); (case k_law_whole => k_is)
    (case a_law_below => k_is); (case l_law_below => k_is); (case c_law_below => k_is); (case k_law_below => k_is)
    (case a_law_read => k_is); (case l_law_read => k_is); (case c_law_read => k_is); (case k_law_read => k_is)
    (case a_run_width => k_is); (case l_run_width => k_is); (case c_run_width => k_is); (case k_run_width => k_is)
    (case a_line_rows => k_is); (case l_line_rows => k_is); (case c_line_rows => k_is); (case k_line_rows => k_is)
    (case a_law_add => k_is); (case l_law_add => k_is); (case c_law_add => k_is); (case k_law_add => k_is)
    (case a_law_sub => k_is); (case l_law_sub => k_is); (case c_law_sub => k_is); (case k_law_sub => k_is)
    (case a_law_size => k_is); (case l_law_size => k_is); (case c_law_size => k_is); (case k_law_size => k_is)
    (case a_law_changes => k_is); (case l_law_changes => k_is); (case c_law_changes => k_is); (case k_law_changes => k_is)
    (case a_law_is_steps => k_is); (case l_law_is_steps => k_is); (case c_law_is_steps => k_is); (case k_law_is_steps => k_is)
    (case a_run_widths => k_is); (case l_run_widths => k_is); (case c_run_widths => k_is); (case k_run_widths => k_is)
    (case a_law_told_words => k_is); (case l_law_told_words => k_is); (case c_law_told_words => k_is); (case k_law_told_words => k_is)
    (case a_law_long => k_is); (case l_law_long => k_is); (case c_law_long => k_is); (case k_law_long => k_is)
    (case a_steps_of => k_is); (case l_steps_of => k_is); (case c_steps_of => k_is); (case k_steps_of => k_is)
    (case a_law_near => k_is); (case l_law_near => k_is); (case c_law_near => k_is); (case k_law_near => k_is)
    (case a_law => k_is); (case l_law => k_is); (case c_law => k_is); (case k_law => k_is)
    (case z_abs => k_is); (case z_bool => k_is); (case z_enumerate => k_is); (case g_gcd => k_is)
    (case z_int => k_is); (case z_isinstance => k_is); (case z_len => k_is); (case z_list => k_is)
    (case z_range => k_is); (case z_sorted => k_is); (case z_tuple => k_is); (case z_zip => k_is)
