import PyProof.Rows.All
import Wide.All
import OpenK.AllK
import Wide.FinOn
import HandS.ForMost
import HandS.Wide
import HandS.Gcd
import HandS.IsInst
import HandS.TupAny
import HandS.Flow
import HandS.More
import HandS.Zip
import KE.GoesMore
import KE.GoesEnum
import HandS.Conv
import HandS.SortInts
import KE.DataMinMax
import PySem.Challenge.RW_wishpanes_k19_proofs_judged
set_option Elab.async false
set_option linter.all false
set_option autoImplicit false
set_option maxRecDepth 100000
set_option maxHeartbeats 4000000
/-! AL0: pure transformers over plain data (values as trees, lists and dicts by number). No program in sight. -/
namespace AL
open PySem

inductive AV where
  | non
  | bl (b : Bool)
  | int (i : Int)
  | str (x : Str)
  | tup (xs : List AV)
  | ref (n : Nat)
  | ty (n : String)
  /-- a list that nobody may change -/
  | rol (xs : List AV)

inductive AO where
  | lst (xs : List AV)
  | dct (kvs : List (Sum Int Str × AV))

abbrev AH := List AO
abbrev ASt := List (Option AV)
abbrev AK := AV → AH → Prop
abbrev ATE := ASt → AH → AK → Prop
abbrev ATT := ASt → AH → (Bool → AH → Prop) → Prop
abbrev ATA := ASt → AH → (List AV → AH → Prop) → Prop
abbrev AR2 := AV → AV → AH → AK → Prop
abbrev AR1 := AV → AH → AK → Prop
abbrev ARL := List AV → AH → AK → Prop
abbrev ARM := AV → List AV → AH → AK → Prop
/-- a contract: arguments, heap, what is wanted of the value, of an error -/
abbrev ASp := List AV → AH → AK → AK → Prop
structure AEnds where
  nx : ASt → AH → Prop
  rt : AK
  bk : ASt → AH → Prop := fun _ _ => False
  ct : ASt → AH → Prop := fun _ _ => False
abbrev ATS := AEnds → ASt → AH → Prop
abbrev ATG := AV → ASt → AH → (ASt → AH → Prop) → Prop
abbrev ATGs := List AV → ASt → AH → (ASt → AH → Prop) → Prop
/-- what is walked: the items, what must stand at each turn -/
abbrev ATI := ASt → AH → (List AV → (AH → Prop) → AH → Prop) → Prop

/-! ### slots -/
def gv : ASt → Nat → Option AV
  | [], _ => none
  | x :: _, 0 => x
  | _ :: r, n + 1 => gv r n
def sv : ASt → Nat → Option AV → ASt
  | [], _, _ => []
  | _ :: r, 0, v => v :: r
  | x :: r, n + 1, v => x :: sv r n v
def wipeA (a : ASt) : List Nat → ASt
  | [] => a
  | v :: vs => sv (wipeA a vs) v none

def lenLe : List AV → Nat → Bool
  | [], _ => true
  | _ :: _, 0 => false
  | _ :: r, n + 1 => lenLe r n

/-! ### expressions -/
def varT (i : Nat) : ATE := fun a h Q => match gv a i with
  | some v => Q v h
  | none => False
def cT (v : AV) : ATE := fun _ h Q => Q v h
def opT (r : AR2) (ta tb : ATE) : ATE := fun a h Q => ta a h fun x h1 => tb a h1 fun y h2 => r x y h2 Q
def unT (r : AR1) (ta : ATE) : ATE := fun a h Q => ta a h fun x h1 => r x h1 Q
def nilT : ATA := fun _ h Q => Q [] h
def consT (te : ATE) (ta : ATA) : ATA := fun a h Q => te a h fun x h1 => ta a h1 fun xs h2 => Q (x :: xs) h2
def tupT (ta : ATA) : ATE := fun a h Q => ta a h fun xs h1 => lenLe xs 64 = true ∧ Q (.tup xs) h1
def lstT (ta : ATA) : ATE := fun a h Q => ta a h fun xs h1 => lenLe xs 64 = true ∧ Q (.ref h1.length) (h1 ++ [.lst xs])
/-- a call of a def of the text -/
def callT (sp : ASp) (E : AK) (ta : ATA) : ATE := fun a h Q => ta a h fun xs h1 => sp xs h1 Q E
/-- a call of a built-in -/
def cbT (r : ARL) (ta : ATA) : ATE := fun a h Q => ta a h fun xs h1 => r xs h1 Q
/-- a method: what the receiver must be, what is asked of receiver and arguments -/
def mtT (ok : AV → AH → Prop) (r : ARM) (to : ATE) (ta : ATA) : ATE := fun a h Q => to a h fun x h1 => ok x h1 ∧ ta a h1 fun xs h2 => r x xs h2 Q

/-! ### tests -/
def truR : AV → AH → (Bool → AH → Prop) → Prop
  | .non, h, Q => Q false h
  | .bl b, h, Q => Q b h
  | .int i, h, Q => Q (i != 0) h
  | .str x, h, Q => x.length ≤ 16777216 ∧ Q (x.length != 0) h
  | .tup xs, h, Q => Q (!xs.isEmpty) h
  | .ref n, h, Q => match h[n]? with
    | some (.lst xs) => Q (!xs.isEmpty) h
    | some (.dct kvs) => Q (!kvs.isEmpty) h
    | none => False
  | .rol xs, h, Q => Q (!xs.isEmpty) h
  | .ty _, _, _ => False
def truT (te : ATE) : ATT := fun a h Q => te a h fun x h1 => truR x h1 Q
def blR : AV → AH → (Bool → AH → Prop) → Prop
  | .bl b, h, Q => Q b h
  | _, _, _ => False
/-- a comparison as a test -/
def cmpT (te : ATE) : ATT := fun a h Q => te a h fun x h1 => blR x h1 Q
def andT (t u : ATT) : ATT := fun a h Q => t a h fun c h1 => if c = true then u a h1 Q else Q false h1
def orT (t u : ATT) : ATT := fun a h Q => t a h fun c h1 => if c = true then Q true h1 else u a h1 Q
def notT (t : ATT) : ATT := fun a h Q => t a h fun c h1 => Q (!c) h1
def andV (ta tb : ATE) : ATE := fun a h Q => ta a h fun x h1 => blR x h1 fun c h2 => if c = true then tb a h2 Q else Q (.bl false) h2
def orV (ta tb : ATE) : ATE := fun a h Q => ta a h fun x h1 => blR x h1 fun c h2 => if c = true then Q (.bl true) h2 else tb a h2 Q
def notV (ta : ATE) : ATE := fun a h Q => ta a h fun x h1 => blR x h1 fun c h2 => Q (.bl (!c)) h2
def ifT (t : ATT) (ta tb : ATE) : ATE := fun a h Q => t a h fun c h1 => if c = true then ta a h1 Q else tb a h1 Q
/-- a < b < c -/
def chainT (r r' : AR2) (ta tb tc : ATE) : ATE := fun a h Q => ta a h fun x h1 => tb a h1 fun y h2 => r x y h2 fun z h3 => blR z h3 fun c h4 =>
  if c = true then tc a h4 fun w h5 => r' y w h5 Q else Q (.bl false) h4

/-! ### operators -/
def sized (i : Int) (n : Nat) : Prop := i.natAbs < 2 ^ n
def small64 (i : Int) : Prop := -(2 ^ 64) < i ∧ i < 2 ^ 64
def mulOk (i j : Int) : Prop := (small64 i ∨ small64 j) ∨ i.natAbs.log2 + j.natAbs.log2 < 1000000
def divOk (j : Int) : Prop := 0 < j ∧ j.natAbs.log2 < 9000
def addR : AR2
  | .int i, .int j, h, Q => Q (.int (i + j)) h
  | .int i, .bl j, h, Q => Q (.int (i + (if j then 1 else 0))) h
  | .str x, .str y, h, Q => x.length + y.length ≤ 16777216 ∧ Q (.str (x ++ y)) h
  | .tup xs, .tup ys, h, Q => xs.length + ys.length ≤ 16777216 ∧ Q (.tup (xs ++ ys)) h
  | .ref m, .ref n, h, Q => match h[m]?, h[n]? with
    | some (.lst xs), some (.lst ys) => xs.length + ys.length ≤ 16777216 ∧ Q (.ref h.length) (h ++ [.lst (xs ++ ys)])
    | _, _ => False
  | _, _, _, _ => False
def subR : AR2
  | .int i, .int j, h, Q => Q (.int (i - j)) h
  | _, _, _, _ => False
def mulR : AR2
  | .int i, .int j, h, Q => mulOk i j ∧ Q (.int (i * j)) h
  | _, _, _, _ => False
def fdivR : AR2
  | .int i, .int j, h, Q => divOk j ∧ Q (.int (i / j)) h
  | _, _, _, _ => False
def modR : AR2
  | .int i, .int j, h, Q => 0 < j ∧ Q (.int (i % j)) h
  | _, _, _, _ => False
def powR : AR2
  | .int i, .int j, h, Q => (0 ≤ j ∧ j ≤ 1000000 ∧ i.natAbs < 2 ^ 64) ∧ Q (.int (i ^ j.toNat)) h
  | _, _, _, _ => False
def shlR : AR2
  | .int i, .int j, h, Q => (0 ≤ j ∧ j ≤ 1000000 ∧ i.natAbs < 2 ^ 64) ∧ Q (.int (i * 2 ^ j.toNat)) h
  | _, _, _, _ => False
def negR : AR1
  | .int i, h, Q => Q (.int (-i)) h
  | _, _, _ => False

/-! ### comparisons -/
mutual
def aeq : AV → AV → Bool
  | .non, .non => true
  | .bl a, .bl b => a == b
  | .bl a, .int j => (if a then 1 else 0) == j
  | .int i, .bl b => i == (if b then 1 else 0)
  | .int i, .int j => i == j
  | .str x, .str y => x == y
  | .tup xs, .tup ys => aeqs xs ys
  | .ty a, .ty b => a == b
  | _, _ => false
def aeqs : List AV → List AV → Bool
  | [], [] => true
  | x :: xs, y :: ys => aeq x y && aeqs xs ys
  | _, _ => false
end
/-- data without lists, written signs, of depth below n -/
def plainN : Nat → AV → Bool
  | _, .non => true
  | _, .bl _ => true
  | _, .int _ => true
  | _, .str x => x.cps.all (· < 0x110000)
  | 0, .tup _ => false
  | n + 1, .tup xs => xs.all (plainN n)
  | _, _ => false
def eqR : AR2 := fun x y h Q => plainN 40 x = true ∧ plainN 40 y = true ∧ Q (.bl (aeq x y)) h
def neR : AR2 := fun x y h Q => plainN 40 x = true ∧ plainN 40 y = true ∧ Q (.bl (!aeq x y)) h
def ltR : AR2
  | .int i, .int j, h, Q => Q (.bl (decide (i < j))) h
  | .str x, .str y, h, Q => Q (.bl (decide (x.cps.toList < y.cps.toList))) h
  | _, _, _, _ => False
def leR : AR2
  | .int i, .int j, h, Q => Q (.bl (decide (i ≤ j))) h
  | _, _, _, _ => False
def gtR : AR2
  | .int i, .int j, h, Q => Q (.bl (decide (j < i))) h
  | _, _, _, _ => False
def geR : AR2
  | .int i, .int j, h, Q => Q (.bl (decide (j ≤ i))) h
  | _, _, _, _ => False
def isNon : AV → Bool
  | .non => true
  | _ => false
/-- is None -/
def isNR : AR2
  | x, .non, h, Q => Q (.bl (isNon x)) h
  | _, _, _, _ => False
def notNR : AR2
  | x, .non, h, Q => Q (.bl (!isNon x)) h
  | _, _, _, _ => False

/-! ### items -/
def atA {α : Type} (xs : List α) (i : Int) : Option α := match i with
  | .ofNat k => xs[k]?
  | .negSucc k => if k < xs.length then xs[xs.length - 1 - k]? else none
def keyOf : AV → Option (Sum Int Str)
  | .int i => some (.inl i)
  | .str x => some (.inr x)
  | _ => none
def kvGet (kvs : List (Sum Int Str × AV)) (k : Sum Int Str) : Option AV := (kvs.find? fun kv => decide (kv.1 = k)).map (·.2)
def kvPut (kvs : List (Sum Int Str × AV)) (k : Sum Int Str) (v : AV) : List (Sum Int Str × AV) :=
  if (kvs.any fun kv => decide (kv.1 = k)) = true then kvs.map (fun kv => if kv.1 = k then (kv.1, v) else kv) else kvs ++ [(k, v)]
def ixR : AR2
  | .tup xs, .int i, h, Q => match atA xs i with
    | some v => Q v h
    | none => False
  | .str x, .int i, h, Q => x.length ≤ 16777216 ∧ match atA x.cps.toList i with
    | some c => Q (.str ⟨#[c]⟩) h
    | none => False
  | .rol xs, .int i, h, Q => match atA xs i with
    | some v => Q v h
    | none => False
  | .ref n, k, h, Q => match h[n]? with
    | some (.lst xs) => (match k with
      | .int i => (match atA xs i with
        | some v => Q v h
        | none => False)
      | _ => False)
    | some (.dct kvs) => (match keyOf k with
      | some key => (match kvGet kvs key with
        | some v => Q v h
        | none => False)
      | none => False)
    | none => False
  | _, _, _, _ => False
/-- o[i] = v -/
def setR : AV → AV → AV → AH → (AH → Prop) → Prop
  | .ref n, k, v, h, Q => match h[n]? with
    | some (.lst xs) => (match k with
      | .int (.ofNat j) => j < xs.length ∧ Q (h.set n (.lst (xs.set j v)))
      | _ => False)
    | some (.dct kvs) => (match keyOf k with
      | some key => kvs.length < 16777216 ∧ Q (h.set n (.dct (kvPut kvs key v)))
      | none => False)
    | _ => False
  | _, _, _, _, _ => False

/-! ### built-ins -/
def lenR : ARL
  | [.tup xs], h, Q => Q (.int xs.length) h
  | [.str x], h, Q => x.length ≤ 16777216 ∧ Q (.int x.length) h
  | [.ref n], h, Q => match h[n]? with
    | some (.lst xs) => Q (.int xs.length) h
    | some (.dct kvs) => Q (.int kvs.length) h
    | _ => False
  | [.rol xs], h, Q => Q (.int xs.length) h
  | _, _, _ => False
def absR : ARL
  | [.int i], h, Q => Q (.int (if i < 0 then -i else i)) h
  | _, _, _ => False
def intR : ARL
  | [.int i], h, Q => Q (.int i) h
  | [.bl b], h, Q => Q (.int (if b then 1 else 0)) h
  | _, _, _ => False
def strR : ARL
  | [.int i], h, Q => i.natAbs.log2 < 1920 ∧ Q (.str (toString i : String)) h
  | _, _, _ => False
def gcdR : ARL
  | [.int a, .int b], h, Q => Q (.int ((Nat.gcd a.natAbs b.natAbs : Nat) : Int)) h
  | _, _, _ => False
def tupleR : ARL
  | [.tup xs], h, Q => Q (.tup xs) h
  | [.ref n], h, Q => match h[n]? with
    | some (.lst xs) => Q (.tup xs) h
    | _ => False
  | [.rol xs], h, Q => Q (.tup xs) h
  | _, _, _ => False
def listR : ARL
  | [.tup xs], h, Q => Q (.ref h.length) (h ++ [.lst xs])
  | [.ref n], h, Q => match h[n]? with
    | some (.lst xs) => Q (.ref h.length) (h ++ [.lst xs])
    | _ => False
  | [.rol xs], h, Q => Q (.ref h.length) (h ++ [.lst xs])
  | _, _, _ => False
def tyName : AV → AH → Option String
  | .non, _ => some "NoneType"
  | .bl _, _ => some "bool"
  | .int _, _ => some "int"
  | .str _, _ => some "str"
  | .tup _, _ => some "tuple"
  | .ref n, h => match h[n]? with
    | some (.lst _) => some "list"
    | some (.dct _) => some "dict"
    | none => none
  | .rol _, _ => some "list"
  | .ty _, _ => none
/-- isinstance of plain kinds -/
def isInst : String → String → Option Bool
  | "NoneType", t => if t = "int" ∨ t = "bool" ∨ t = "str" ∨ t = "tuple" ∨ t = "list" ∨ t = "dict" then some false else none
  | "bool", t => if t = "int" ∨ t = "bool" then some true else if t = "str" ∨ t = "tuple" ∨ t = "list" ∨ t = "dict" then some false else none
  | "int", t => if t = "int" then some true else if t = "bool" ∨ t = "str" ∨ t = "tuple" ∨ t = "list" ∨ t = "dict" then some false else none
  | "str", t => if t = "str" then some true else if t = "bool" ∨ t = "int" ∨ t = "tuple" ∨ t = "list" ∨ t = "dict" then some false else none
  | "tuple", t => if t = "tuple" then some true else if t = "bool" ∨ t = "str" ∨ t = "int" ∨ t = "list" ∨ t = "dict" then some false else none
  | "list", t => if t = "list" then some true else if t = "bool" ∨ t = "str" ∨ t = "tuple" ∨ t = "int" ∨ t = "dict" then some false else none
  | "dict", t => if t = "dict" then some true else if t = "bool" ∨ t = "str" ∨ t = "tuple" ∨ t = "list" ∨ t = "int" then some false else none
  | _, _ => none
def instR : ARL
  | [x, .ty t], h, Q => match tyName x h with
    | some n => (match isInst n t with
      | some b => Q (.bl b) h
      | none => False)
    | none => False
  | _, _, _ => False
def blsOf : List AV → Option (List Bool)
  | [] => some []
  | .bl b :: r => (blsOf r).map (b :: ·)
  | _ :: _ => none
def allR : ARL
  | [.ref n], h, Q => match h[n]? with
    | some (.lst xs) => (match blsOf xs with
      | some bs => Q (.bl (bs.all id)) h
      | none => False)
    | _ => False
  | _, _, _ => False
def anyR : ARL
  | [.ref n], h, Q => match h[n]? with
    | some (.lst xs) => (match blsOf xs with
      | some bs => Q (.bl (bs.any id)) h
      | none => False)
    | _ => False
  | _, _, _ => False
/-! ### methods -/
def isLst : AV → AH → Prop
  | .ref n, h => match h[n]? with
    | some (.lst _) => True
    | _ => False
  | _, _ => False
def appendR : ARM
  | .ref n, [y], h, Q => match h[n]? with
    | some (.lst xs) => xs.length < 16777216 ∧ Q .non (h.set n (.lst (xs ++ [y])))
    | _ => False
  | _, _, _, _ => False

def insertR : ARM
  | .ref n, [.int i, y], h, Q => match h[n]? with
    | some (.lst xs) => xs.length < 16777216 ∧ 0 ≤ i ∧ i < 2 ^ 63 ∧ Q .non (h.set n (.lst (xs.take i.toNat ++ [y] ++ xs.drop i.toNat)))
    | _ => False
  | _, _, _, _ => False
def iaddR : AR2
  | .int i, .int j, h, Q => Q (.int (i + j)) h
  | .str x, .str y, h, Q => x.length + y.length ≤ 16777216 ∧ Q (.str (x ++ y)) h
  | _, _, _, _ => False
def isubR : AR2
  | .int i, .int j, h, Q => Q (.int (i - j)) h
  | _, _, _, _ => False

/-! ### statements -/
def nextT : ATS := fun D a h => D.nx a h
def seqT (t u : ATS) : ATS := fun D a h => t { D with nx := u D } a h
def brkT : ATS := fun D a h => D.bk a h
def contT : ATS := fun D a h => D.ct a h
def dropT (te : ATE) : ATS := fun D a h => te a h fun _ h1 => D.nx a h1
def retT (te : ATE) : ATS := fun D a h => te a h D.rt
def retNT : ATS := fun D _ h => D.rt .non h
def ifS (c : ATT) (t u : ATS) : ATS := fun D a h => c a h fun b h1 => if b = true then t D a h1 else u D a h1
def gNameT (i : Nat) : ATG := fun v a h Q => Q (sv a i (some v)) h
def gNilT : ATGs := fun vs a h Q => match vs with
  | [] => Q a h
  | _ :: _ => False
def gConsT (t : ATG) (u : ATGs) : ATGs := fun vs a h Q => match vs with
  | v :: r => t v a h fun a' h' => u r a' h' Q
  | [] => False
def gTupT (n : Nat) (t : ATGs) : ATG := fun v a h Q => match v with
  | .tup xs => xs.length = n ∧ t xs a h Q
  | _ => False
/-- names only: one, or a tuple of names -/
def gNmsT : List Nat → ATGs
  | [] => gNilT
  | i :: r => gConsT (gNameT i) (gNmsT r)
def gSubT (to ti : ATE) : ATG := fun v a h Q => to a h fun o h1 => ti a h1 fun i h2 => setR o i v h2 fun h3 => Q a h3
def asgT (te : ATE) (g : ATG) : ATS := fun D a h => te a h fun x h1 => g x a h1 D.nx
/-- a, b = x, y -/
def parT (i j : Nat) (ta : ATA) : ATS := fun D a h => ta a h fun xs h1 => match xs with
  | [v, w] => D.nx (sv (sv a i (some v)) j (some w)) h1
  | _ => False
def augT (i : Nat) (te : ATE) (r : AR2) : ATS := fun D a h => match gv a i with
  | some x => te a h fun y h1 => r x y h1 fun z h2 => D.nx (sv a i (some z)) h2
  | none => False
/-- o[i] op= e -/
def augST (to ti te : ATE) (r : AR2) : ATS := fun D a h => to a h fun o h1 => ti a h1 fun i h2 => ixR o i h2 fun x h3 => te a h3 fun y h4 => r x y h4 fun z h5 => setR o i z h5 fun h6 => D.nx a h6

/-! ### loops -/
def forT (it : ATI) (g : ATG) (tb : ATS) : ATS := fun D a h => it a h fun items guard h1 => ∃ I : Nat → ASt → AH → Prop, I 0 a h1 ∧
  (∀ i x a h, items[i]? = some x → I i a h → guard h ∧ g x a h fun a2 h2 => tb { D with nx := I (i + 1), ct := I (i + 1), bk := D.nx } a2 h2) ∧
  ∀ a h, I items.length a h → guard h ∧ D.nx a h
def whileT (c : ATT) (tb : ATS) : ATS := fun D a h => ∃ W : Nat → ASt → AH → Prop, (∃ m, W m a h) ∧ ∀ m a h, W m a h →
  c a h fun b h1 => if b = true then ∃ N : ASt → AH → Prop, (∀ a' h', N a' h' → ∃ m', m' < m ∧ W m' a' h') ∧ tb { D with nx := N, ct := N, bk := D.nx } a h1 else D.nx a h1
def lcT (it : ATI) (g : ATG) (tt : ATT) (te : ATE) (vs : List Nat) : ATE := fun a h Q => it a h fun items guard h1 => ∃ I : Nat → List AV → AH → Prop, I 0 [] (h1 ++ [.lst []]) ∧
  (∀ i x acc h, items[i]? = some x → I i acc h → guard h ∧ g x (wipeA a vs) h fun a2 h2 => tt a2 h2 fun b h3 =>
    if b = true then te a2 h3 fun y h4 => h4[h1.length]? = some (.lst acc) ∧ acc.length < 16777216 ∧ I (i + 1) (acc ++ [y]) (h4.set h1.length (.lst (acc ++ [y]))) else I (i + 1) acc h3) ∧
  ∀ acc h, I items.length acc h → guard h ∧ h[h1.length]? = some (.lst acc) ∧ Q (.ref h1.length) h
def yesT : ATT := fun _ h Q => Q true h
/-- a list, a tuple (by its kind) -/
def iSeqT (te : ATE) : ATI := fun a h R => te a h fun x h1 => match x with
  | .tup xs => R xs (fun _ => True) h1
  | .rol xs => R xs (fun _ => True) h1
  | .ref n => (match h1[n]? with
    | some (.lst xs) => R xs (fun h => h[n]? = some (.lst xs)) h1
    | _ => False)
  | _ => False
def zrange (lo : Int) (n : Nat) : List AV := (List.range n).map fun (i : Nat) => .int (lo + (i : Int))
def iRng1T (ta : ATA) : ATI := fun a h R => ta a h fun xs h1 => match xs with
  | [.int n] => n < 2 ^ 62 ∧ -(2 ^ 62) ≤ n ∧ R (zrange 0 n.toNat) (fun _ => True) h1
  | _ => False
def iRng2T (ta : ATA) : ATI := fun a h R => ta a h fun xs h1 => match xs with
  | [.int i, .int n] => (-(2 ^ 62) ≤ i ∧ i < 2 ^ 62 ∧ -(2 ^ 62) ≤ n ∧ n < 2 ^ 62) ∧ R (zrange i (n - i).toNat) (fun _ => True) h1
  | _ => False
def zip2 : List AV → List AV → List AV
  | x :: xs, y :: ys => .tup [x, y] :: zip2 xs ys
  | _, _ => []
def seqOf : AV → AH → Option (List AV)
  | .tup xs, _ => some xs
  | .ref n, h => match h[n]? with
    | some (.lst xs) => some xs
    | _ => none
  | .rol xs, _ => some xs
  | _, _ => none
def lstOf : AV → AH → Option (List AV)
  | .ref n, h => match h[n]? with
    | some (.lst xs) => some xs
    | _ => none
  | .rol xs, _ => some xs
  | _, _ => none
def iZipT (ta : ATA) : ATI := fun a h R => ta a h fun vs h1 => match vs with
  | [.tup xs, .tup ys] => R (zip2 xs ys) (fun _ => True) h1
  | [x, y] => (match lstOf x h1, lstOf y h1 with
    | some xs, some ys => R (zip2 xs ys) (fun h => lstOf x h = some xs ∧ lstOf y h = some ys) h1
    | _, _ => False)
  | _ => False
def enumV (k : Nat) : List AV → List AV
  | [] => []
  | x :: r => .tup [.int (k : Int), x] :: enumV (k + 1) r
def iEnumT (ta : ATA) : ATI := fun a h R => ta a h fun vs h1 => match vs with
  | [.tup xs] => R (enumV 0 xs) (fun _ => True) h1
  | [x] => (match lstOf x h1 with
    | some xs => R (enumV 0 xs) (fun h => lstOf x h = some xs) h1
    | none => False)
  | _ => False
def signs (x : Str) : List AV := x.cps.toList.map fun c => .str ⟨#[c]⟩
def iStrT (te : ATE) : ATI := fun a h R => te a h fun x h1 => match x with
  | .str z => R (signs z) (fun _ => True) h1
  | _ => False
/-- what a def's body is to end with -/
def ends (R : AK) : AEnds := { nx := fun _ h => R .non h, rt := R }
def startA (n : Nat) (xs : List AV) : ASt := xs.map some ++ List.replicate (n - xs.length) none

/-! ### numbers of objects within a bound; what a def gives back, its own objects forgotten -/
mutual
def clB (n : Nat) : AV → Bool
  | .ref k => decide (k < n)
  | .tup xs => clBs n xs
  | .rol xs => clBs n xs
  | _ => true
def clBs (n : Nat) : List AV → Bool
  | [] => true
  | x :: r => clB n x && clBs n r
end
def clO (n : Nat) : AO → Bool
  | .lst xs => clBs n xs
  | .dct kvs => clBs n (kvs.map (·.2))
def clH (h : AH) : Prop := ∀ o ∈ h, clO h.length o = true
def retG (h0 : AH) (R : AK) : AK := fun x h' => R x h' ∨ (∃ h1 j, h' = h1 ++ j ∧ h1.length = h0.length ∧ clH h1 ∧ clB h1.length x = true ∧ R x h1) ∨
  ∃ h1 j1 xs j2, h' = h1 ++ (j1 ++ .lst xs :: j2) ∧ x = .ref (h1.length + j1.length) ∧ h1.length = h0.length ∧ clH h1 ∧ clBs h1.length xs = true ∧ R (.ref h1.length) (h1 ++ [.lst xs])
/-- what the law's def is to keep -/
def lawSp : ASp := fun xs _ R _ => ∃ ns : List Int, xs = [.rol (ns.map AV.int)] ∧ ns.length ≤ 63 ∧ ∀ h', R (.bl true) h'

/-! ### contracts by the number of arguments -/
def A0 (p : AH → AK → AK → Prop) : ASp
  | [], h, R, E => p h R E
  | _, _, _, _ => False
def A1 (p : AV → AH → AK → AK → Prop) : ASp
  | [x], h, R, E => p x h R E
  | _, _, _, _ => False
def A2 (p : AV → AV → AH → AK → AK → Prop) : ASp
  | [x, y], h, R, E => p x y h R E
  | _, _, _, _ => False
def A3 (p : AV → AV → AV → AH → AK → AK → Prop) : ASp
  | [x, y, z], h, R, E => p x y z h R E
  | _, _, _, _ => False
def A4 (p : AV → AV → AV → AV → AH → AK → AK → Prop) : ASp
  | [x, y, z, u], h, R, E => p x y z u h R E
  | _, _, _, _ => False
def A5 (p : AV → AV → AV → AV → AV → AH → AK → AK → Prop) : ASp
  | [x, y, z, u, v], h, R, E => p x y z u v h R E
  | _, _, _, _ => False
def A6 (p : AV → AV → AV → AV → AV → AV → AH → AK → AK → Prop) : ASp
  | [x, y, z, u, v, w], h, R, E => p x y z u v w h R E
  | _, _, _, _ => False
theorem A0_len {p} : ∀ {xs : List AV} {h : AH} {R E : AK}, A0 p xs h R E → xs.length = 0
  | [], _, _, _, _ => rfl
theorem A1_len {p} : ∀ {xs : List AV} {h : AH} {R E : AK}, A1 p xs h R E → xs.length = 1
  | [_], _, _, _, _ => rfl
theorem A2_len {p} : ∀ {xs : List AV} {h : AH} {R E : AK}, A2 p xs h R E → xs.length = 2
  | [_, _], _, _, _, _ => rfl
theorem A3_len {p} : ∀ {xs : List AV} {h : AH} {R E : AK}, A3 p xs h R E → xs.length = 3
  | [_, _, _], _, _, _, _ => rfl
theorem A4_len {p} : ∀ {xs : List AV} {h : AH} {R E : AK}, A4 p xs h R E → xs.length = 4
  | [_, _, _, _], _, _, _, _ => rfl
theorem A5_len {p} : ∀ {xs : List AV} {h : AH} {R E : AK}, A5 p xs h R E → xs.length = 5
  | [_, _, _, _, _], _, _, _, _ => rfl
theorem A6_len {p} : ∀ {xs : List AV} {h : AH} {R E : AK}, A6 p xs h R E → xs.length = 6
  | [_, _, _, _, _, _], _, _, _, _ => rfl
end AL

/-! ALE: what the operations give at values of known kinds, as equations. -/
namespace AL
open PySem
section
variable {i j : Int} {b c : Bool} {x y z : Str} {xs ys : List AV} {n m k : Nat} {h : AH} {Q : AK} {B : Bool → AH → Prop} {v w u : AV} {a : ASt}
theorem e_tru_non : truR .non h B = B false h := rfl
theorem e_tru_bl : truR (.bl b) h B = B b h := rfl
theorem e_tru_int : truR (.int i) h B = B (i != 0) h := rfl
theorem e_tru_tup : truR (.tup xs) h B = B (!xs.isEmpty) h := rfl
theorem e_tru_rol : truR (.rol xs) h B = B (!xs.isEmpty) h := rfl
theorem e_bl_bl : blR (.bl b) h B = B b h := rfl
theorem e_add_int : addR (.int i) (.int j) h Q = Q (.int (i + j)) h := rfl
theorem e_add_ib : addR (.int i) (.bl b) h Q = Q (.int (i + (if b then 1 else 0))) h := rfl
theorem e_add_str : addR (.str x) (.str y) h Q = (x.length + y.length ≤ 16777216 ∧ Q (.str (x ++ y)) h) := rfl
theorem e_add_tup : addR (.tup xs) (.tup ys) h Q = (xs.length + ys.length ≤ 16777216 ∧ Q (.tup (xs ++ ys)) h) := rfl
theorem e_sub_int : subR (.int i) (.int j) h Q = Q (.int (i - j)) h := rfl
theorem e_mul_int : mulR (.int i) (.int j) h Q = (mulOk i j ∧ Q (.int (i * j)) h) := rfl
theorem e_fdiv_int : fdivR (.int i) (.int j) h Q = (divOk j ∧ Q (.int (i / j)) h) := rfl
theorem e_mod_int : modR (.int i) (.int j) h Q = (0 < j ∧ Q (.int (i % j)) h) := rfl
theorem e_pow_int : powR (.int i) (.int j) h Q = ((0 ≤ j ∧ j ≤ 1000000 ∧ i.natAbs < 2 ^ 64) ∧ Q (.int (i ^ j.toNat)) h) := rfl
theorem e_shl_int : shlR (.int i) (.int j) h Q = ((0 ≤ j ∧ j ≤ 1000000 ∧ i.natAbs < 2 ^ 64) ∧ Q (.int (i * 2 ^ j.toNat)) h) := rfl
theorem e_neg_int : negR (.int i) h Q = Q (.int (-i)) h := rfl
theorem e_iadd_int : iaddR (.int i) (.int j) h Q = Q (.int (i + j)) h := rfl
theorem e_iadd_str : iaddR (.str x) (.str y) h Q = (x.length + y.length ≤ 16777216 ∧ Q (.str (x ++ y)) h) := rfl
theorem e_isub_int : isubR (.int i) (.int j) h Q = Q (.int (i - j)) h := rfl
theorem e_aeq_int : aeq (.int i) (.int j) = (i == j) := by simp [aeq]
theorem e_aeq_str : aeq (.str x) (.str y) = (x == y) := by simp [aeq]
theorem e_aeq_bl : aeq (.bl b) (.bl c) = (b == c) := by simp [aeq]
theorem e_aeq_non : aeq .non .non = true := by simp [aeq]
theorem e_aeq_tup : aeq (.tup xs) (.tup ys) = aeqs xs ys := by simp [aeq]
theorem e_aeqs_nil : aeqs [] [] = true := by simp [aeqs]
theorem e_aeqs_cons : aeqs (v :: xs) (w :: ys) = (aeq v w && aeqs xs ys) := by simp [aeqs]
theorem e_aeqs_nc : aeqs [] (w :: ys) = false := by simp [aeqs]
theorem e_aeqs_cn : aeqs (v :: xs) [] = false := by simp [aeqs]
theorem e_plain_int : plainN n (.int i) = true := by cases n <;> rfl
theorem e_plain_bl : plainN n (.bl b) = true := by cases n <;> rfl
theorem e_plain_non : plainN n .non = true := by cases n <;> rfl
theorem e_plain_str : plainN n (.str x) = x.cps.all (· < 0x110000) := by cases n <;> rfl
theorem e_plain_tup : plainN (n + 1) (.tup xs) = xs.all (plainN n) := rfl
theorem e_eq : eqR v w h Q = (plainN 40 v = true ∧ plainN 40 w = true ∧ Q (.bl (aeq v w)) h) := rfl
theorem e_ne : neR v w h Q = (plainN 40 v = true ∧ plainN 40 w = true ∧ Q (.bl (!aeq v w)) h) := rfl
theorem e_lt_int : ltR (.int i) (.int j) h Q = Q (.bl (decide (i < j))) h := rfl
theorem e_lt_str : ltR (.str x) (.str y) h Q = Q (.bl (decide (x.cps.toList < y.cps.toList))) h := rfl
theorem e_le_int : leR (.int i) (.int j) h Q = Q (.bl (decide (i ≤ j))) h := rfl
theorem e_gt_int : gtR (.int i) (.int j) h Q = Q (.bl (decide (j < i))) h := rfl
theorem e_ge_int : geR (.int i) (.int j) h Q = Q (.bl (decide (j ≤ i))) h := rfl
theorem e_isN : isNR v .non h Q = Q (.bl (isNon v)) h := by cases v <;> rfl
theorem e_notN : notNR v .non h Q = Q (.bl (!isNon v)) h := by cases v <;> rfl
theorem e_isNon_int : isNon (.int i) = false := rfl
theorem e_isNon_str : isNon (.str x) = false := rfl
theorem e_isNon_tup : isNon (.tup xs) = false := rfl
theorem e_isNon_non : isNon .non = true := rfl
theorem e_isNon_ref : isNon (.ref n) = false := rfl
theorem e_isNon_bl : isNon (.bl b) = false := rfl
theorem e_ix_tup (e : atA xs i = some v) : ixR (.tup xs) (.int i) h Q = Q v h := by simp only [ixR, e]
theorem e_ix_rol (e : atA xs i = some v) : ixR (.rol xs) (.int i) h Q = Q v h := by simp only [ixR, e]
theorem e_ix_lst (e1 : h[n]? = some (.lst xs)) (e : atA xs i = some v) : ixR (.ref n) (.int i) h Q = Q v h := by simp only [ixR, e1, e]
theorem e_ix_str {c : Nat} (e : atA x.cps.toList i = some c) : ixR (.str x) (.int i) h Q = (x.length ≤ 16777216 ∧ Q (.str ⟨#[c]⟩) h) := by simp only [ixR, e]
theorem e_ix0 : ixR (.tup (v :: xs)) (.int 0) h Q = Q v h := rfl
theorem e_ix1 : ixR (.tup (v :: w :: xs)) (.int 1) h Q = Q w h := rfl
theorem e_ix2 {u : AV} : ixR (.tup (v :: w :: u :: xs)) (.int 2) h Q = Q u h := rfl
theorem e_ix3 {u z : AV} : ixR (.tup (v :: w :: u :: z :: xs)) (.int 3) h Q = Q z h := rfl
theorem e_ix4 {u z t : AV} : ixR (.tup (v :: w :: u :: z :: t :: xs)) (.int 4) h Q = Q t h := rfl
theorem e_set_lst {S : AH → Prop} {j : Nat} (e1 : h[n]? = some (.lst xs)) : setR (.ref n) (.int (j : Int)) v h S = (j < xs.length ∧ S (h.set n (.lst (xs.set j v)))) := by
  show setR (.ref n) (.int (.ofNat j)) v h S = _
  simp only [setR, e1]
theorem e_len_tup : lenR [.tup xs] h Q = Q (.int xs.length) h := rfl
theorem e_len_rol : lenR [.rol xs] h Q = Q (.int xs.length) h := rfl
theorem e_len_str : lenR [.str x] h Q = (x.length ≤ 16777216 ∧ Q (.int x.length) h) := rfl
theorem e_len_lst (e : h[n]? = some (.lst xs)) : lenR [.ref n] h Q = Q (.int xs.length) h := by simp only [lenR, e]
theorem e_abs : absR [.int i] h Q = Q (.int (if i < 0 then -i else i)) h := rfl
theorem e_int_int : intR [.int i] h Q = Q (.int i) h := rfl
theorem e_int_bl : intR [.bl b] h Q = Q (.int (if b then 1 else 0)) h := rfl
theorem e_str_int : strR [.int i] h Q = (i.natAbs.log2 < 1920 ∧ Q (.str (toString i : String)) h) := rfl
theorem e_gcd : gcdR [.int i, .int j] h Q = Q (.int ((Nat.gcd i.natAbs j.natAbs : Nat) : Int)) h := rfl
theorem e_tuple_tup : tupleR [.tup xs] h Q = Q (.tup xs) h := rfl
theorem e_tuple_lst (e : h[n]? = some (.lst xs)) : tupleR [.ref n] h Q = Q (.tup xs) h := by simp only [tupleR, e]
theorem e_list_tup : listR [.tup xs] h Q = Q (.ref h.length) (h ++ [.lst xs]) := rfl
theorem e_list_lst (e : h[n]? = some (.lst xs)) : listR [.ref n] h Q = Q (.ref h.length) (h ++ [.lst xs]) := by simp only [listR, e]
theorem e_inst_ii : instR [.int i, .ty "int"] h Q = Q (.bl true) h := rfl
theorem e_inst_ib : instR [.int i, .ty "bool"] h Q = Q (.bl false) h := rfl
theorem e_inst_tt : instR [.tup xs, .ty "tuple"] h Q = Q (.bl true) h := rfl
theorem e_inst_it : instR [.int i, .ty "tuple"] h Q = Q (.bl false) h := rfl
theorem e_inst_ti : instR [.tup xs, .ty "int"] h Q = Q (.bl false) h := rfl
theorem e_inst_tb : instR [.tup xs, .ty "bool"] h Q = Q (.bl false) h := rfl
theorem e_inst_bb : instR [.bl b, .ty "bool"] h Q = Q (.bl true) h := rfl
theorem e_inst_bi : instR [.bl b, .ty "int"] h Q = Q (.bl true) h := rfl
theorem e_inst_bt : instR [.bl b, .ty "tuple"] h Q = Q (.bl false) h := rfl
theorem e_inst_ss : instR [.str x, .ty "str"] h Q = Q (.bl true) h := rfl
theorem e_inst_st : instR [.str x, .ty "tuple"] h Q = Q (.bl false) h := rfl
theorem e_inst_si : instR [.str x, .ty "int"] h Q = Q (.bl false) h := rfl
theorem e_inst_nt : instR [.non, .ty "tuple"] h Q = Q (.bl false) h := rfl
theorem e_append (e : h[n]? = some (.lst xs)) : appendR (.ref n) [v] h Q = (xs.length < 16777216 ∧ Q .non (h.set n (.lst (xs ++ [v])))) := by simp only [appendR, e]
theorem e_isLst (e : h[n]? = some (.lst xs)) : isLst (.ref n) h = True := by simp only [isLst, e]
theorem e_insert (e : h[n]? = some (.lst xs)) : insertR (.ref n) [.int i, v] h Q = (xs.length < 16777216 ∧ 0 ≤ i ∧ i < 2 ^ 63 ∧ Q .non (h.set n (.lst (xs.take i.toNat ++ [v] ++ xs.drop i.toNat)))) := by simp only [insertR, e]
theorem e_tru_lst (e : h[n]? = some (.lst xs)) : truR (.ref n) h B = B (!xs.isEmpty) h := by simp only [truR, e]
theorem e_gTup {t : ATGs} {N : ASt → AH → Prop} : gTupT n t (.tup xs) a h N = (xs.length = n ∧ t xs a h N) := rfl
theorem e_gCons {t : ATG} {t2 : ATGs} {N : ASt → AH → Prop} : gConsT t t2 (v :: xs) a h N = t v a h fun a' h' => t2 xs a' h' N := rfl
theorem e_gNil {N : ASt → AH → Prop} : gNilT [] a h N = N a h := rfl
theorem e_gNms0 : gNmsT [] = gNilT := rfl
theorem e_gNms1 {r : List Nat} : gNmsT (n :: r) = gConsT (gNameT n) (gNmsT r) := rfl
theorem e_gName {N : ASt → AH → Prop} : gNameT n v a h N = N (sv a n (some v)) h := rfl
theorem atA_0 {α : Type} {x : α} {r : List α} : atA (x :: r) 0 = some x := rfl
theorem atA_1 {α : Type} {x y : α} {r : List α} : atA (x :: y :: r) 1 = some y := rfl
theorem atA_2 {α : Type} {x y z : α} {r : List α} : atA (x :: y :: z :: r) 2 = some z := rfl
theorem atA_3 {α : Type} {x y z u : α} {r : List α} : atA (x :: y :: z :: u :: r) 3 = some u := rfl
theorem atA_4 {α : Type} {x y z u v : α} {r : List α} : atA (x :: y :: z :: u :: v :: r) 4 = some v := rfl
theorem atA_nat {α : Type} {r : List α} {k : Nat} : atA r (k : Int) = r[k]? := rfl
/-! ### lists behind one another -/
theorem get_l0 {h : AH} {x : AO} {r : AH} : (h ++ x :: r)[h.length]? = some x := by
  rw [List.getElem?_append_right (Nat.le_refl _), Nat.sub_self]
  rfl
theorem get_l1 {h : AH} {x y : AO} {r : AH} : (h ++ x :: y :: r)[h.length + 1]? = some y := by
  rw [List.getElem?_append_right (by omega), Nat.add_sub_cancel_left]
  rfl
theorem get_l2 {h : AH} {x y z : AO} {r : AH} : (h ++ x :: y :: z :: r)[h.length + 2]? = some z := by
  rw [List.getElem?_append_right (by omega), Nat.add_sub_cancel_left]
  rfl
theorem get_l3 {h : AH} {x y z u : AO} {r : AH} : (h ++ x :: y :: z :: u :: r)[h.length + 3]? = some u := by
  rw [List.getElem?_append_right (by omega), Nat.add_sub_cancel_left]
  rfl
theorem set_l0 {h : AH} {x y : AO} {r : AH} : (h ++ x :: r).set h.length y = h ++ y :: r := by
  rw [List.set_append_right _ _ (Nat.le_refl _), Nat.sub_self]
  rfl
theorem set_l1 {h : AH} {x y z : AO} {r : AH} : (h ++ x :: y :: r).set (h.length + 1) z = h ++ x :: z :: r := by
  rw [List.set_append_right _ _ (by omega), Nat.add_sub_cancel_left]
  rfl
theorem set_l2 {h : AH} {x y z u : AO} {r : AH} : (h ++ x :: y :: z :: r).set (h.length + 2) u = h ++ x :: y :: u :: r := by
  rw [List.set_append_right _ _ (by omega), Nat.add_sub_cancel_left]
  rfl
theorem app_l {h r s : AH} : (h ++ r) ++ s = h ++ (r ++ s) := List.append_assoc _ _ _
theorem len_l0 {h : AH} {x : AO} : (h ++ [x]).length = h.length + 1 := by simp
theorem len_l1 {h : AH} {x y : AO} : (h ++ [x, y]).length = h.length + 2 := by simp
theorem len_l2 {h : AH} {x y z : AO} : (h ++ [x, y, z]).length = h.length + 3 := by simp
section
variable {te ta tb tc : ATE} {tl : ATA} {tt uu : ATT} {t u : ATS} {r r' : AR2} {r1 : AR1} {rl : ARL} {rm : ARM} {sp : ASp} {E Q : AK} {a : ASt} {h : AH} {v : AV} {i j : Nat} {D : AEnds} {g : ATG} {B : Bool → AH → Prop} {L : List AV → AH → Prop} {ok : AV → AH → Prop}
theorem x_c : cT v a h Q = Q v h := rfl
theorem x_var : varT i a h Q = match gv a i with
    | some v => Q v h
    | none => False := rfl
theorem x_op : opT r ta tb a h Q = ta a h fun x h1 => tb a h1 fun y h2 => r x y h2 Q := rfl
theorem x_un : unT r1 ta a h Q = ta a h fun x h1 => r1 x h1 Q := rfl
theorem x_nil : nilT a h L = L [] h := rfl
theorem x_cons : consT te tl a h L = te a h fun x h1 => tl a h1 fun xs h2 => L (x :: xs) h2 := rfl
theorem x_tup : tupT tl a h Q = tl a h fun xs h1 => lenLe xs 64 = true ∧ Q (.tup xs) h1 := rfl
theorem x_lst : lstT tl a h Q = tl a h fun xs h1 => lenLe xs 64 = true ∧ Q (.ref h1.length) (h1 ++ [.lst xs]) := rfl
theorem x_call : callT sp E tl a h Q = tl a h fun xs h1 => sp xs h1 Q E := rfl
theorem x_cb : cbT rl tl a h Q = tl a h fun xs h1 => rl xs h1 Q := rfl
theorem x_mt : mtT ok rm ta tl a h Q = ta a h fun x h1 => ok x h1 ∧ tl a h1 fun xs h2 => rm x xs h2 Q := rfl
theorem x_tru : truT te a h B = te a h fun x h1 => truR x h1 B := rfl
theorem x_cmp : cmpT te a h B = te a h fun x h1 => blR x h1 B := rfl
theorem x_and : andT tt uu a h B = tt a h fun c h1 => if c = true then uu a h1 B else B false h1 := rfl
theorem x_or : orT tt uu a h B = tt a h fun c h1 => if c = true then B true h1 else uu a h1 B := rfl
theorem x_not : notT tt a h B = tt a h fun c h1 => B (!c) h1 := rfl
theorem x_andV : andV ta tb a h Q = ta a h fun x h1 => blR x h1 fun c h2 => if c = true then tb a h2 Q else Q (.bl false) h2 := rfl
theorem x_orV : orV ta tb a h Q = ta a h fun x h1 => blR x h1 fun c h2 => if c = true then Q (.bl true) h2 else tb a h2 Q := rfl
theorem x_notV : notV ta a h Q = ta a h fun x h1 => blR x h1 fun c h2 => Q (.bl (!c)) h2 := rfl
theorem x_if : ifT tt ta tb a h Q = tt a h fun c h1 => if c = true then ta a h1 Q else tb a h1 Q := rfl
theorem x_chain : chainT r r' ta tb tc a h Q = ta a h fun x h1 => tb a h1 fun y h2 => r x y h2 fun z h3 => blR z h3 fun c h4 => if c = true then tc a h4 fun w h5 => r' y w h5 Q else Q (.bl false) h4 := rfl
theorem x_next : nextT D a h = D.nx a h := rfl
theorem x_seq : seqT t u D a h = t { D with nx := u D } a h := rfl
theorem x_brk : brkT D a h = D.bk a h := rfl
theorem x_cont : contT D a h = D.ct a h := rfl
theorem x_drop : dropT te D a h = te a h fun _ h1 => D.nx a h1 := rfl
theorem x_ret : retT te D a h = te a h D.rt := rfl
theorem x_retN : retNT D a h = D.rt .non h := rfl
theorem x_ifS : ifS tt t u D a h = tt a h fun b h1 => if b = true then t D a h1 else u D a h1 := rfl
theorem x_asg : asgT te g D a h = te a h fun x h1 => g x a h1 D.nx := rfl
theorem x_gSub {N : ASt → AH → Prop} : gSubT ta tb v a h N = ta a h fun o h1 => tb a h1 fun i h2 => setR o i v h2 fun h3 => N a h3 := rfl
theorem x_par : parT i j tl D a h = tl a h fun xs h1 => match xs with
    | [v, w] => D.nx (sv (sv a i (some v)) j (some w)) h1
    | _ => False := rfl
theorem x_aug : augT i te r D a h = match gv a i with
    | some x => te a h fun y h1 => r x y h1 fun z h2 => D.nx (sv a i (some z)) h2
    | none => False := rfl
theorem x_augS : augST ta tb te r D a h = ta a h fun o h1 => tb a h1 fun i h2 => ixR o i h2 fun x h3 => te a h3 fun y h4 => r x y h4 fun z h5 => setR o i z h5 fun h6 => D.nx a h6 := rfl
theorem x_gv0 {x : Option AV} {s : ASt} : gv (x :: s) 0 = x := rfl
theorem x_gvS {x : Option AV} {s : ASt} : gv (x :: s) (i + 1) = gv s i := rfl
theorem x_sv0 {x y : Option AV} {s : ASt} : sv (x :: s) 0 y = y :: s := rfl
theorem x_svS {x y : Option AV} {s : ASt} : sv (x :: s) (i + 1) y = x :: sv s i y := rfl
theorem x_rt {R : AK} : (ends R).rt = R := rfl
theorem x_nx {R : AK} : (ends R).nx a h = R .non h := rfl
theorem x_yes : yesT a h B = B true h := rfl
theorem x_for {it : ATI} : forT it g t D a h = it a h fun items guard h1 => ∃ I : Nat → ASt → AH → Prop, I 0 a h1 ∧
  (∀ i x a h, items[i]? = some x → I i a h → guard h ∧ g x a h fun a2 h2 => t { D with nx := I (i + 1), ct := I (i + 1), bk := D.nx } a2 h2) ∧
  ∀ a h, I items.length a h → guard h ∧ D.nx a h := rfl
theorem x_iseq_tup {R : List AV → (AH → Prop) → AH → Prop} {xs : List AV} (he : ∀ Q : AK, te a h Q = Q (.tup xs) h) : iSeqT te a h R = R xs (fun _ => True) h := by
  unfold iSeqT
  rw [he]
end
end
end AL

/-! CS: contracts of the defs that many laws share: ratios, draws. -/
namespace AL
open PySem
/-- a ratio as a value -/
def rat (q : Rat) : AV := .tup [.int q.num, .int (q.den : Int)]
/-- the size of a number, of a ratio, in bits -/
def isz (i : Int) : Nat := i.natAbs.log2 + 1
def sz (q : Rat) : Nat := max (isz q.num) (isz (q.den : Int))
/-! ### ratios.py -/
def sp_ratio : ASp := A2 fun x y h R _ => ∃ n d : Int, x = .int n ∧ y = .int d ∧ d ≠ 0 ∧ isz d ≤ 9000 ∧ R (rat (Rat.divInt n d)) h
/-- two ratios in, a value out -/
def rat2 (f : Rat → Rat → AV) : ASp := A2 fun x y h R _ => ∃ a b : Rat, x = rat a ∧ y = rat b ∧ sz a + sz b ≤ 8990 ∧ R (f a b) h
def sp_plus : ASp := rat2 fun a b => rat (a + b)
def sp_minus : ASp := rat2 fun a b => rat (a - b)
def sp_times : ASp := rat2 fun a b => rat (a * b)
def sp_over : ASp := A2 fun x y h R _ => ∃ a b : Rat, x = rat a ∧ y = rat b ∧ b ≠ 0 ∧ sz a + sz b ≤ 8990 ∧ R (rat (a / b)) h
def sp_between : ASp := rat2 fun a b => rat ((a + b) / 2)
def sp_less : ASp := rat2 fun a b => .bl (decide (a < b))
def sp_at_most : ASp := rat2 fun a b => .bl (decide (a ≤ b))
def rat1 (f : Rat → AV) : ASp := A1 fun x h R _ => ∃ a : Rat, x = rat a ∧ sz a ≤ 8990 ∧ R (f a) h
def sp_opposite : ASp := rat1 fun a => rat (-a)
def sp_sign_of : ASp := rat1 fun a => .int (if a.num < 0 then -1 else if a.num > 0 then 1 else 0)
def sp_floor_of : ASp := rat1 fun a => .int (a.num / (a.den : Int))
def sp_ceiling_of : ASp := rat1 fun a => .int (-((-a.num) / (a.den : Int)))
/-- a value that is an int, no bool -/
def isI : AV → Bool
  | .int _ => true
  | _ => false
/-- values of the kinds that are looked at: no type, and lists by number that are there -/
def seen (h : AH) : AV → Prop
  | .ref n => n < h.length
  | .ty _ => False
  | _ => True
def sp_whole_number : ASp := A1 fun x h R _ => seen h x ∧ R (.bl (isI x)) h
/-! ### the laws' draws -/
/-- the drawing list at n: the script's ints, the place, the rest, the seed, three -/
def DrawAt (h : AH) (n : Nat) : Prop := ∃ (k : Nat) (ns : List Int) (at_ : Nat) (rest seed : Int), h[n]? = some (.lst [.ref k, .int (at_ : Int), .int rest, .int seed, .int 3]) ∧ h[k]? = some (.lst (ns.map AV.int)) ∧ k < n
/-- nothing but the drawing list has changed -/
def Drawn (h : AH) (n : Nat) (h' : AH) : Prop := h'.length = h.length ∧ (∀ i, i ≠ n → h'[i]? = h[i]?) ∧ DrawAt h' n
def sp_law_begin : ASp := A1 fun x h R _ => ∃ ns : List Int, x = .rol (ns.map AV.int) ∧ ns.length ≤ 63 ∧ R (.ref (h.length + 1)) (h ++ [.lst (ns.map AV.int), .lst [.ref h.length, .int 0, .int 0, .int 7, .int 3]])
def sp_law_draw : ASp := A2 fun x y h R _ => ∃ (n : Nat) (many : Int), x = .ref n ∧ y = .int many ∧ 0 < many ∧ isz many ≤ 9000 ∧ DrawAt h n ∧ ∀ r h', 0 ≤ r → r < many → Drawn h n h' → R (.int r) h'
/-- the items of a list or tuple, the drawing list apart -/
def sp_law_pick : ASp := A2 fun x y h R _ => ∃ (n : Nat) (xs : List AV), x = .ref n ∧ seqOf y h = some xs ∧ xs ≠ [] ∧ xs.length ≤ 1000000 ∧ y ≠ .ref n ∧ DrawAt h n ∧ ∀ v h', v ∈ xs → Drawn h n h' → R v h'
def sp_law_rare : ASp := A2 fun x y h R _ => ∃ (n : Nat) (many : Int), x = .ref n ∧ y = .int many ∧ 0 < many ∧ isz many ≤ 9000 ∧ DrawAt h n ∧ ∀ r h', Drawn h n h' → R (.bl r) h'
def sp_law_gcd : ASp := A2 fun x y h R _ => ∃ a b : Int, x = .int a ∧ y = .int b ∧ isz a ≤ 20000 ∧ isz b ≤ 20000 ∧ R (.int ((a.natAbs.gcd b.natAbs : Nat) : Int)) h
def sp_law_r : ASp := A2 fun x y h R _ => ∃ n d : Int, x = .int n ∧ y = .int d ∧ d ≠ 0 ∧ isz n ≤ 20000 ∧ isz d ≤ 9000 ∧ R (rat (Rat.divInt n d)) h
def sp_law_add : ASp := rat2 fun a b => rat (a + b)
def sp_law_sub : ASp := rat2 fun a b => rat (a - b)
def sp_law_mul : ASp := rat2 fun a b => rat (a * b)
def sp_law_lt : ASp := rat2 fun a b => .bl (decide (a < b))
def sp_law_div : ASp := A2 fun x y h R _ => ∃ a b : Rat, x = rat a ∧ y = rat b ∧ b ≠ 0 ∧ sz a + sz b ≤ 8990 ∧ R (rat (a / b)) h
def sp_law_is_int : ASp := A1 fun x h R _ => seen h x ∧ R (.bl (isI x)) h
/-- a right ratio -/
def isR : AV → Bool
  | .tup [.int n, .int d] => decide (1 ≤ d) && decide (n.natAbs.gcd d.natAbs = 1)
  | _ => false
def isRsp : ASp := A1 fun x h R _ => seen h x ∧ (∀ xs, x = .tup xs → ∀ y ∈ xs, seen h y) ∧ (∀ n d, x = .tup [.int n, .int d] → isz n ≤ 20000 ∧ isz d ≤ 20000) ∧ R (.bl (isR x)) h
def sp_is_ratio : ASp := isRsp
def sp_law_is_r : ASp := isRsp
/-- what every law's def is to keep -/
def sp_law : ASp := A1 fun x h R _ => ∃ ns : List Int, x = .rol (ns.map AV.int) ∧ ns.length ≤ 63 ∧ ∀ h', R (.bl true) h'
/-- plain data of bounded depth, no list in it -/
def dat : Nat → AV → Bool
  | 0, _ => false
  | n + 1, .tup xs => decide (xs.length ≤ 1000000) && xs.all (dat n)
  | _ + 1, .non => true
  | _ + 1, .bl _ => true
  | _ + 1, .int _ => true
  | _ + 1, .str x => x.cps.all (· < 0x110000)
  | _ + 1, _ => false
def sp_law_same (dep : Nat) : ASp := A2 fun x y h R _ => x = y ∧ dat dep x = true ∧ R (.bl true) h
theorem sp_law_same_zero {xs : List AV} {h : AH} {R E : AK} (q : sp_law_same 0 xs h R E) : False := match xs, q with
  | [_, _], ⟨_, q, _⟩ => Bool.noConfusion q
end AL

/-! CB: the plain bodies of the shared defs (printed by gen.py). -/
namespace AL
open PySem
def b_ratio_r1 : ATS := (seqT (ifS (cmpT (opT eqR (varT 1) (cT (.int 1))))
    (retT (tupT (consT (varT 0) (consT (cT (.int 1)) nilT))))
    nextT)
    (seqT (asgT (cbT gcdR (consT (varT 0) (consT (varT 1) nilT))) (gNameT 2))
    (seqT (ifS (cmpT (opT eqR (varT 2) (cT (.int 1))))
    (retT (tupT (consT (varT 0) (consT (varT 1) nilT))))
    nextT)
    (retT (tupT (consT (opT fdivR (varT 0) (varT 2)) (consT (opT fdivR (varT 1) (varT 2)) nilT)))))))
def b_ratio : ATS := (seqT (ifS (cmpT (opT ltR (varT 1) (cT (.int 0))))
    (seqT (asgT (unT negR (varT 0)) (gNameT 0))
    (asgT (unT negR (varT 1)) (gNameT 1)))
    nextT)
    b_ratio_r1)
def b_whole_number : ATS := (retT (andV (cbT instR (consT (varT 0) (consT (cT (.ty "int")) nilT))) (notV (cbT instR (consT (varT 0) (consT (cT (.ty "bool")) nilT))))))
def b_is_ratio : ATS := (seqT (ifS (orT (notT (truT (cbT instR (consT (varT 0) (consT (cT (.ty "tuple")) nilT))))) (cmpT (opT neR (cbT lenR (consT (varT 0) nilT)) (cT (.int 2)))))
    (retT (cT (.bl false)))
    nextT)
    (seqT (asgT (varT 0) (gTupT 2 (gConsT (gNameT 1) (gConsT (gNameT 2) gNilT))))
    (seqT (ifS (orT (notT (truT (callT sp_whole_number (fun _ _ => False) (consT (varT 1) nilT)))) (notT (truT (callT sp_whole_number (fun _ _ => False) (consT (varT 2) nilT)))))
    (retT (cT (.bl false)))
    nextT)
    (retT (andV (opT geR (varT 2) (cT (.int 1))) (opT eqR (cbT gcdR (consT (varT 1) (consT (varT 2) nilT))) (cT (.int 1))))))))
def b_plus : ATS := (seqT (ifS (andT (cmpT (opT eqR (opT ixR (varT 0) (cT (.int 1))) (cT (.int 1)))) (cmpT (opT eqR (opT ixR (varT 1) (cT (.int 1))) (cT (.int 1)))))
    (retT (tupT (consT (opT addR (opT ixR (varT 0) (cT (.int 0))) (opT ixR (varT 1) (cT (.int 0)))) (consT (cT (.int 1)) nilT))))
    nextT)
    (retT (callT sp_ratio (fun _ _ => False) (consT (opT addR (opT mulR (opT ixR (varT 0) (cT (.int 0))) (opT ixR (varT 1) (cT (.int 1)))) (opT mulR (opT ixR (varT 1) (cT (.int 0))) (opT ixR (varT 0) (cT (.int 1))))) (consT (opT mulR (opT ixR (varT 0) (cT (.int 1))) (opT ixR (varT 1) (cT (.int 1)))) nilT)))))
def b_minus : ATS := (seqT (ifS (andT (cmpT (opT eqR (opT ixR (varT 0) (cT (.int 1))) (cT (.int 1)))) (cmpT (opT eqR (opT ixR (varT 1) (cT (.int 1))) (cT (.int 1)))))
    (retT (tupT (consT (opT subR (opT ixR (varT 0) (cT (.int 0))) (opT ixR (varT 1) (cT (.int 0)))) (consT (cT (.int 1)) nilT))))
    nextT)
    (retT (callT sp_ratio (fun _ _ => False) (consT (opT subR (opT mulR (opT ixR (varT 0) (cT (.int 0))) (opT ixR (varT 1) (cT (.int 1)))) (opT mulR (opT ixR (varT 1) (cT (.int 0))) (opT ixR (varT 0) (cT (.int 1))))) (consT (opT mulR (opT ixR (varT 0) (cT (.int 1))) (opT ixR (varT 1) (cT (.int 1)))) nilT)))))
def b_times : ATS := (seqT (ifS (andT (cmpT (opT eqR (opT ixR (varT 0) (cT (.int 1))) (cT (.int 1)))) (cmpT (opT eqR (opT ixR (varT 1) (cT (.int 1))) (cT (.int 1)))))
    (retT (tupT (consT (opT mulR (opT ixR (varT 0) (cT (.int 0))) (opT ixR (varT 1) (cT (.int 0)))) (consT (cT (.int 1)) nilT))))
    nextT)
    (retT (callT sp_ratio (fun _ _ => False) (consT (opT mulR (opT ixR (varT 0) (cT (.int 0))) (opT ixR (varT 1) (cT (.int 0)))) (consT (opT mulR (opT ixR (varT 0) (cT (.int 1))) (opT ixR (varT 1) (cT (.int 1)))) nilT)))))
def b_over : ATS := (retT (callT sp_ratio (fun _ _ => False) (consT (opT mulR (opT ixR (varT 0) (cT (.int 0))) (opT ixR (varT 1) (cT (.int 1)))) (consT (opT mulR (opT ixR (varT 0) (cT (.int 1))) (opT ixR (varT 1) (cT (.int 0)))) nilT))))
def b_opposite : ATS := (retT (tupT (consT (unT negR (opT ixR (varT 0) (cT (.int 0)))) (consT (opT ixR (varT 0) (cT (.int 1))) nilT))))
def b_less : ATS := (retT (opT ltR (opT mulR (opT ixR (varT 0) (cT (.int 0))) (opT ixR (varT 1) (cT (.int 1)))) (opT mulR (opT ixR (varT 1) (cT (.int 0))) (opT ixR (varT 0) (cT (.int 1))))))
def b_at_most : ATS := (retT (opT leR (opT mulR (opT ixR (varT 0) (cT (.int 0))) (opT ixR (varT 1) (cT (.int 1)))) (opT mulR (opT ixR (varT 1) (cT (.int 0))) (opT ixR (varT 0) (cT (.int 1))))))
def b_sign_of : ATS := (seqT (ifS (cmpT (opT ltR (opT ixR (varT 0) (cT (.int 0))) (cT (.int 0))))
    (retT (unT negR (cT (.int 1))))
    nextT)
    (seqT (ifS (cmpT (opT gtR (opT ixR (varT 0) (cT (.int 0))) (cT (.int 0))))
    (retT (cT (.int 1)))
    nextT)
    (retT (cT (.int 0)))))
def b_floor_of : ATS := (retT (opT fdivR (opT ixR (varT 0) (cT (.int 0))) (opT ixR (varT 0) (cT (.int 1)))))
def b_ceiling_of : ATS := (retT (unT negR (opT fdivR (unT negR (opT ixR (varT 0) (cT (.int 0)))) (opT ixR (varT 0) (cT (.int 1))))))
def b_between : ATS := (retT (callT sp_ratio (fun _ _ => False) (consT (opT addR (opT mulR (opT ixR (varT 0) (cT (.int 0))) (opT ixR (varT 1) (cT (.int 1)))) (opT mulR (opT ixR (varT 1) (cT (.int 0))) (opT ixR (varT 0) (cT (.int 1))))) (consT (opT mulR (opT mulR (cT (.int 2)) (opT ixR (varT 0) (cT (.int 1)))) (opT ixR (varT 1) (cT (.int 1)))) nilT))))
def b_law_begin : ATS := (retT (lstT (consT (lcT (iSeqT (varT 0)) (gNameT 1) yesT (cbT intR (consT (varT 1) nilT)) [1]) (consT (cT (.int 0)) (consT (cT (.int 0)) (consT (cT (.int 7)) (consT (cT (.int 3)) nilT)))))))
def b_law_draw_r1 : ATS := (seqT (augST (varT 0) (cT (.int 1)) (cT (.int 1)) iaddR)
    (seqT (ifS (cmpT (opT geR (varT 3) (opT mulR (cT (.int 2)) (opT powR (cT (.int 10)) (cT (.int 18))))))
    (seqT (asgT (opT modR (cbT intR (consT (opT fdivR (varT 3) (cT (.int 2))) nilT)) (opT shlR (cT (.int 1)) (cT (.int 6000)))) (gNameT 2))
    (seqT (asgT (opT fdivR (varT 2) (varT 1)) (gSubT (varT 0) (cT (.int 2))))
    (retT (opT modR (cbT intR (consT (varT 2) nilT)) (varT 1)))))
    nextT)
    (seqT (asgT (opT modR (cbT intR (consT (opT addR (opT addR (opT addR (opT mulR (opT ixR (varT 0) (cT (.int 3))) (cT (.int 48271))) (opT mulR (opT modR (cbT intR (consT (varT 3) nilT)) (cT (.int 2147483629))) (cT (.int 16807)))) (opT mulR (opT ixR (varT 0) (cT (.int 1))) (cT (.int 69621)))) (cT (.int 11))) nilT)) (cT (.int 2147483647))) (gSubT (varT 0) (cT (.int 3))))
    (retT (opT modR (cbT intR (consT (opT fdivR (opT ixR (varT 0) (cT (.int 3))) (cT (.int 16))) nilT)) (varT 1))))))
def b_law_draw : ATS := (seqT (ifS (cmpT (opT gtR (opT ixR (varT 0) (cT (.int 2))) (cT (.int 0))))
    (seqT (asgT (opT ixR (varT 0) (cT (.int 2))) (gNameT 2))
    (seqT (asgT (opT fdivR (varT 2) (varT 1)) (gSubT (varT 0) (cT (.int 2))))
    (retT (opT modR (cbT intR (consT (varT 2) nilT)) (varT 1)))))
    nextT)
    (seqT (asgT (cT (.int 0)) (gNameT 3))
    (seqT (ifS (cmpT (opT ltR (opT ixR (varT 0) (cT (.int 1))) (cbT lenR (consT (opT ixR (varT 0) (cT (.int 0))) nilT))))
    (seqT (asgT (opT ixR (opT ixR (varT 0) (cT (.int 0))) (opT ixR (varT 0) (cT (.int 1)))) (gNameT 4))
    (asgT (opT addR (opT mulR (cT (.int 2)) (cbT absR (consT (varT 4) nilT))) (cbT intR (consT (opT ltR (varT 4) (cT (.int 0))) nilT))) (gNameT 3)))
    nextT)
    b_law_draw_r1)))
def b_law_pick : ATS := (retT (opT ixR (varT 1) (callT sp_law_draw (fun _ _ => False) (consT (varT 0) (consT (cbT lenR (consT (varT 1) nilT)) nilT)))))
def b_law_rare : ATS := (retT (opT eqR (callT sp_law_draw (fun _ _ => False) (consT (varT 0) (consT (varT 1) nilT))) (opT fdivR (varT 1) (cT (.int 2)))))
def b_law_gcd_l1 : ATS := (seqT (ifS (cmpT (opT eqR (varT 1) (cT (.int 0))))
    brkT
    nextT)
    (parT 0 1 (consT (varT 1) (consT (opT modR (cbT intR (consT (varT 0) nilT)) (varT 1)) nilT))))
def b_law_gcd : ATS := (seqT (asgT (cbT absR (consT (varT 0) nilT)) (gNameT 0))
    (seqT (asgT (cbT absR (consT (varT 1) nilT)) (gNameT 1))
    (seqT (forT (iRng1T (consT (cT (.int 100000)) nilT)) (gNameT 2)
    b_law_gcd_l1)
    (retT (varT 0)))))
def b_law_r_r1 : ATS := (seqT (asgT (callT sp_law_gcd (fun _ _ => False) (consT (varT 0) (consT (varT 1) nilT))) (gNameT 2))
    (retT (tupT (consT (opT fdivR (varT 0) (varT 2)) (consT (opT fdivR (varT 1) (varT 2)) nilT)))))
def b_law_r : ATS := (seqT (ifS (cmpT (opT ltR (varT 1) (cT (.int 0))))
    (seqT (asgT (unT negR (varT 0)) (gNameT 0))
    (asgT (unT negR (varT 1)) (gNameT 1)))
    nextT)
    b_law_r_r1)
def b_law_add : ATS := (retT (callT sp_law_r (fun _ _ => False) (consT (opT addR (opT mulR (opT ixR (varT 0) (cT (.int 0))) (opT ixR (varT 1) (cT (.int 1)))) (opT mulR (opT ixR (varT 1) (cT (.int 0))) (opT ixR (varT 0) (cT (.int 1))))) (consT (opT mulR (opT ixR (varT 0) (cT (.int 1))) (opT ixR (varT 1) (cT (.int 1)))) nilT))))
def b_law_sub : ATS := (retT (callT sp_law_r (fun _ _ => False) (consT (opT subR (opT mulR (opT ixR (varT 0) (cT (.int 0))) (opT ixR (varT 1) (cT (.int 1)))) (opT mulR (opT ixR (varT 1) (cT (.int 0))) (opT ixR (varT 0) (cT (.int 1))))) (consT (opT mulR (opT ixR (varT 0) (cT (.int 1))) (opT ixR (varT 1) (cT (.int 1)))) nilT))))
def b_law_mul : ATS := (retT (callT sp_law_r (fun _ _ => False) (consT (opT mulR (opT ixR (varT 0) (cT (.int 0))) (opT ixR (varT 1) (cT (.int 0)))) (consT (opT mulR (opT ixR (varT 0) (cT (.int 1))) (opT ixR (varT 1) (cT (.int 1)))) nilT))))
def b_law_div : ATS := (retT (callT sp_law_r (fun _ _ => False) (consT (opT mulR (opT ixR (varT 0) (cT (.int 0))) (opT ixR (varT 1) (cT (.int 1)))) (consT (opT mulR (opT ixR (varT 0) (cT (.int 1))) (opT ixR (varT 1) (cT (.int 0)))) nilT))))
def b_law_is_int : ATS := (retT (andV (cbT instR (consT (varT 0) (consT (cT (.ty "int")) nilT))) (notV (cbT instR (consT (varT 0) (consT (cT (.ty "bool")) nilT))))))
def b_law_is_r : ATS := (seqT (ifS (orT (notT (truT (cbT instR (consT (varT 0) (consT (cT (.ty "tuple")) nilT))))) (cmpT (opT neR (cbT lenR (consT (varT 0) nilT)) (cT (.int 2)))))
    (retT (cT (.bl false)))
    nextT)
    (seqT (ifS (orT (notT (truT (callT sp_law_is_int (fun _ _ => False) (consT (opT ixR (varT 0) (cT (.int 0))) nilT)))) (orT (notT (truT (callT sp_law_is_int (fun _ _ => False) (consT (opT ixR (varT 0) (cT (.int 1))) nilT)))) (cmpT (opT ltR (opT ixR (varT 0) (cT (.int 1))) (cT (.int 1))))))
    (retT (cT (.bl false)))
    nextT)
    (retT (opT eqR (callT sp_law_gcd (fun _ _ => False) (consT (opT ixR (varT 0) (cT (.int 0))) (consT (opT ixR (varT 0) (cT (.int 1))) nilT))) (cT (.int 1))))))
end AL

/-! RM: ratios and their sizes. -/
namespace AL
open PySem
theorem isz_pos (i : Int) : 1 ≤ isz i := Nat.le_add_left _ _
theorem isz_lt {i : Int} {n : Nat} (h : isz i ≤ n) : i.natAbs < 2 ^ n := Nat.lt_of_lt_of_le Nat.lt_log2_self (Nat.pow_le_pow_right (by decide) h)
theorem isz_le {i : Int} {n : Nat} (hn : 1 ≤ n) (h : i.natAbs < 2 ^ n) : isz i ≤ n := by
  unfold isz
  by_cases h0 : i.natAbs = 0
  · rw [h0]
    exact hn
  · have := (Nat.log2_lt h0).mpr h
    omega
theorem isz_mono {i j : Int} (h : i.natAbs ≤ j.natAbs) : isz i ≤ isz j := isz_le (isz_pos j) (Nat.lt_of_le_of_lt h (isz_lt (Nat.le_refl _)))
theorem isz_neg (i : Int) : isz (-i) = isz i := by
  unfold isz
  rw [Int.natAbs_neg]
theorem isz_mul (i j : Int) : isz (i * j) ≤ isz i + isz j := by
  refine isz_le (by have := isz_pos i; omega) ?_
  rw [Int.natAbs_mul, Nat.pow_add]
  exact Nat.mul_lt_mul'' (isz_lt (Nat.le_refl _)) (isz_lt (Nat.le_refl _))
theorem isz_add {i j : Int} {n : Nat} (hi : isz i ≤ n) (hj : isz j ≤ n) : isz (i + j) ≤ n + 1 := by
  refine isz_le (by omega) ?_
  have h1 := isz_lt hi
  have h2 := isz_lt hj
  rw [Nat.pow_succ]
  omega
theorem isz_sub {i j : Int} {n : Nat} (hi : isz i ≤ n) (hj : isz j ≤ n) : isz (i - j) ≤ n + 1 := by
  rw [Int.sub_eq_add_neg]
  exact isz_add hi (by rw [isz_neg]; exact hj)
theorem natAbs_div_le (i : Int) (d : Nat) : (i / (d : Int)).natAbs ≤ i.natAbs := by
  rcases Nat.eq_zero_or_pos d with h | h
  · subst h
    simp
  · have h1 : (1 : Int) ≤ d := by omega
    have e := Int.mul_ediv_add_emod i d
    have r0 := Int.emod_nonneg i (show (d : Int) ≠ 0 by omega)
    have r1 := Int.emod_lt_of_pos i (show (0 : Int) < d by omega)
    by_cases hi : 0 ≤ i
    · have q0 := Int.ediv_nonneg hi (show (0 : Int) ≤ d by omega)
      have := Int.ediv_le_self (d : Int) hi
      omega
    · have q0 : i / (d : Int) < 0 := Int.ediv_neg_of_neg_of_pos (by omega) (by omega)
      have q1 : i ≤ i / (d : Int) := by
        rw [Int.le_ediv_iff_mul_le (by omega)]
        have : i * (d : Int) ≤ i * 1 := Int.mul_le_mul_of_nonpos_left (by omega) h1
        omega
      omega
theorem isz_div (i : Int) (d : Nat) : isz (i / (d : Int)) ≤ isz i := isz_mono (natAbs_div_le i d)
theorem sz_num (q : Rat) : isz q.num ≤ sz q := Nat.le_max_left _ _
theorem sz_den (q : Rat) : isz (q.den : Int) ≤ sz q := Nat.le_max_right _ _
theorem sz_pos (q : Rat) : 1 ≤ sz q := Nat.le_trans (isz_pos _) (sz_num q)
theorem den_pos (q : Rat) : (0 : Int) < q.den := by
  have := q.den_nz
  omega
theorem divInt_parts {n d : Int} (h : 0 < d) : (Rat.divInt n d).num = n / ((n.natAbs.gcd d.natAbs : Nat) : Int) ∧ ((Rat.divInt n d).den : Int) = d / ((n.natAbs.gcd d.natAbs : Nat) : Int) := by
  have g : (Int.gcd d n) = n.natAbs.gcd d.natAbs := by
    rw [Int.gcd_comm]
    rfl
  rw [Rat.num_divInt, Rat.den_divInt, g, Int.sign_eq_one_of_pos h, Int.one_mul, if_neg (by omega)]
  refine ⟨rfl, ?_⟩
  rw [Int.natCast_ediv]
  congr 1
  omega
theorem rat_divInt {n d : Int} (h : 0 < d) : rat (Rat.divInt n d) = .tup [.int (n / ((n.natAbs.gcd d.natAbs : Nat) : Int)), .int (d / ((n.natAbs.gcd d.natAbs : Nat) : Int))] := by
  obtain ⟨h1, h2⟩ := divInt_parts (n := n) h
  unfold rat
  rw [h1, h2]
theorem sz_divInt {n d : Int} (h : d ≠ 0) : sz (Rat.divInt n d) ≤ max (isz n) (isz d) := by
  have pos : ∀ {n d : Int}, 0 < d → sz (Rat.divInt n d) ≤ max (isz n) (isz d) := fun {n d} h => by
    obtain ⟨h1, h2⟩ := divInt_parts (n := n) h
    unfold sz
    rw [h1, h2]
    have a := isz_div n (n.natAbs.gcd d.natAbs)
    have b := isz_div d (n.natAbs.gcd d.natAbs)
    omega
  by_cases hd : 0 < d
  · exact pos hd
  · have := pos (n := -n) (d := -d) (by omega)
    rw [Rat.neg_divInt_neg, isz_neg, isz_neg] at this
    exact this
theorem add_eq (a b : Rat) : Rat.divInt (a.num * b.den + b.num * a.den) (a.den * b.den) = a + b := by
  have h := Rat.divInt_add_divInt a.num b.num (d₁ := a.den) (d₂ := b.den) (by have := den_pos a; omega) (by have := den_pos b; omega)
  rw [Rat.num_divInt_den, Rat.num_divInt_den] at h
  exact h.symm
theorem sub_eq (a b : Rat) : Rat.divInt (a.num * b.den - b.num * a.den) (a.den * b.den) = a - b := by
  have h := add_eq a (-b)
  rw [Rat.neg_num, Rat.neg_den, Int.neg_mul, ← Int.sub_eq_add_neg, ← Rat.sub_eq_add_neg] at h
  exact h
theorem mul_eq (a b : Rat) : Rat.divInt (a.num * b.num) (a.den * b.den) = a * b := by
  have h := Rat.divInt_mul_divInt a.num b.num (d₁ := a.den) (d₂ := b.den)
  rw [Rat.num_divInt_den, Rat.num_divInt_den] at h
  exact h.symm
theorem div_eq (a b : Rat) : Rat.divInt (a.num * b.den) (a.den * b.num) = a / b := by
  have h := Rat.divInt_mul_divInt a.num b.den (d₁ := a.den) (d₂ := b.num)
  rw [Rat.num_divInt_den] at h
  rw [Rat.div_def, ← h]
  congr 1
  rw [Rat.divInt_eq_div]
  have e : b = (b.num : Rat) / ((b.den : Int) : Rat) := by
    rw [← Rat.divInt_eq_div, Rat.num_divInt_den]
  conv => rhs; rw [e]
  rw [Rat.div_def, Rat.div_def, Rat.inv_mul_rev, Rat.inv_inv]
theorem sz_add (a b : Rat) : sz (a + b) ≤ sz a + sz b + 1 := by
  rw [← add_eq]
  have hd : (a.den : Int) * b.den ≠ 0 := by
    have := Int.mul_pos (den_pos a) (den_pos b)
    omega
  refine Nat.le_trans (sz_divInt hd) ?_
  have h1 := isz_mul a.num b.den
  have h2 := isz_mul b.num a.den
  have h3 := isz_mul a.den b.den
  have n1 := sz_num a
  have n2 := sz_num b
  have d1 := sz_den a
  have d2 := sz_den b
  have h4 := isz_add (i := a.num * b.den) (j := b.num * a.den) (n := sz a + sz b) (by omega) (by omega)
  omega
theorem sz_neg (a : Rat) : sz (-a) = sz a := by
  unfold sz
  rw [Rat.neg_num, Rat.neg_den, isz_neg]
theorem sz_sub (a b : Rat) : sz (a - b) ≤ sz a + sz b + 1 := by
  rw [Rat.sub_eq_add_neg]
  have := sz_add a (-b)
  rw [sz_neg] at this
  exact this
theorem sz_mul (a b : Rat) : sz (a * b) ≤ sz a + sz b := by
  rw [← mul_eq]
  have hd : (a.den : Int) * b.den ≠ 0 := by
    have := Int.mul_pos (den_pos a) (den_pos b)
    omega
  refine Nat.le_trans (sz_divInt hd) ?_
  have h1 := isz_mul a.num b.num
  have h3 := isz_mul a.den b.den
  have n1 := sz_num a
  have n2 := sz_num b
  have d1 := sz_den a
  have d2 := sz_den b
  omega
theorem num_ne {b : Rat} (h : b ≠ 0) : b.num ≠ 0 := fun z => h (Rat.num_eq_zero.mp z)
theorem sz_div (a b : Rat) (hb : b ≠ 0) : sz (a / b) ≤ sz a + sz b := by
  rw [← div_eq]
  have hd : (a.den : Int) * b.num ≠ 0 := Int.mul_ne_zero (by have := den_pos a; omega) (num_ne hb)
  refine Nat.le_trans (sz_divInt hd) ?_
  have h1 := isz_mul a.num b.den
  have h3 := isz_mul a.den b.num
  have n1 := sz_num a
  have n2 := sz_num b
  have d1 := sz_den a
  have d2 := sz_den b
  omega
theorem mulOk_of {i j : Int} {n : Nat} (h : isz i + isz j ≤ n) (hn : n ≤ 100000) : mulOk i j := by
  right
  unfold isz at h
  omega
theorem divOk_of {d : Int} (h0 : 0 < d) (h : isz d ≤ 9000) : divOk d := ⟨h0, by unfold isz at h; omega⟩
/-- a ratio of a whole number -/
theorem rat_int (n : Int) : rat (n : Rat) = .tup [.int n, .int 1] := rfl
theorem rat_whole {q : Rat} (h : (q.den : Int) = 1) : q = (q.num : Rat) := by
  have h2 : q.den = 1 := by omega
  exact Rat.ext rfl h2
theorem rat_inj {a b : Rat} (h : rat a = rat b) : a = b := by
  unfold rat at h
  simp only [AV.tup.injEq, List.cons.injEq, AV.int.injEq, and_true] at h
  exact Rat.ext h.1 (by omega)
theorem aeq_rat (a b : Rat) : aeq (rat a) (rat b) = decide (a = b) := by
  unfold rat
  simp only [aeq, aeqs, Bool.and_true]
  by_cases h : a = b
  · subst h
    simp
  · rw [decide_eq_false h]
    by_cases h1 : a.num = b.num
    · have h2 : ¬ ((a.den : Int) = (b.den : Int)) := fun z => h (Rat.ext h1 (by omega))
      simp [h1, h2]
    · simp [h1]
theorem plain_rat (n : Nat) (a : Rat) : plainN (n + 1) (rat a) = true := by
  cases n <;> rfl
end AL

/-! CP: that the shared defs' bodies keep their contracts. -/
namespace AL
open PySem
local macro_rules | `(tactic| get_elem_tactic_trivial) => `(tactic| simp only [e_tru_non, e_tru_bl, e_tru_int, e_tru_tup, e_tru_rol, e_bl_bl, e_add_int, e_add_ib, e_add_str, e_add_tup, e_sub_int, e_mul_int, e_fdiv_int, e_mod_int, e_pow_int, e_shl_int, e_neg_int, e_iadd_int, e_iadd_str, e_isub_int, e_aeq_int, e_aeq_str, e_aeq_bl, e_aeq_non, e_aeq_tup, e_aeqs_nil, e_aeqs_cons, e_aeqs_nc, e_aeqs_cn, e_plain_int, e_plain_bl, e_plain_non, e_plain_str, e_plain_tup, e_eq, e_ne, e_lt_int, e_lt_str, e_le_int, e_gt_int, e_ge_int, e_isN, e_notN, e_isNon_int, e_isNon_str, e_isNon_tup, e_isNon_non, e_isNon_ref, e_isNon_bl, e_ix0, e_ix1, e_ix2, e_ix3, e_ix4, e_len_tup, e_len_rol, e_len_str, e_abs, e_int_int, e_int_bl, e_str_int, e_gcd, e_tuple_tup, e_list_tup, e_inst_ii, e_inst_ib, e_inst_tt, e_inst_it, e_inst_ti, e_inst_tb, e_inst_bb, e_inst_bi, e_inst_bt, e_inst_ss, e_inst_st, e_inst_si, e_inst_nt, e_gTup, e_gCons, e_gNil, e_gNms0, e_gNms1, e_gName, atA_0, atA_1, atA_2, atA_3, atA_4, get_l0, get_l1, get_l2, get_l3, set_l0, set_l1, set_l2, app_l, len_l0, len_l1, len_l2, x_c, x_var, x_op, x_un, x_nil, x_cons, x_tup, x_lst, x_call, x_cb, x_mt, x_tru, x_cmp, x_and, x_or, x_not, x_andV, x_orV, x_notV, x_if, x_chain, x_next, x_seq, x_brk, x_cont, x_drop, x_ret, x_retN, x_ifS, x_asg, x_gSub, x_par, x_aug, x_augS, x_rt, x_nx, x_yes, gv, sv, wipeA, lenLe, true_and, and_true, if_true, if_false, ite_true, ite_false, beq_iff_eq, decide_eq_true_eq, Bool.false_eq_true, not_false_eq_true, Bool.not_eq_true', decide_eq_false_iff_not, Bool.not_true, Bool.not_false, List.isEmpty_cons, List.isEmpty_nil, List.cons_append, List.nil_append, List.length_cons, List.length_nil])
theorem retG_of {h0 h : AH} {R : AK} {x : AV} (q : R x h) : retG h0 R x h := .inl q
theorem gcd_bound {n d : Int} (hd : d ≠ 0) (hs : isz d ≤ 9000) : divOk ((n.natAbs.gcd d.natAbs : Nat) : Int) := by
  have hp : 0 < n.natAbs.gcd d.natAbs := Nat.gcd_pos_of_pos_right _ (by omega)
  refine divOk_of (by omega) (Nat.le_trans (isz_mono ?_) hs)
  rw [Int.natAbs_natCast]
  exact Nat.gcd_le_right _ (by omega)
theorem ratio_pos {n d : Int} {P : AV → Prop} (hd : 0 < d) (hs : isz d ≤ 9000) (q : P (rat (Rat.divInt n d))) :
    if d = 1 then P (.tup [.int n, .int 1]) else
      if ((n.natAbs.gcd d.natAbs : Nat) : Int) = 1 then P (.tup [.int n, .int d]) else
        divOk ((n.natAbs.gcd d.natAbs : Nat) : Int) ∧ divOk ((n.natAbs.gcd d.natAbs : Nat) : Int) ∧ P (.tup [.int (n / ((n.natAbs.gcd d.natAbs : Nat) : Int)), .int (d / ((n.natAbs.gcd d.natAbs : Nat) : Int))]) := by
  rw [rat_divInt hd] at q
  have g := gcd_bound (n := n) (by omega) hs
  by_cases h1 : d = 1
  · rw [if_pos h1]
    subst h1
    have e : n.natAbs.gcd (Int.natAbs 1) = 1 := Nat.gcd_one_right _
    rw [e] at q
    simpa using q
  · rw [if_neg h1]
    by_cases h2 : ((n.natAbs.gcd d.natAbs : Nat) : Int) = 1
    · rw [if_pos h2]
      rw [h2] at q
      simpa using q
    · rw [if_neg h2]
      exact ⟨g, g, q⟩
theorem pure_ratio (x y : AV) (h : AH) (R : AK) (c1 : clH h) (c2 : clBs h.length [x, y] = true) (q : sp_ratio [x, y] h R (fun _ _ => False)) : b_ratio (ends (retG h R)) [some x, some y, none] h := by
  obtain ⟨n, d, rfl, rfl, hd, hs, q⟩ := q
  unfold b_ratio
  get_elem_tactic_trivial
  unfold b_ratio_r1
  get_elem_tactic_trivial
  by_cases h0 : d < 0
  · rw [if_pos h0]
    exact ratio_pos (n := -n) (d := -d) (P := fun v => retG h R v h) (by omega) (by rw [isz_neg]; exact hs) (retG_of (by rw [Rat.neg_divInt_neg]; exact q))
  · rw [if_neg h0]
    exact ratio_pos (P := fun v => retG h R v h) (by omega) hs (retG_of q)
/-- what a body that takes two ratios asks of its products -/
structure Two (a b : Rat) : Prop where
  s : sz a + sz b ≤ 8990
theorem Two.nd {a b : Rat} (t : Two a b) : mulOk a.num b.den := mulOk_of (Nat.le_trans (Nat.add_le_add (sz_num a) (sz_den b)) t.s) (by decide)
theorem Two.dn {a b : Rat} (t : Two a b) : mulOk b.num a.den := mulOk_of (n := 8990) (by have := t.s; have := sz_num b; have := sz_den a; omega) (by decide)
theorem Two.dd {a b : Rat} (t : Two a b) : mulOk a.den b.den := mulOk_of (Nat.le_trans (Nat.add_le_add (sz_den a) (sz_den b)) t.s) (by decide)
theorem Two.nn {a b : Rat} (t : Two a b) : mulOk a.num b.num := mulOk_of (Nat.le_trans (Nat.add_le_add (sz_num a) (sz_num b)) t.s) (by decide)
theorem Two.dn' {a b : Rat} (t : Two a b) : mulOk a.den b.num := mulOk_of (Nat.le_trans (Nat.add_le_add (sz_den a) (sz_num b)) t.s) (by decide)
theorem Two.isz {a b : Rat} (t : Two a b) : isz ((a.den : Int) * b.den) ≤ 9000 := Nat.le_trans (isz_mul _ _) (Nat.le_trans (Nat.add_le_add (sz_den a) (sz_den b)) (Nat.le_trans t.s (by decide)))
theorem dd_ne (a b : Rat) : (a.den : Int) * b.den ≠ 0 := by
  have := Int.mul_pos (den_pos a) (den_pos b)
  omega
theorem whole_add {a b : Rat} (ha : (a.den : Int) = 1) (hb : (b.den : Int) = 1) : rat (a + b) = .tup [.int (a.num + b.num), .int 1] := by
  rw [rat_whole ha, rat_whole hb, ← Rat.intCast_add]
  rfl
theorem whole_sub {a b : Rat} (ha : (a.den : Int) = 1) (hb : (b.den : Int) = 1) : rat (a - b) = .tup [.int (a.num - b.num), .int 1] := by
  rw [rat_whole ha, rat_whole hb, ← Rat.intCast_sub]
  rfl
theorem whole_mul {a b : Rat} (ha : (a.den : Int) = 1) (hb : (b.den : Int) = 1) : rat (a * b) = .tup [.int (a.num * b.num), .int 1] := by
  rw [rat_whole ha, rat_whole hb, ← Rat.intCast_mul]
  rfl
theorem pure_plus (x y : AV) (h : AH) (R : AK) (c1 : clH h) (c2 : clBs h.length [x, y] = true) (q : sp_plus [x, y] h R (fun _ _ => False)) : b_plus (ends (retG h R)) [some x, some y] h := by
  obtain ⟨a, b, rfl, rfl, hs, q⟩ := q
  have t : Two a b := ⟨hs⟩
  have go : sp_ratio [.int (a.num * b.den + b.num * a.den), .int (a.den * b.den)] h (retG h R) (fun _ _ => False) := ⟨_, _, rfl, rfl, dd_ne a b, t.isz, retG_of (by rw [add_eq]; exact q)⟩
  unfold b_plus rat
  get_elem_tactic_trivial
  split
  · split
    · rename_i ha hb
      exact retG_of (by rw [← whole_add ha hb]; exact q)
    · exact ⟨t.nd, t.dn, t.dd, go⟩
  · exact ⟨t.nd, t.dn, t.dd, go⟩
theorem pure_minus (x y : AV) (h : AH) (R : AK) (c1 : clH h) (c2 : clBs h.length [x, y] = true) (q : sp_minus [x, y] h R (fun _ _ => False)) : b_minus (ends (retG h R)) [some x, some y] h := by
  obtain ⟨a, b, rfl, rfl, hs, q⟩ := q
  have t : Two a b := ⟨hs⟩
  have go : sp_ratio [.int (a.num * b.den - b.num * a.den), .int (a.den * b.den)] h (retG h R) (fun _ _ => False) := ⟨_, _, rfl, rfl, dd_ne a b, t.isz, retG_of (by rw [sub_eq]; exact q)⟩
  unfold b_minus rat
  get_elem_tactic_trivial
  split
  · split
    · rename_i ha hb
      exact retG_of (by rw [← whole_sub ha hb]; exact q)
    · exact ⟨t.nd, t.dn, t.dd, go⟩
  · exact ⟨t.nd, t.dn, t.dd, go⟩
theorem pure_times (x y : AV) (h : AH) (R : AK) (c1 : clH h) (c2 : clBs h.length [x, y] = true) (q : sp_times [x, y] h R (fun _ _ => False)) : b_times (ends (retG h R)) [some x, some y] h := by
  obtain ⟨a, b, rfl, rfl, hs, q⟩ := q
  have t : Two a b := ⟨hs⟩
  have go : sp_ratio [.int (a.num * b.num), .int (a.den * b.den)] h (retG h R) (fun _ _ => False) := ⟨_, _, rfl, rfl, dd_ne a b, t.isz, retG_of (by rw [mul_eq]; exact q)⟩
  unfold b_times rat
  get_elem_tactic_trivial
  split
  · split
    · rename_i ha hb
      exact ⟨t.nn, retG_of (by rw [← whole_mul ha hb]; exact q)⟩
    · exact ⟨t.nn, t.dd, go⟩
  · exact ⟨t.nn, t.dd, go⟩
theorem pure_over (x y : AV) (h : AH) (R : AK) (c1 : clH h) (c2 : clBs h.length [x, y] = true) (q : sp_over [x, y] h R (fun _ _ => False)) : b_over (ends (retG h R)) [some x, some y] h := by
  obtain ⟨a, b, rfl, rfl, hb, hs, q⟩ := q
  have t : Two a b := ⟨hs⟩
  unfold b_over rat
  get_elem_tactic_trivial
  refine ⟨t.nd, t.dn', _, _, rfl, rfl, Int.mul_ne_zero (by have := den_pos a; omega) (num_ne hb), ?_, retG_of (by rw [div_eq]; exact q)⟩
  exact Nat.le_trans (isz_mul _ _) (by have := sz_den a; have := sz_num b; omega)
theorem pure_opposite (x : AV) (h : AH) (R : AK) (c1 : clH h) (c2 : clBs h.length [x] = true) (q : sp_opposite [x] h R (fun _ _ => False)) : b_opposite (ends (retG h R)) [some x] h := by
  obtain ⟨a, rfl, hs, q⟩ := q
  unfold b_opposite rat
  get_elem_tactic_trivial
  exact retG_of q
theorem pure_less (x y : AV) (h : AH) (R : AK) (c1 : clH h) (c2 : clBs h.length [x, y] = true) (q : sp_less [x, y] h R (fun _ _ => False)) : b_less (ends (retG h R)) [some x, some y] h := by
  obtain ⟨a, b, rfl, rfl, hs, q⟩ := q
  have t : Two a b := ⟨hs⟩
  unfold b_less rat
  get_elem_tactic_trivial
  refine ⟨t.nd, t.dn, retG_of ?_⟩
  rw [show decide (a.num * (b.den : Int) < b.num * (a.den : Int)) = decide (a < b) from decide_eq_decide.mpr (Rat.lt_iff a b).symm]
  exact q
theorem pure_at_most (x y : AV) (h : AH) (R : AK) (c1 : clH h) (c2 : clBs h.length [x, y] = true) (q : sp_at_most [x, y] h R (fun _ _ => False)) : b_at_most (ends (retG h R)) [some x, some y] h := by
  obtain ⟨a, b, rfl, rfl, hs, q⟩ := q
  have t : Two a b := ⟨hs⟩
  unfold b_at_most rat
  get_elem_tactic_trivial
  refine ⟨t.nd, t.dn, retG_of ?_⟩
  rw [show decide (a.num * (b.den : Int) ≤ b.num * (a.den : Int)) = decide (a ≤ b) from decide_eq_decide.mpr (Rat.le_iff a b).symm]
  exact q
theorem pure_sign_of (x : AV) (h : AH) (R : AK) (c1 : clH h) (c2 : clBs h.length [x] = true) (q : sp_sign_of [x] h R (fun _ _ => False)) : b_sign_of (ends (retG h R)) [some x] h := by
  obtain ⟨a, rfl, hs, q⟩ := q
  have q : R (.int (if a.num < 0 then -1 else if a.num > 0 then 1 else 0)) h := q
  unfold b_sign_of rat
  get_elem_tactic_trivial
  split
  · rename_i h1
    rw [if_pos h1] at q
    exact retG_of q
  · rename_i h1
    rw [if_neg h1] at q
    split
    · rename_i h2
      rw [if_pos h2] at q
      exact retG_of q
    · rename_i h2
      rw [if_neg h2] at q
      exact retG_of q
theorem den_ok {a : Rat} (hs : sz a ≤ 8990) : divOk a.den := divOk_of (den_pos a) (by have := sz_den a; omega)
theorem pure_floor_of (x : AV) (h : AH) (R : AK) (c1 : clH h) (c2 : clBs h.length [x] = true) (q : sp_floor_of [x] h R (fun _ _ => False)) : b_floor_of (ends (retG h R)) [some x] h := by
  obtain ⟨a, rfl, hs, q⟩ := q
  unfold b_floor_of rat
  get_elem_tactic_trivial
  exact ⟨den_ok hs, retG_of q⟩
theorem pure_ceiling_of (x : AV) (h : AH) (R : AK) (c1 : clH h) (c2 : clBs h.length [x] = true) (q : sp_ceiling_of [x] h R (fun _ _ => False)) : b_ceiling_of (ends (retG h R)) [some x] h := by
  obtain ⟨a, rfl, hs, q⟩ := q
  unfold b_ceiling_of rat
  get_elem_tactic_trivial
  exact ⟨den_ok hs, retG_of q⟩
theorem half_eq (a b : Rat) : Rat.divInt (a.num * b.den + b.num * a.den) (2 * a.den * b.den) = (a + b) / 2 := by
  rw [← add_eq a b, Rat.divInt_eq_div, Rat.divInt_eq_div, Rat.div_def, Rat.div_def, Rat.div_def, Rat.mul_assoc, ← Rat.inv_mul_rev]
  congr 2
  rw [Int.mul_assoc, Rat.intCast_mul]
  rfl
theorem pure_between (x y : AV) (h : AH) (R : AK) (c1 : clH h) (c2 : clBs h.length [x, y] = true) (q : sp_between [x, y] h R (fun _ _ => False)) : b_between (ends (retG h R)) [some x, some y] h := by
  obtain ⟨a, b, rfl, rfl, hs, q⟩ := q
  have t : Two a b := ⟨hs⟩
  unfold b_between rat
  get_elem_tactic_trivial
  have i2 : isz (2 * (a.den : Int)) ≤ 2 + isz (a.den : Int) := isz_mul 2 _
  have i3 : isz (2 * (a.den : Int) * b.den) ≤ isz (2 * (a.den : Int)) + isz (b.den : Int) := isz_mul _ _
  have d1 := sz_den a
  have d2 := sz_den b
  refine ⟨t.nd, t.dn, .inl (.inl ⟨by decide, by decide⟩), mulOk_of (n := 9000) (by omega) (by decide), _, _, rfl, rfl, ?_, by omega, retG_of (by rw [half_eq]; exact q)⟩
  rw [Int.mul_assoc]
  exact Int.mul_ne_zero (by decide) (dd_ne a b)
/-! ### kinds -/
theorem kind_int (x : AV) (h : AH) (hx : seen h x) (R : AK) (q : R (.bl (isI x)) h) :
    instR [x, .ty "int"] h (fun v h1 => blR v h1 fun c h2 => if c = true then instR [x, .ty "bool"] h2 (fun v h3 => blR v h3 fun c h4 => R (.bl (!c)) h4) else R (.bl false) h2) := by
  cases x with
  | ref n =>
    have e : h[n]? = some h[n] := List.getElem?_eq_getElem hx
    simp only [instR, tyName, e]
    cases h[n] <;> exact q
  | ty n => exact hx.elim
  | _ => exact q
theorem pure_whole_number (x : AV) (h : AH) (R : AK) (c1 : clH h) (c2 : clBs h.length [x] = true) (q : sp_whole_number [x] h R (fun _ _ => False)) : b_whole_number (ends (retG h R)) [some x] h := by
  obtain ⟨hx, q⟩ := q
  unfold b_whole_number
  get_elem_tactic_trivial
  exact kind_int x h hx _ (retG_of q)
end AL

/-! CQ: draws, greatest common divisors, ratios by the laws' own way. -/
namespace AL
open PySem
local macro_rules | `(tactic| get_elem_tactic_trivial) => `(tactic| simp only [e_tru_non, e_tru_bl, e_tru_int, e_tru_tup, e_tru_rol, e_bl_bl, e_add_int, e_add_ib, e_add_str, e_add_tup, e_sub_int, e_mul_int, e_fdiv_int, e_mod_int, e_pow_int, e_shl_int, e_neg_int, e_iadd_int, e_iadd_str, e_isub_int, e_aeq_int, e_aeq_str, e_aeq_bl, e_aeq_non, e_aeq_tup, e_aeqs_nil, e_aeqs_cons, e_aeqs_nc, e_aeqs_cn, e_plain_int, e_plain_bl, e_plain_non, e_plain_str, e_plain_tup, e_eq, e_ne, e_lt_int, e_lt_str, e_le_int, e_gt_int, e_ge_int, e_isN, e_notN, e_isNon_int, e_isNon_str, e_isNon_tup, e_isNon_non, e_isNon_ref, e_isNon_bl, e_ix0, e_ix1, e_ix2, e_ix3, e_ix4, e_len_tup, e_len_rol, e_len_str, e_abs, e_int_int, e_int_bl, e_str_int, e_gcd, e_tuple_tup, e_list_tup, e_inst_ii, e_inst_ib, e_inst_tt, e_inst_it, e_inst_ti, e_inst_tb, e_inst_bb, e_inst_bi, e_inst_bt, e_inst_ss, e_inst_st, e_inst_si, e_inst_nt, e_gTup, e_gCons, e_gNil, e_gNms0, e_gNms1, e_gName, atA_0, atA_1, atA_2, atA_3, atA_4, get_l0, get_l1, get_l2, get_l3, set_l0, set_l1, set_l2, app_l, len_l0, len_l1, len_l2, x_c, x_var, x_op, x_un, x_nil, x_cons, x_tup, x_lst, x_call, x_cb, x_mt, x_tru, x_cmp, x_and, x_or, x_not, x_andV, x_orV, x_notV, x_if, x_chain, x_next, x_seq, x_brk, x_cont, x_drop, x_ret, x_retN, x_ifS, x_asg, x_gSub, x_par, x_aug, x_augS, x_rt, x_nx, x_yes, gv, sv, wipeA, lenLe, true_and, and_true, if_true, if_false, ite_true, ite_false, beq_iff_eq, decide_eq_true_eq, Bool.false_eq_true, not_false_eq_true, Bool.not_eq_true', decide_eq_false_iff_not, Bool.not_true, Bool.not_false, List.isEmpty_cons, List.isEmpty_nil, List.cons_append, List.nil_append, List.length_cons, List.length_nil])
/-- a comprehension whose items are taken as they are, one for one, the heap left -/
theorem lcT_map {it : ATI} {guard : AH → Prop} {g : ATG} {te : ATE} {vs : List Nat} {a : ASt} {items ys : List AV} {h0 h1 : AH} {R : AK} (hi : ∀ K, K items guard h1 → it a h0 K) (hl : items.length = ys.length) (hz : items.length ≤ 1000000)
    (hg : ∀ acc, guard (h1 ++ [.lst acc])) (hs : ∀ (i : Nat) x y acc (Q : AK), items[i]? = some x → ys[i]? = some y → Q y (h1 ++ [.lst acc]) → g x (wipeA a vs) (h1 ++ [.lst acc]) fun a2 h3 => te a2 h3 Q)
    (q : R (.ref h1.length) (h1 ++ [.lst ys])) : lcT it g yesT te vs a h0 R := by
  refine hi _ ⟨fun i acc h => acc = ys.take i ∧ h = h1 ++ [.lst acc], ⟨rfl, rfl⟩, fun i x acc h hx ⟨e1, e2⟩ => ?_, fun acc h ⟨e1, e2⟩ => ?_⟩
  · have hi : i < items.length := (List.getElem?_eq_some_iff.mp hx).1
    have hy : ys[i]? = some ys[i] := List.getElem?_eq_getElem (by omega)
    subst e2
    refine ⟨hg acc, ?_⟩
    have hlen : acc.length < 16777216 := by
      rw [e1, List.length_take]
      omega
    refine hs i x ys[i] acc _ hx hy ?_
    refine ⟨get_l0, hlen, ?_, ?_⟩
    · rw [e1, List.take_add_one, hy]
      rfl
    · rw [set_l0]
  · have e3 : acc = ys := by
      rw [e1, hl, List.take_length]
    subst e3
    subst e2
    exact ⟨hg _, get_l0, q⟩
theorem map_get {α β : Type} {f : α → β} {xs : List α} {i : Nat} {y : β} (h : (xs.map f)[i]? = some y) : ∃ x, xs[i]? = some x ∧ y = f x := by
  rw [List.getElem?_map] at h
  cases e : xs[i]? with
  | none =>
    rw [e] at h
    cases h
  | some x =>
    rw [e] at h
    cases h
    exact ⟨x, rfl, rfl⟩
theorem pure_law_begin (x : AV) (h : AH) (R : AK) (c1 : clH h) (c2 : clBs h.length [x] = true) (q : sp_law_begin [x] h R (fun _ _ => False)) : b_law_begin (ends (retG h R)) [some x, none] h := by
  obtain ⟨ns, rfl, hl, q⟩ := q
  unfold b_law_begin
  get_elem_tactic_trivial
  refine lcT_map (h1 := h) (items := ns.map AV.int) (ys := ns.map AV.int) (guard := fun _ => True) (fun K k => k) rfl (by rw [List.length_map]; omega) (fun _ => trivial) (fun i x y acc Q hx hy q => ?_) ?_
  · rw [hx] at hy
    cases hy
    obtain ⟨z, _, rfl⟩ := map_get hx
    exact q
  · refine .inl ?_
    rw [List.length_append, List.append_assoc]
    exact q
/-! ### a draw -/
theorem draw_set {h : AH} {n k : Nat} {ns : List Int} {at_ at2 : Nat} {rest seed rest2 seed2 : Int} (h1 : h[n]? = some (.lst [.ref k, .int (at_ : Int), .int rest, .int seed, .int 3])) (h2 : h[k]? = some (.lst (ns.map AV.int))) (hk : k < n) :
    Drawn h n (h.set n (.lst [.ref k, .int (at2 : Int), .int rest2, .int seed2, .int 3])) := by
  have hn : n < h.length := (List.getElem?_eq_some_iff.mp h1).1
  refine ⟨List.length_set .., fun i hi => List.getElem?_set_ne (Ne.symm hi), k, ns, at2, rest2, seed2, ?_, ?_, hk⟩
  · rw [List.getElem?_set_self hn]
  · rw [List.getElem?_set_ne (by omega)]
    exact h2
theorem isz_of {i : Int} {n : Nat} (hn : 1 ≤ n) (h0 : 0 ≤ i) (h : i < 2 ^ n) : isz i ≤ n := isz_le hn (by
  have : ((i.natAbs : Nat) : Int) < ((2 ^ n : Nat) : Int) := by
    rw [Int.natCast_pow]
    show ((i.natAbs : Nat) : Int) < (2 : Int) ^ n
    omega
  exact_mod_cast this)
theorem mod_draw {x many : Int} (h : 0 < many) : 0 ≤ x % many ∧ x % many < many := ⟨Int.emod_nonneg _ (by omega), Int.emod_lt_of_pos _ h⟩
theorem small_lit {n : Int} (h : -(2 ^ 64) < n ∧ n < 2 ^ 64) (x : Int) : mulOk n x := .inl (.inl h)
theorem small_lit' {n : Int} (h : -(2 ^ 64) < n ∧ n < 2 ^ 64) (x : Int) : mulOk x n := .inl (.inr h)
theorem div_lit {n : Int} (h0 : 0 < n) (h : n < 2 ^ 64) : divOk n := divOk_of h0 (Nat.le_trans (isz_of (n := 64) (by decide) (by omega) h) (by decide))
theorem atA_ints {ns : List Int} {i : Nat} {x : Int} (h : ns[i]? = some x) : atA (ns.map AV.int) (i : Int) = some (.int x) := by
  show (ns.map AV.int)[i]? = _
  rw [List.getElem?_map, h]
  rfl
/-- the drawing list changed -/
theorem set_at {h : AH} {n : Nat} {x y : AO} (e : h[n]? = some x) : (h.set n y)[n]? = some y := List.getElem?_set_self (List.getElem?_eq_some_iff.mp e).1
section
variable {n : Nat} {h1 : AH} {a b c d f v : AV} {Q : AK} {S : AH → Prop}
theorem d_ix (e : h1[n]? = some (.lst [a, b, c, d, f])) : ixR (.ref n) (.int 0) h1 Q = Q a h1 ∧ ixR (.ref n) (.int 1) h1 Q = Q b h1 ∧ ixR (.ref n) (.int 2) h1 Q = Q c h1 ∧ ixR (.ref n) (.int 3) h1 Q = Q d h1 :=
  ⟨e_ix_lst e rfl, e_ix_lst e rfl, e_ix_lst e rfl, e_ix_lst e rfl⟩
theorem d_st1 (e : h1[n]? = some (.lst [a, b, c, d, f])) : setR (.ref n) (.int 1) v h1 S = S (h1.set n (.lst [a, v, c, d, f])) := by
  rw [show (1 : Int) = ((1 : Nat) : Int) from rfl, e_set_lst e]
  simp
theorem d_st2 (e : h1[n]? = some (.lst [a, b, c, d, f])) : setR (.ref n) (.int 2) v h1 S = S (h1.set n (.lst [a, b, v, d, f])) := by
  rw [show (2 : Int) = ((2 : Nat) : Int) from rfl, e_set_lst e]
  simp
theorem d_st3 (e : h1[n]? = some (.lst [a, b, c, d, f])) : setR (.ref n) (.int 3) v h1 S = S (h1.set n (.lst [a, b, c, v, f])) := by
  rw [show (3 : Int) = ((3 : Nat) : Int) from rfl, e_set_lst e]
  simp
end
theorem lit64 : small64 2 ∧ small64 48271 ∧ small64 16807 ∧ small64 69621 := ⟨⟨by decide, by decide⟩, ⟨by decide, by decide⟩, ⟨by decide, by decide⟩, ⟨by decide, by decide⟩⟩
theorem draw_tail {n k at_ : Nat} {ns : List Int} {rest seed many size : Int} {h : AH} {R : AK} {w : Option AV} (hm : 0 < many) (dm : divOk many) (e1 : h[n]? = some (.lst [.ref k, .int (at_ : Int), .int rest, .int seed, .int 3])) (e2 : h[k]? = some (.lst (ns.map AV.int))) (hk : k < n)
    (q : ∀ (r : Int) (h' : AH), 0 ≤ r → r < many → Drawn h n h' → R (AV.int r) h') : b_law_draw_r1 (ends (retG h R)) [some (.ref n), some (.int many), none, some (.int size), w] h := by
  have md : ∀ z : Int, 0 ≤ z % many ∧ z % many < many := fun z => mod_draw hm
  obtain ⟨l1, l2, l3, l4⟩ := lit64
  unfold b_law_draw_r1
  get_elem_tactic_trivial
  rw [(d_ix e1).2.1]
  get_elem_tactic_trivial
  rw [d_st1 e1]
  have f1 := set_at (y := .lst [.ref k, .int ((at_ : Int) + 1), .int rest, .int seed, .int 3]) e1
  refine ⟨by decide, .inl (.inl l1), ?_⟩
  have dr : ∀ (r2 s2 : Int), Drawn h n (h.set n (.lst [.ref k, .int ((at_ : Int) + 1), .int r2, .int s2, .int 3])) := fun r2 s2 => by
    have := draw_set (at2 := at_ + 1) (rest2 := r2) (seed2 := s2) e1 e2 hk
    rwa [Int.natCast_add] at this
  by_cases hb : 2 * 10 ^ Int.toNat 18 ≤ size
  · rw [if_pos hb, d_st2 f1, List.set_set]
    refine ⟨div_lit (by decide) (by decide), by decide, ?_, dm, hm, retG_of (q _ _ (md _).1 (md _).2 (dr _ _))⟩
    rw [Int.one_mul]
    exact Int.pow_pos (by decide)
  · rw [if_neg hb, (d_ix f1).2.2.2]
    get_elem_tactic_trivial
    refine ⟨.inl (.inr l2), by decide, .inl (.inr l3), ?_⟩
    rw [(d_ix f1).2.1]
    get_elem_tactic_trivial
    refine ⟨.inl (.inr l4), by decide, ?_⟩
    rw [d_st3 f1, List.set_set]
    have f2 := set_at (y := .lst [.ref k, .int ((at_ : Int) + 1), .int rest, .int ((seed * 48271 + size % 2147483629 * 16807 + ((at_ : Int) + 1) * 69621 + 11) % 2147483647), .int 3]) e1
    rw [(d_ix f2).2.2.2]
    get_elem_tactic_trivial
    exact ⟨div_lit (by decide) (by decide), hm, retG_of (q _ _ (md _).1 (md _).2 (dr _ _))⟩
theorem pure_law_draw (x y : AV) (h : AH) (R : AK) (c1 : clH h) (c2 : clBs h.length [x, y] = true) (q : sp_law_draw [x, y] h R (fun _ _ => False)) : b_law_draw (ends (retG h R)) [some x, some y, none, none, none] h := by
  obtain ⟨n, many, rfl, rfl, hm, hs, ⟨k, ns, at_, rest, seed, e1, e2, hk⟩, q⟩ := q
  have dm := divOk_of hm hs
  have md : ∀ z : Int, 0 ≤ z % many ∧ z % many < many := fun z => mod_draw hm
  unfold b_law_draw
  get_elem_tactic_trivial
  rw [(d_ix e1).2.2.1]
  get_elem_tactic_trivial
  by_cases h0 : 0 < rest
  · rw [if_pos h0, (d_ix e1).2.2.1]
    get_elem_tactic_trivial
    rw [d_st2 e1]
    exact ⟨dm, hm, retG_of (q _ _ (md _).1 (md _).2 (draw_set e1 e2 hk))⟩
  · rw [if_neg h0, (d_ix e1).2.1, (d_ix e1).1, e_len_lst e2]
    get_elem_tactic_trivial
    by_cases hlt : (at_ : Int) < ((ns.map AV.int).length : Int)
    · rw [if_pos hlt, (d_ix e1).1, (d_ix e1).2.1]
      have hn : at_ < ns.length := by
        rw [List.length_map] at hlt
        omega
      rw [e_ix_lst e2 (atA_ints (List.getElem?_eq_getElem hn))]
      get_elem_tactic_trivial
      exact ⟨.inl (.inl lit64.1), draw_tail hm dm e1 e2 hk q⟩
    · rw [if_neg hlt]
      exact draw_tail hm dm e1 e2 hk q
/-- what a draw leaves as it was -/
theorem Drawn.seq {h h' : AH} {n : Nat} {y : AV} {xs : List AV} (d : Drawn h n h') (hy : y ≠ .ref n) (e : seqOf y h = some xs) : seqOf y h' = some xs := by
  cases y with
  | ref m =>
    have hm : m ≠ n := fun z => hy (by rw [z])
    simp only [seqOf] at e ⊢
    rw [d.2.1 m hm]
    exact e
  | _ => exact e
theorem ix_seq_of {y : AV} {xs : List AV} {h : AH} {i : Int} {v : AV} {Q : AK} (e : seqOf y h = some xs) (hv : atA xs i = some v) : ixR y (.int i) h Q = Q v h := by
  cases y with
  | tup ys =>
    cases e
    exact e_ix_tup hv
  | rol ys =>
    cases e
    exact e_ix_rol hv
  | ref m =>
    simp only [seqOf] at e
    split at e
    · rename_i zs e1
      cases e
      exact e_ix_lst e1 hv
    · cases e
  | _ => cases e
theorem len_seq_of {y : AV} {xs : List AV} {h : AH} {Q : AK} (e : seqOf y h = some xs) : lenR [y] h Q = Q (.int xs.length) h := by
  cases y with
  | tup ys =>
    cases e
    rfl
  | rol ys =>
    cases e
    rfl
  | ref m =>
    simp only [seqOf] at e
    split at e
    · rename_i zs e1
      cases e
      exact e_len_lst e1
    · cases e
  | _ => cases e
theorem pure_law_pick (x y : AV) (h : AH) (R : AK) (c1 : clH h) (c2 : clBs h.length [x, y] = true) (q : sp_law_pick [x, y] h R (fun _ _ => False)) : b_law_pick (ends (retG h R)) [some x, some y] h := by
  obtain ⟨n, xs, rfl, hy, hne, hl, hyn, hd, q⟩ := q
  unfold b_law_pick
  get_elem_tactic_trivial
  rw [len_seq_of hy]
  have hpos : 0 < xs.length := List.length_pos_iff.mpr hne
  refine ⟨n, xs.length, rfl, rfl, by omega, Nat.le_trans (isz_of (n := 64) (by decide) (by omega) (by omega)) (by decide), hd, fun r h' r0 r1 dr => ?_⟩
  obtain ⟨i, rfl⟩ := Int.eq_ofNat_of_zero_le r0
  have hi : i < xs.length := by omega
  rw [ix_seq_of (dr.seq hyn hy) (v := xs[i]) (show atA xs ((i : Nat) : Int) = some xs[i] from List.getElem?_eq_getElem hi)]
  exact retG_of (q _ _ (List.getElem_mem hi) dr)
theorem pure_law_rare (x y : AV) (h : AH) (R : AK) (c1 : clH h) (c2 : clBs h.length [x, y] = true) (q : sp_law_rare [x, y] h R (fun _ _ => False)) : b_law_rare (ends (retG h R)) [some x, some y] h := by
  obtain ⟨n, many, rfl, rfl, hm, hs, hd, q⟩ := q
  unfold b_law_rare
  get_elem_tactic_trivial
  refine ⟨n, many, rfl, rfl, hm, hs, hd, fun r h' r0 r1 dr => ?_⟩
  get_elem_tactic_trivial
  exact ⟨div_lit (by decide) (by decide), retG_of (q _ _ dr)⟩
/-! ### Euclid -/
/-- the pair at a turn: its divisor is the one sought, and its product has been halved at each turn but the first -/
def Eu (A B i : Nat) (a b : Nat) : Prop := a.gcd b = A.gcd B ∧ ((i = 0 ∧ a = A ∧ b = B) ∨ (1 ≤ i ∧ b < a ∧ a * b * 2 ^ (i - 1) ≤ A * B))
theorem eu_next {A B i a b : Nat} (h : Eu A B i a b) (hb : b ≠ 0) : Eu A B (i + 1) b (a % b) := by
  obtain ⟨hg, h⟩ := h
  have hlt : a % b < b := Nat.mod_lt _ (by omega)
  refine ⟨by rw [← hg, Nat.gcd_comm a b, Nat.gcd_rec b a, Nat.gcd_comm], .inr ⟨by omega, hlt, ?_⟩⟩
  rcases h with ⟨rfl, rfl, rfl⟩ | ⟨h1, h2, h3⟩
  · have : a % b ≤ a := Nat.mod_le _ _
    show b * (a % b) * 2 ^ 0 ≤ a * b
    rw [Nat.pow_zero, Nat.mul_one, Nat.mul_comm]
    exact Nat.mul_le_mul_right _ this
  · have hd := Nat.div_add_mod a b
    have hq : 1 ≤ a / b := Nat.div_pos (by omega) (by omega)
    have hq2 : b * 1 ≤ b * (a / b) := Nat.mul_le_mul_left _ hq
    have half : 2 * (a % b) ≤ a := by omega
    have e : i + 1 - 1 = (i - 1) + 1 := by omega
    rw [e, Nat.pow_succ]
    calc b * (a % b) * (2 ^ (i - 1) * 2) = (2 * (a % b)) * b * 2 ^ (i - 1) := by
          simp only [Nat.mul_comm, Nat.mul_left_comm, Nat.mul_assoc]
      _ ≤ a * b * 2 ^ (i - 1) := Nat.mul_le_mul_right _ (Nat.mul_le_mul_right _ half)
      _ ≤ A * B := h3
theorem eu_end {A B a b : Nat} (h : Eu A B 100000 a b) (hA : A < 2 ^ 20000) (hB : B < 2 ^ 20000) : b = 0 := by
  obtain ⟨_, h⟩ := h
  rcases h with ⟨h, _⟩ | ⟨_, h2, h3⟩
  · omega
  · apply Decidable.byContradiction
    intro hb
    have h4 : A * B < 2 ^ 20000 * 2 ^ 20000 := Nat.mul_lt_mul'' hA hB
    rw [← Nat.pow_add] at h4
    have h5 : 1 * 2 ^ 40000 ≤ a * b * 2 ^ (100000 - 1) := Nat.mul_le_mul (Nat.mul_pos (by omega) (by omega)) (Nat.pow_le_pow_right (by decide) (by decide))
    have e : (20000 + 20000 : Nat) = 40000 := rfl
    rw [e] at h4
    omega
theorem abs_if (i : Int) : (if i < 0 then -i else i) = (i.natAbs : Int) := by
  split <;> omega
theorem pure_law_gcd (x y : AV) (h : AH) (R : AK) (c1 : clH h) (c2 : clBs h.length [x, y] = true) (q : sp_law_gcd [x, y] h R (fun _ _ => False)) : b_law_gcd (ends (retG h R)) [some x, some y, none] h := by
  obtain ⟨a0, b0, rfl, rfl, ha, hb, q⟩ := q
  unfold b_law_gcd
  get_elem_tactic_trivial
  rw [abs_if, abs_if, x_for]
  refine ⟨by decide, by decide, ?_⟩
  refine ⟨fun i σ h' => h' = h ∧ ∃ (a b : Nat) (k : Option AV), σ = [some (.int a), some (.int b), k] ∧ Eu a0.natAbs b0.natAbs i a b, ⟨rfl, _, _, _, rfl, rfl, .inl ⟨rfl, rfl, rfl⟩⟩, fun i z σ h' hz ⟨eh, a, b, k, es, eu⟩ => ?_, fun σ h' ⟨eh, a, b, k, es, eu⟩ => ?_⟩
  · subst eh es
    refine ⟨trivial, ?_⟩
    unfold b_law_gcd_l1
    get_elem_tactic_trivial
    by_cases h0 : (b : Int) = 0
    · rw [if_pos h0]
      have : b = 0 := by omega
      subst this
      obtain ⟨hg, _⟩ := eu
      rw [Nat.gcd_zero_right] at hg
      exact retG_of (by rw [hg]; exact q)
    · rw [if_neg h0]
      exact ⟨by omega, b, a % b, _, rfl, eu_next eu (by omega)⟩
  · subst eh es
    refine ⟨trivial, ?_⟩
    have : b = 0 := eu_end (by simpa [zrange] using eu) (isz_lt ha) (isz_lt hb)
    subst this
    obtain ⟨hg, _⟩ := eu
    rw [Nat.gcd_zero_right] at hg
    get_elem_tactic_trivial
    exact retG_of (by rw [hg]; exact q)
/-! ### ratios by the laws' own way -/
theorem law_r_pos {n d : Int} {h : AH} {R : AK} {g : Option AV} (hd : 0 < d) (hn : isz n ≤ 20000) (hs : isz d ≤ 9000) (q : R (rat (Rat.divInt n d)) h) : b_law_r_r1 (ends R) [some (.int n), some (.int d), g] h := by
  unfold b_law_r_r1
  get_elem_tactic_trivial
  have dg := gcd_bound (n := n) (by omega) hs
  rw [rat_divInt hd] at q
  exact ⟨n, d, rfl, rfl, hn, by omega, dg, dg, q⟩
theorem pure_law_r (x y : AV) (h : AH) (R : AK) (c1 : clH h) (c2 : clBs h.length [x, y] = true) (q : sp_law_r [x, y] h R (fun _ _ => False)) : b_law_r (ends (retG h R)) [some x, some y, none] h := by
  obtain ⟨n, d, rfl, rfl, hd, hn, hs, q⟩ := q
  unfold b_law_r
  get_elem_tactic_trivial
  by_cases h0 : d < 0
  · rw [if_pos h0]
    exact law_r_pos (by omega) (by rw [isz_neg]; exact hn) (by rw [isz_neg]; exact hs) (retG_of (by rw [Rat.neg_divInt_neg]; exact q))
  · rw [if_neg h0]
    exact law_r_pos (by omega) hn hs (retG_of q)
theorem Two.isn {a b : Rat} (t : Two a b) : AL.isz (a.num * b.den + b.num * a.den) ≤ 20000 ∧ AL.isz (a.num * b.den - b.num * a.den) ≤ 20000 ∧ AL.isz (a.num * b.num) ≤ 20000 ∧ AL.isz (a.num * b.den) ≤ 20000 := by
  have h1 := isz_mul a.num b.den
  have h2 := isz_mul b.num a.den
  have h3 := isz_mul a.num b.num
  have n1 := sz_num a
  have n2 := sz_num b
  have d1 := sz_den a
  have d2 := sz_den b
  have s := t.s
  have h4 := isz_add (i := a.num * b.den) (j := b.num * a.den) (n := 8990) (by omega) (by omega)
  have h5 := isz_sub (i := a.num * b.den) (j := b.num * a.den) (n := 8990) (by omega) (by omega)
  omega
theorem pure_law_add (x y : AV) (h : AH) (R : AK) (c1 : clH h) (c2 : clBs h.length [x, y] = true) (q : sp_law_add [x, y] h R (fun _ _ => False)) : b_law_add (ends (retG h R)) [some x, some y] h := by
  obtain ⟨a, b, rfl, rfl, hs, q⟩ := q
  have t : Two a b := ⟨hs⟩
  unfold b_law_add rat
  get_elem_tactic_trivial
  exact ⟨t.nd, t.dn, t.dd, _, _, rfl, rfl, dd_ne a b, t.isn.1, t.isz, retG_of (by rw [add_eq]; exact q)⟩
theorem pure_law_sub (x y : AV) (h : AH) (R : AK) (c1 : clH h) (c2 : clBs h.length [x, y] = true) (q : sp_law_sub [x, y] h R (fun _ _ => False)) : b_law_sub (ends (retG h R)) [some x, some y] h := by
  obtain ⟨a, b, rfl, rfl, hs, q⟩ := q
  have t : Two a b := ⟨hs⟩
  unfold b_law_sub rat
  get_elem_tactic_trivial
  exact ⟨t.nd, t.dn, t.dd, _, _, rfl, rfl, dd_ne a b, t.isn.2.1, t.isz, retG_of (by rw [sub_eq]; exact q)⟩
theorem pure_law_mul (x y : AV) (h : AH) (R : AK) (c1 : clH h) (c2 : clBs h.length [x, y] = true) (q : sp_law_mul [x, y] h R (fun _ _ => False)) : b_law_mul (ends (retG h R)) [some x, some y] h := by
  obtain ⟨a, b, rfl, rfl, hs, q⟩ := q
  have t : Two a b := ⟨hs⟩
  unfold b_law_mul rat
  get_elem_tactic_trivial
  exact ⟨t.nn, t.dd, _, _, rfl, rfl, dd_ne a b, t.isn.2.2.1, t.isz, retG_of (by rw [mul_eq]; exact q)⟩
theorem pure_law_div (x y : AV) (h : AH) (R : AK) (c1 : clH h) (c2 : clBs h.length [x, y] = true) (q : sp_law_div [x, y] h R (fun _ _ => False)) : b_law_div (ends (retG h R)) [some x, some y] h := by
  obtain ⟨a, b, rfl, rfl, hb, hs, q⟩ := q
  have t : Two a b := ⟨hs⟩
  unfold b_law_div rat
  get_elem_tactic_trivial
  refine ⟨t.nd, t.dn', _, _, rfl, rfl, Int.mul_ne_zero (by have := den_pos a; omega) (num_ne hb), t.isn.2.2.2, ?_, retG_of (by rw [div_eq]; exact q)⟩
  exact Nat.le_trans (isz_mul _ _) (by have := sz_den a; have := sz_num b; omega)
theorem pure_law_is_int (x : AV) (h : AH) (R : AK) (c1 : clH h) (c2 : clBs h.length [x] = true) (q : sp_law_is_int [x] h R (fun _ _ => False)) : b_law_is_int (ends (retG h R)) [some x] h := by
  obtain ⟨hx, q⟩ := q
  unfold b_law_is_int
  get_elem_tactic_trivial
  exact kind_int x h hx _ (retG_of q)
theorem beq_dec (m : Nat) : (((m : Nat) : Int) == 1) = decide (m = 1) := by
  by_cases h1 : m = 1
  · subst h1
    rfl
  · rw [decide_eq_false h1]
    simpa using (by omega : ¬ ((m : Nat) : Int) = 1)
theorem isR_len : ∀ (xs : List AV), xs.length ≠ 2 → isR (.tup xs) = false
  | [], _ => rfl
  | [y], _ => by cases y <;> rfl
  | [_, _], e => (e rfl).elim
  | y :: z :: _ :: _, _ => by cases y <;> cases z <;> rfl
theorem pure_law_is_r (x : AV) (h : AH) (R : AK) (c1 : clH h) (c2 : clBs h.length [x] = true) (q : sp_law_is_r [x] h R (fun _ _ => False)) : b_law_is_r (ends (retG h R)) [some x] h := by
  obtain ⟨hx, hs, hb, q⟩ := q
  unfold b_law_is_r
  get_elem_tactic_trivial
  have no : isR x = false → retG h R (.bl false) h := fun e => retG_of (by rw [← e]; exact q)
  cases x with
  | tup xs =>
    get_elem_tactic_trivial
    match xs, hs, hb, q, no with
    | [], _, _, _, no => simpa using no (isR_len _ (by simp))
    | [_], _, _, _, no => simpa using no (isR_len _ (by simp))
    | _ :: _ :: _ :: r, _, _, _, no =>
      have e : ¬ ((r.length : Int) + 1 + 1 + 1 = 2) := by omega
      simpa [e] using no (isR_len _ (by simp))
    | [y, z], hs, hb, q, no =>
      have sy := hs _ rfl y (by simp)
      have sz := hs _ rfl z (by simp)
      get_elem_tactic_trivial
      refine ⟨sy, ?_⟩
      cases y with
      | int n =>
        simp only [isI]
        get_elem_tactic_trivial
        refine ⟨sz, ?_⟩
        cases z with
        | int d =>
          simp only [isI]
          get_elem_tactic_trivial
          obtain ⟨b1, b2⟩ := hb n d rfl
          have e : isR (.tup [.int n, .int d]) = (decide (1 ≤ d) && decide (n.natAbs.gcd d.natAbs = 1)) := rfl
          by_cases hd : d < 1
          · rw [if_pos hd]
            exact no (by rw [e, decide_eq_false (by omega)]; rfl)
          · rw [if_neg hd]
            refine ⟨n, d, rfl, rfl, b1, b2, ?_⟩
            get_elem_tactic_trivial
            have e2 : (((n.natAbs.gcd d.natAbs : Nat) : Int) == 1) = isR (.tup [.int n, .int d]) := by
              rw [e, decide_eq_true (show 1 ≤ d by omega), Bool.true_and]
              exact beq_dec _
            rw [e2]
            exact retG_of q
        | _ =>
          simp only [isI]
          get_elem_tactic_trivial
          exact no rfl
      | _ =>
        simp only [isI]
        get_elem_tactic_trivial
        exact no (by cases z <;> rfl)
  | ref n =>
    have e : h[n]? = some h[n] := List.getElem?_eq_getElem hx
    simp only [instR, tyName, e]
    cases h[n] <;> exact no rfl
  | ty n => exact hx.elim
  | _ => exact no rfl
end AL

/-! CD: what draws leave; the heap behind them. -/
namespace AL
open PySem
theorem Drawn.at {h h' : AH} {n : Nat} (d : Drawn h n h') : DrawAt h' n := d.2.2
theorem Drawn.len {h h' : AH} {n : Nat} (d : Drawn h n h') : h'.length = h.length := d.1
theorem Drawn.trans {h h1 h2 : AH} {n : Nat} (a : Drawn h n h1) (b : Drawn h1 n h2) : Drawn h n h2 :=
  ⟨b.1.trans a.1, fun i hi => (b.2.1 i hi).trans (a.2.1 i hi), b.2.2⟩
theorem Drawn.refl {h : AH} {n : Nat} (d : DrawAt h n) : Drawn h n h := ⟨rfl, fun _ _ => rfl, d⟩
theorem DrawAt.lt {h : AH} {n : Nat} (d : DrawAt h n) : n < h.length := by
  obtain ⟨k, ns, at_, rest, seed, e1, e2, hk⟩ := d
  exact (List.getElem?_eq_some_iff.mp e1).1
theorem DrawAt.app {h : AH} {n : Nat} (d : DrawAt h n) (r : AH) : DrawAt (h ++ r) n := by
  have hn := d.lt
  obtain ⟨k, ns, at_, rest, seed, e1, e2, hk⟩ := d
  exact ⟨k, ns, at_, rest, seed, by rw [List.getElem?_append_left hn]; exact e1, by rw [List.getElem?_append_left (by omega)]; exact e2, hk⟩
/-- a draw over a longer heap -/
theorem Drawn.cut {h r h2 : AH} {n : Nat} (hn : n < h.length) (d : Drawn (h ++ r) n h2) : ∃ h', h2 = h' ++ r ∧ Drawn h n h' := by
  obtain ⟨d1, d2, k, ns, at_, rest, seed, e1, e2, hk⟩ := d
  have hl : h2.length = h.length + r.length := by
    rw [d1, List.length_append]
  have tl : h2.drop h.length = r := by
    apply List.ext_getElem?
    intro i
    rw [List.getElem?_drop, d2 _ (by omega), List.getElem?_append_right (by omega), Nat.add_sub_cancel_left]
  have sp : h2 = h2.take h.length ++ r := by
    conv => lhs; rw [← List.take_append_drop h.length h2]
    rw [tl]
  have lt : (h2.take h.length).length = h.length := by
    rw [List.length_take]
    omega
  refine ⟨h2.take h.length, sp, lt, fun i hi => ?_, k, ns, at_, rest, seed, ?_, ?_, hk⟩
  · by_cases h1 : i < h.length
    · rw [List.getElem?_take_of_lt h1, d2 i hi, List.getElem?_append_left h1]
    · rw [List.getElem?_eq_none (by omega), List.getElem?_eq_none (by omega)]
  · rw [List.getElem?_take_of_lt hn]
    exact e1
  · rw [List.getElem?_take_of_lt (by omega)]
    exact e2
theorem clBs_ints {n : Nat} : ∀ ns : List Int, clBs n (ns.map AV.int) = true
  | [] => rfl
  | _ :: r => clBs_ints r
theorem Drawn.cl {h h' : AH} {n : Nat} (c : clH h) (d : Drawn h n h') : clH h' := by
  obtain ⟨d1, d2, k, ns, at_, rest, seed, e1, e2, hk⟩ := d
  intro o ho
  obtain ⟨i, hi, rfl⟩ := List.getElem_of_mem ho
  by_cases hin : i = n
  · subst hin
    have e : h'[i] = .lst [.ref k, .int (at_ : Int), .int rest, .int seed, .int 3] := by
      rw [List.getElem?_eq_getElem hi] at e1
      exact Option.some.inj e1
    rw [e]
    have : k < h'.length := by omega
    simp [clO, clBs, clB, this]
  · have e := d2 i hin
    rw [List.getElem?_eq_getElem hi] at e
    have hm : h'[i] ∈ h := List.mem_of_getElem? e.symm
    rw [d1]
    exact c _ hm
theorem Drawn.get {h h' : AH} {n i : Nat} (d : Drawn h n h') (hi : i ≠ n) : h'[i]? = h[i]? := d.2.1 i hi
theorem clB_rat (n : Nat) (q : Rat) : clB n (rat q) = true := rfl
theorem clBs_rats {n : Nat} : ∀ qs : List Rat, clBs n (qs.map rat) = true
  | [] => rfl
  | q :: r => by
    show (clB n (rat q) && clBs n (r.map rat)) = true
    rw [clBs_rats r]
    rfl
/-- an end that leaves the drawing list turned and forgets what stood behind -/
theorem ret_drawn {h0 h' r : AH} {n : Nat} {R : AK} {x : AV} (c : clH h0) (d : Drawn h0 n h') (cx : clB h'.length x = true) (q : R x h') : retG h0 R x (h' ++ r) :=
  .inr (.inl ⟨h', r, rfl, d.1, d.cl c, cx, q⟩)
theorem ret_cut {h0 r : AH} {R : AK} {x : AV} (c : clH h0) (cx : clB h0.length x = true) (q : R x h0) : retG h0 R x (h0 ++ r) :=
  .inr (.inl ⟨h0, r, rfl, rfl, c, cx, q⟩)
/-- an end that gives a new flat list -/
theorem ret_list {h0 j1 j2 : AH} {R : AK} {xs : List AV} {k : Nat} (c : clH h0) (hk : k = h0.length + j1.length) (cx : clBs h0.length xs = true) (q : R (.ref h0.length) (h0 ++ [.lst xs])) : retG h0 R (.ref k) (h0 ++ (j1 ++ .lst xs :: j2)) :=
  .inr (.inr ⟨h0, j1, xs, j2, rfl, by rw [hk], rfl, c, cx, q⟩)
/-- a comprehension whose items are made one by one, with draws between: what holds of the items so far -/
theorem lcT_draw {it : ATI} {guard : AH → Prop} {g : ATG} {te : ATE} {vs : List Nat} {a : ASt} {items : List AV} {h0 h1 : AH} {n : Nat} {R : AK} (P : List AV → Prop) (hd : DrawAt h1 n) (hi : ∀ K, K items guard h1 → it a h0 K) (hz : items.length ≤ 1000000)
    (hg : ∀ h2 acc, guard (h2 ++ [.lst acc])) (h00 : P [])
    (hs : ∀ (i : Nat) x acc h2 (Q : AK), items[i]? = some x → acc.length = i → P acc → Drawn h1 n h2 → (∀ y h3, P (acc ++ [y]) → Drawn h2 n h3 → Q y (h3 ++ [.lst acc])) → g x (wipeA a vs) (h2 ++ [.lst acc]) fun a2 h3 => te a2 h3 Q)
    (q : ∀ ys h2, P ys → ys.length = items.length → Drawn h1 n h2 → R (.ref h1.length) (h2 ++ [.lst ys])) : lcT it g yesT te vs a h0 R := by
  refine hi _ ⟨fun i acc h => ∃ h2, h = h2 ++ [.lst acc] ∧ acc.length = i ∧ P acc ∧ Drawn h1 n h2, ⟨h1, rfl, rfl, h00, .refl hd⟩, fun i x acc h hx ⟨h2, e1, e2, e3, e4⟩ => ?_, fun acc h ⟨h2, e1, e2, e3, e4⟩ => ?_⟩
  · have hlt : i < items.length := (List.getElem?_eq_some_iff.mp hx).1
    subst e1
    refine ⟨hg h2 acc, hs i x acc h2 _ hx e2 e3 e4 fun y h3 p d => ?_⟩
    have hl : h3.length = h1.length := d.1.trans e4.1
    rw [← hl]
    exact ⟨get_l0, by omega, h3, set_l0, by simp [e2], p, e4.trans d⟩
  · subst e1
    have hl : h2.length = h1.length := e4.1
    refine ⟨hg _ _, ?_, q acc h2 e3 e2 e4⟩
    rw [← hl]
    exact get_l0
end AL

/-! CE: heaps that have grown: behind what was there, with draws and without. -/
namespace AL
open PySem
/-- more behind, nothing else changed -/
def Ext (h h' : AH) : Prop := ∃ r, h' = h ++ r
theorem Ext.refl {h : AH} : Ext h h := ⟨[], (List.append_nil h).symm⟩
theorem Ext.app {h h' : AH} (e : Ext h h') (r : AH) : Ext h (h' ++ r) := by
  obtain ⟨s, rfl⟩ := e
  exact ⟨s ++ r, List.append_assoc ..⟩
theorem Ext.set {h h' : AH} {p : Nat} {x : AO} (e : Ext h h') (hp : h.length ≤ p) : Ext h (h'.set p x) := by
  obtain ⟨s, rfl⟩ := e
  exact ⟨_, List.set_append_right _ _ hp⟩
theorem Ext.le {h h' : AH} (e : Ext h h') : h.length ≤ h'.length := by
  obtain ⟨s, rfl⟩ := e
  simp
theorem Ext.trans {h h1 h2 : AH} (a : Ext h h1) (b : Ext h1 h2) : Ext h h2 := by
  obtain ⟨s, rfl⟩ := b
  exact a.app s
theorem Ext.get {h h' : AH} {i : Nat} (e : Ext h h') (hi : i < h.length) : h'[i]? = h[i]? := by
  obtain ⟨s, rfl⟩ := e
  exact List.getElem?_append_left hi
theorem ret_ext {h0 h' : AH} {R : AK} {x : AV} (c : clH h0) (e : Ext h0 h') (cx : clB h0.length x = true) (q : R x h0) : retG h0 R x h' := by
  obtain ⟨r, rfl⟩ := e
  exact ret_cut c cx q
/-- draws, and more behind -/
def Grown (h : AH) (n : Nat) (h' : AH) : Prop := ∃ h1 r, h' = h1 ++ r ∧ Drawn h n h1
theorem Grown.refl {h : AH} {n : Nat} (d : DrawAt h n) : Grown h n h := ⟨h, [], (List.append_nil h).symm, .refl d⟩
theorem Grown.at {h h' : AH} {n : Nat} (g : Grown h n h') : DrawAt h' n := by
  obtain ⟨h1, r, rfl, d⟩ := g
  exact d.at.app r
theorem Grown.lt {h h' : AH} {n : Nat} (g : Grown h n h') : n < h.length := by
  obtain ⟨h1, r, rfl, d⟩ := g
  rw [← d.1]
  exact d.at.lt
theorem Grown.le {h h' : AH} {n : Nat} (g : Grown h n h') : h.length ≤ h'.length := by
  obtain ⟨h1, r, rfl, d⟩ := g
  rw [List.length_append, d.1]
  omega
theorem Grown.app {h h' : AH} {n : Nat} (g : Grown h n h') (r : AH) : Grown h n (h' ++ r) := by
  obtain ⟨h1, s, rfl, d⟩ := g
  exact ⟨h1, s ++ r, List.append_assoc .., d⟩
theorem Grown.set {h h' : AH} {n p : Nat} {x : AO} (g : Grown h n h') (hp : h.length ≤ p) : Grown h n (h'.set p x) := by
  obtain ⟨h1, s, rfl, d⟩ := g
  exact ⟨h1, _, List.set_append_right _ _ (by rw [d.1]; exact hp), d⟩
theorem Grown.draw {h h' h2 : AH} {n : Nat} (g : Grown h n h') (d2 : Drawn h' n h2) : Grown h n h2 := by
  have hn := g.lt
  obtain ⟨h1, s, rfl, d⟩ := g
  obtain ⟨h3, rfl, d3⟩ := d2.cut (by rw [d.1]; exact hn)
  exact ⟨h3, s, rfl, d.trans d3⟩
theorem Grown.get {h h' : AH} {n i : Nat} (g : Grown h n h') (hi : i < h.length) (hn : i ≠ n) : h'[i]? = h[i]? := by
  obtain ⟨h1, s, rfl, d⟩ := g
  rw [List.getElem?_append_left (by rw [d.1]; exact hi)]
  exact d.get hn
theorem ret_grown {h0 h' : AH} {n : Nat} {R : AK} {x : AV} (c : clH h0) (g : Grown h0 n h') (cx : clB h0.length x = true) (q : ∀ h1, Drawn h0 n h1 → R x h1) : retG h0 R x h' := by
  obtain ⟨h1, s, rfl, d⟩ := g
  exact ret_drawn c d (by rw [d.1]; exact cx) (q _ d)
/-- a new list at the end -/
theorem get_new {h : AH} {x : AO} : (h ++ [x])[h.length]? = some x := get_l0
theorem get_old {h : AH} {i : Nat} {x : AO} {r : AH} (e : h[i]? = some x) : (h ++ r)[i]? = some x := by
  rw [List.getElem?_append_left (List.getElem?_eq_some_iff.mp e).1]
  exact e
theorem get_lt {h : AH} {i : Nat} {x : AO} (e : h[i]? = some x) : i < h.length := (List.getElem?_eq_some_iff.mp e).1
theorem get_set {h : AH} {i p : Nat} {x y : AO} (e : h[i]? = some x) (hp : p ≠ i) : (h.set p y)[i]? = some x := by
  rw [List.getElem?_set_ne hp]
  exact e
theorem isz_lit {i : Int} {n : Nat} (hn : 1 ≤ n) (h : i.natAbs < 2 ^ n) : isz i ≤ n := isz_le hn h
theorem sz_small {n d : Int} {k : Nat} (hd : d ≠ 0) (h1 : isz n ≤ k) (h2 : isz d ≤ k) : sz (Rat.divInt n d) ≤ k := Nat.le_trans (sz_divInt hd) (Nat.max_le.mpr ⟨h1, h2⟩)
theorem rat_of_int (n : Int) : AV.tup [.int n, .int 1] = rat (n : Rat) := rfl
theorem sz_int (n : Int) : sz (n : Rat) = isz n := by
  show max (isz n) (isz 1) = _
  exact Nat.max_eq_left (isz_pos n)
theorem isR_rat (q : Rat) : isR (rat q) = true := by
  have h1 := den_pos q
  have h2 : q.num.natAbs.gcd ((q.den : Int)).natAbs = 1 := q.reduced
  show (decide (1 ≤ (q.den : Int)) && decide _) = true
  rw [decide_eq_true (show 1 ≤ (q.den : Int) by omega), Bool.true_and]
  exact decide_eq_true h2
theorem seen_rat (h : AH) (q : Rat) : seen h (rat q) := trivial
/-- is it a ratio: of a ratio -/
theorem isRsp_rat {h : AH} {q : Rat} {R E : AK} (hs : sz q ≤ 20000) (r : R (.bl true) h) : isRsp [rat q] h R E := by
  refine ⟨seen_rat h q, fun xs e y hy => ?_, fun n d e => ?_, by rw [isR_rat]; exact r⟩
  · cases e
    simp at hy
    rcases hy with rfl | rfl <;> trivial
  · cases e
    exact ⟨Nat.le_trans (sz_num q) hs, Nat.le_trans (sz_den q) hs⟩
theorem DrawAt.set {h : AH} {n p : Nat} {x : AO} (d : DrawAt h n) (hp : n < p) : DrawAt (h.set p x) n := by
  obtain ⟨k, ns, at_, rest, seed, e1, e2, hk⟩ := d
  exact ⟨k, ns, at_, rest, seed, get_set e1 (by omega), get_set e2 (by omega), hk⟩
theorem zr_len {lo : Int} {n : Nat} : (zrange lo n).length = n := by simp [zrange]
theorem zr_get {lo : Int} {n i : Nat} {x : AV} (h : (zrange lo n)[i]? = some x) : i < n ∧ x = .int (lo + (i : Int)) := by
  have hi : i < n := by
    have := (List.getElem?_eq_some_iff.mp h).1
    rwa [zr_len] at this
  refine ⟨hi, ?_⟩
  unfold zrange at h
  rw [List.getElem?_map, List.getElem?_range hi] at h
  exact (Option.some.inj h).symm
theorem en_len : ∀ (xs : List AV) (k : Nat), (enumV k xs).length = xs.length
  | [], _ => rfl
  | _ :: r, k => by
    show (enumV (k + 1) r).length + 1 = r.length + 1
    rw [en_len r]
theorem en_get : ∀ (xs : List AV) (k i : Nat) {x : AV}, (enumV k xs)[i]? = some x → ∃ y, xs[i]? = some y ∧ x = .tup [.int ((k + i : Nat) : Int), y]
  | [], _, _, _, h => by
    cases h
  | y :: r, k, 0, x, h => ⟨y, rfl, (Option.some.inj h).symm⟩
  | y :: r, k, i + 1, x, h => by
    obtain ⟨z, h1, h2⟩ := en_get r (k + 1) i h
    exact ⟨z, h1, by rw [h2]; congr 3; omega⟩
theorem atA_map {α : Type} {f : α → AV} {xs : List α} {i : Nat} {x : α} (h : xs[i]? = some x) : atA (xs.map f) (i : Int) = some (f x) := by
  show (xs.map f)[i]? = _
  rw [List.getElem?_map, h]
  rfl
theorem get_mem {α : Type} {xs : List α} {i : Nat} {x : α} (h : xs[i]? = some x) : x ∈ xs := List.mem_of_getElem? h
theorem rat_lit {q : Rat} {n d : Int} (h1 : q.num = n) (h2 : (q.den : Int) = d) : AV.tup [.int n, .int d] = rat q := by
  subst h1 h2
  rfl
theorem pick3 {h : AH} {n : Nat} {u v w : AV} {a b c : Rat} {R : AK} (ea : u = rat a) (eb : v = rat b) (ec : w = rat c) (d : DrawAt h n) (q : ∀ v h', v = a ∨ v = b ∨ v = c → Drawn h n h' → R (rat v) (h' ++ [.lst [rat a, rat b, rat c]])) (E : AK) : sp_law_pick [.ref n, .ref h.length] (h ++ [.lst [u, v, w]]) R E := by
  have hn := d.lt
  subst ea eb ec
  refine ⟨n, [rat a, rat b, rat c], rfl, ?_, by simp, by simp, fun z => ?_, d.app _, fun v h' hv dr => ?_⟩
  · simp only [seqOf, get_l0]
  · cases z
    omega
  · obtain ⟨h1, rfl, d1⟩ := dr.cut hn
    have : v = rat a ∨ v = rat b ∨ v = rat c := by simpa using hv
    rcases this with rfl | rfl | rfl
    · exact q a h1 (.inl rfl) d1
    · exact q b h1 (.inr (.inl rfl)) d1
    · exact q c h1 (.inr (.inr rfl)) d1
theorem x_iseq {te : ATE} {a : ASt} {h : AH} {n : Nat} {xs : List AV} {R : List AV → (AH → Prop) → AH → Prop} (he : ∀ Q : AK, te a h Q = Q (.ref n) h) (e : h[n]? = some (.lst xs)) : iSeqT te a h R = R xs (fun h => h[n]? = some (.lst xs)) h := by
  unfold iSeqT
  rw [he]
  simp only [e]
theorem e_add_lst {m n : Nat} {xs ys : List AV} {h : AH} {Q : AK} (e1 : h[m]? = some (.lst xs)) (e2 : h[n]? = some (.lst ys)) : addR (.ref m) (.ref n) h Q = (xs.length + ys.length ≤ 16777216 ∧ Q (.ref h.length) (h ++ [.lst (xs ++ ys)])) := by
  simp only [addR, e1, e2]
theorem whole_val {B : Int} {q : Rat} (h : ((q.den : Int)) ∣ B) : ((q.num * (B / (q.den : Int)) : Int) : Rat) = q * (B : Rat) := by
  obtain ⟨c, rfl⟩ := h
  have hd := den_pos q
  rw [Int.mul_ediv_cancel_left _ (by omega), Rat.intCast_mul, Rat.intCast_mul]
  have e : q * ((q.den : Int) : Rat) = (q.num : Rat) := by
    have e1 : q = (q.num : Rat) / ((q.den : Int) : Rat) := by
      rw [← Rat.divInt_eq_div, Rat.num_divInt_den]
    have e2 : ((q.den : Int) : Rat) ≠ 0 := fun z => by
      have := Rat.intCast_eq_zero_iff.mp z
      omega
    conv => lhs; lhs; rw [e1]
    exact Rat.div_mul_cancel e2
  rw [← e, Rat.mul_assoc]
theorem mul_den (q : Rat) : q * ((q.den : Int) : Rat) = (q.num : Rat) := by
  have h := whole_val (B := (q.den : Int)) (q := q) (Int.dvd_refl _)
  rw [← h, Int.ediv_self (by have := den_pos q; omega), Int.mul_one]
theorem atA_m1 {α : Type} {xs : List α} {v : α} (h : xs[xs.length - 1]? = some v) : atA xs (-1) = some v := by
  have h0 := (List.getElem?_eq_some_iff.mp h).1
  show (if 0 < xs.length then xs[xs.length - 1 - 0]? else none) = _
  rw [if_pos (by omega)]
  exact h
theorem atA_m2 {α : Type} {xs : List α} {v : α} (h2 : 2 ≤ xs.length) (h : xs[xs.length - 2]? = some v) : atA xs (-2) = some v := by
  show (if 1 < xs.length then xs[xs.length - 1 - 1]? else none) = _
  rw [if_pos (by omega)]
  exact h
theorem zip2_self : ∀ (xs : List AV) {i : Nat} {x : AV}, (zip2 xs xs)[i]? = some x → ∃ y, xs[i]? = some y ∧ x = .tup [y, y]
  | [], _, _, h => by cases h
  | y :: r, 0, x, h => ⟨y, rfl, (Option.some.inj h).symm⟩
  | y :: r, i + 1, x, h => zip2_self r h
def Side (s : Int) : Prop := s = 1 ∨ s = -1
theorem side_sz {s : Int} (h : Side s) : isz s = 1 := by
  rcases h with rfl | rfl <;> rfl
theorem side_mul {s : Int} (h : Side s) (i : Int) : isz (s * i) = isz i := by
  rcases h with rfl | rfl
  · rw [Int.one_mul]
  · rw [Int.neg_mul, Int.one_mul, isz_neg]
theorem side_ok {s : Int} (h : Side s) (i : Int) : mulOk s i := by
  refine .inl (.inl ?_)
  rcases h with rfl | rfl <;> exact ⟨by decide, by decide⟩
theorem rat_unit {s m : Int} (h : Side s) (hm : 0 < m) : AV.tup [.int s, .int m] = rat (Rat.divInt s m) := by
  rw [rat_divInt hm]
  have e : s.natAbs.gcd m.natAbs = 1 := by
    rcases h with rfl | rfl <;> exact Nat.gcd_one_left _
  rw [e]
  simp
theorem side_of {s side : Int} (h : side = 1 - 2 * s) (s0 : 0 ≤ s) (s1 : s < 2) : Side side := by
  have : s = 0 ∨ s = 1 := by omega
  rcases this with rfl | rfl
  · exact .inl h
  · exact .inr h
end AL

/-! CB2: bodies, printed by gen.py. -/
namespace AL
open PySem
def b_law_same (dep : Nat) : ATS := (seqT (ifS (truT (cbT instR (consT (varT 1) (consT (cT (.ty "tuple")) nilT))))
    (seqT (ifS (orT (notT (truT (cbT instR (consT (varT 0) (consT (cT (.ty "tuple")) nilT))))) (cmpT (opT neR (cbT lenR (consT (varT 0) nilT)) (cbT lenR (consT (varT 1) nilT)))))
    (retT (cT (.bl false)))
    nextT)
    (retT (cbT allR (consT (lcT (iZipT (consT (varT 0) (consT (varT 1) nilT))) (gTupT 2 (gNmsT [2, 3])) yesT (callT (sp_law_same dep) (fun _ _ => False) (consT (varT 2) (consT (varT 3) nilT))) [2, 3]) nilT))))
    nextT)
    (seqT (ifS (orT (cmpT (opT isNR (varT 1) (cT .non))) (cmpT (opT isNR (varT 0) (cT .non))))
    (retT (andV (opT isNR (varT 1) (cT .non)) (opT isNR (varT 0) (cT .non))))
    nextT)
    (seqT (ifS (orT (truT (cbT instR (consT (varT 1) (consT (cT (.ty "bool")) nilT)))) (truT (cbT instR (consT (varT 0) (consT (cT (.ty "bool")) nilT)))))
    (retT (andV (cbT instR (consT (varT 1) (consT (cT (.ty "bool")) nilT))) (andV (cbT instR (consT (varT 0) (consT (cT (.ty "bool")) nilT))) (opT eqR (varT 0) (varT 1)))))
    nextT)
    (seqT (ifS (truT (cbT instR (consT (varT 1) (consT (cT (.ty "int")) nilT))))
    (retT (andV (cbT instR (consT (varT 0) (consT (cT (.ty "int")) nilT))) (opT eqR (varT 0) (varT 1))))
    nextT)
    (retT (andV (cbT instR (consT (varT 0) (consT (cT (.ty "str")) nilT))) (opT eqR (varT 0) (varT 1))))))))
def b_law_lt : ATS := (retT (opT ltR (opT mulR (opT ixR (varT 0) (cT (.int 0))) (opT ixR (varT 1) (cT (.int 1)))) (opT mulR (opT ixR (varT 1) (cT (.int 0))) (opT ixR (varT 0) (cT (.int 1))))))
end AL

/-! CM: the laws' own look for sameness. -/
namespace AL
open PySem
local macro_rules | `(tactic| get_elem_tactic_trivial) => `(tactic| simp -implicitDefEqProofs only [e_tru_non, e_tru_bl, e_tru_int, e_tru_tup, e_tru_rol, e_bl_bl, e_add_int, e_add_ib, e_add_str, e_add_tup, e_sub_int, e_mul_int, e_fdiv_int, e_mod_int, e_pow_int, e_shl_int, e_neg_int, e_iadd_int, e_iadd_str, e_isub_int, e_aeq_int, e_aeq_str, e_aeq_bl, e_aeq_non, e_aeq_tup, e_aeqs_nil, e_aeqs_cons, e_aeqs_nc, e_aeqs_cn, e_plain_int, e_plain_bl, e_plain_non, e_plain_str, e_plain_tup, e_eq, e_ne, e_lt_int, e_lt_str, e_le_int, e_gt_int, e_ge_int, e_isN, e_notN, e_isNon_int, e_isNon_str, e_isNon_tup, e_isNon_non, e_isNon_ref, e_isNon_bl, e_ix0, e_ix1, e_ix2, e_ix3, e_ix4, e_len_tup, e_len_rol, e_len_str, e_abs, e_int_int, e_int_bl, e_str_int, e_gcd, e_tuple_tup, e_list_tup, e_inst_ii, e_inst_ib, e_inst_tt, e_inst_it, e_inst_ti, e_inst_tb, e_inst_bb, e_inst_bi, e_inst_bt, e_inst_ss, e_inst_st, e_inst_si, e_inst_nt, e_gTup, e_gCons, e_gNil, e_gNms0, e_gNms1, e_gName, atA_0, atA_1, atA_2, atA_3, atA_4, get_l0, get_l1, get_l2, get_l3, set_l0, set_l1, set_l2, app_l, len_l0, len_l1, len_l2, x_c, x_var, x_op, x_un, x_nil, x_cons, x_tup, x_lst, x_call, x_cb, x_mt, x_tru, x_cmp, x_and, x_or, x_not, x_andV, x_orV, x_notV, x_if, x_chain, x_next, x_seq, x_brk, x_cont, x_drop, x_ret, x_retN, x_ifS, x_asg, x_gSub, x_par, x_aug, x_augS, x_rt, x_nx, x_yes, gv, sv, wipeA, lenLe, true_and, and_true, if_true, if_false, ite_true, ite_false, beq_iff_eq, decide_eq_true_eq, Bool.false_eq_true, Bool.true_eq_false, not_false_eq_true, Bool.not_eq_true', decide_eq_false_iff_not, Bool.not_true, Bool.not_false, List.isEmpty_cons, List.isEmpty_nil, List.cons_append, List.nil_append, List.length_cons, List.length_nil])
theorem zp_len : ∀ (xs : List AV), (zip2 xs xs).length = xs.length
  | [] => rfl
  | _ :: r => by
    show (zip2 r r).length + 1 = r.length + 1
    rw [zp_len r]
theorem blsOf_map : ∀ bs : List Bool, blsOf (bs.map AV.bl) = some bs
  | [] => rfl
  | b :: r => by
    show (blsOf (r.map AV.bl)).map (b :: ·) = _
    rw [blsOf_map r]
    rfl
theorem e_all {h : AH} {n : Nat} {bs : List Bool} {Q : AK} (e : h[n]? = some (.lst (bs.map AV.bl))) : allR [.ref n] h Q = Q (.bl (bs.all id)) h := by
  simp only [allR, e, blsOf_map]
theorem e_any {h : AH} {n : Nat} {bs : List Bool} {Q : AK} (e : h[n]? = some (.lst (bs.map AV.bl))) : anyR [.ref n] h Q = Q (.bl (bs.any id)) h := by
  simp only [anyR, e, blsOf_map]
theorem pure_law_same (dep : Nat) (x y : AV) (h : AH) (R : AK) (c1 : clH h) (c2 : clBs h.length [x, y] = true) (q : sp_law_same (dep + 1) [x, y] h R (fun _ _ => False)) : b_law_same dep (ends (retG h R)) [some x, some y, none, none] h := by
  obtain ⟨rfl, hd, q⟩ := q
  unfold b_law_same
  get_elem_tactic_trivial
  cases x with
  | tup xs =>
    get_elem_tactic_trivial
    rw [if_neg (by simp)]
    have hd2 : (decide (xs.length ≤ 1000000) && xs.all (dat dep)) = true := hd
    rw [Bool.and_eq_true] at hd2
    have hl := of_decide_eq_true hd2.1
    refine lcT_map (h1 := h) (items := zip2 xs xs) (ys := (List.replicate xs.length true).map AV.bl) (guard := fun _ => True) (fun K k => ?_) (by rw [zp_len]; simp) (by rw [zp_len]; exact hl) (fun _ => trivial) (fun i z y acc Q hx hy hq => ?_) ?_
    · unfold iZipT
      get_elem_tactic_trivial
      exact k
    · obtain ⟨v, hv, rfl⟩ := zip2_self _ hx
      obtain ⟨b, hb, rfl⟩ := map_get hy
      have : b = true := List.eq_of_mem_replicate (get_mem hb)
      subst this
      get_elem_tactic_trivial
      exact ⟨rfl, List.all_eq_true.mp hd2.2 v (get_mem hv), hq⟩
    · rw [e_all get_l0]
      have e : (List.replicate xs.length true).all id = true := by
        rw [List.all_eq_true]
        intro b hb
        rw [List.eq_of_mem_replicate hb]
        rfl
      rw [e]
      exact ret_cut c1 rfl q
  | non =>
    exact retG_of q
  | bl b =>
    get_elem_tactic_trivial
    exact retG_of (by simpa using q)
  | int i =>
    get_elem_tactic_trivial
    exact retG_of (by simpa using q)
  | str s =>
    have hs : s.cps.all (· < 0x110000) = true := hd
    get_elem_tactic_trivial
    exact ⟨hs, hs, retG_of (by simpa using q)⟩
  | ref n => exact Bool.noConfusion hd
  | ty n => exact Bool.noConfusion hd
  | rol xs => exact Bool.noConfusion hd
theorem pure_is_ratio (x : AV) (h : AH) (R : AK) (c1 : clH h) (c2 : clBs h.length [x] = true) (q : sp_is_ratio [x] h R (fun _ _ => False)) : b_is_ratio (ends (retG h R)) [some x, none, none] h := by
  obtain ⟨hx, hs, hb, q⟩ := q
  unfold b_is_ratio
  get_elem_tactic_trivial
  have no : isR x = false → retG h R (.bl false) h := fun e => retG_of (by rw [← e]; exact q)
  cases x with
  | tup xs =>
    get_elem_tactic_trivial
    match xs, hs, hb, q, no with
    | [], _, _, _, no => simpa using no (isR_len _ (by simp))
    | [_], _, _, _, no => simpa using no (isR_len _ (by simp))
    | _ :: _ :: _ :: r, _, _, _, no =>
      have e : ¬ ((r.length : Int) + 1 + 1 + 1 = 2) := by omega
      simpa [e] using no (isR_len _ (by simp))
    | [y, z], hs, hb, q, no =>
      have sy := hs _ rfl y (by simp)
      have sz := hs _ rfl z (by simp)
      get_elem_tactic_trivial
      refine ⟨sy, ?_⟩
      cases y with
      | int n =>
        simp only [isI]
        get_elem_tactic_trivial
        refine ⟨sz, ?_⟩
        cases z with
        | int d =>
          simp only [isI]
          get_elem_tactic_trivial
          have e : isR (.tup [.int n, .int d]) = (decide (1 ≤ d) && decide (n.natAbs.gcd d.natAbs = 1)) := rfl
          by_cases hd : 1 ≤ d
          · rw [if_pos hd]
            have e2 : (((n.natAbs.gcd d.natAbs : Nat) : Int) == 1) = isR (.tup [.int n, .int d]) := by
              rw [e, decide_eq_true hd, Bool.true_and]
              exact beq_dec _
            rw [e2]
            exact retG_of q
          · rw [if_neg hd]
            exact no (by rw [e, decide_eq_false hd]; rfl)
        | _ =>
          simp only [isI]
          get_elem_tactic_trivial
          exact no rfl
      | _ =>
        simp only [isI]
        get_elem_tactic_trivial
        exact no (by cases z <;> rfl)
  | ref n =>
    have e : h[n]? = some h[n] := List.getElem?_eq_getElem hx
    simp only [instR, tyName, e]
    cases h[n] <;> exact no rfl
  | ty n => exact hx.elim
  | _ => exact no rfl
theorem pure_law_lt (x y : AV) (h : AH) (R : AK) (c1 : clH h) (c2 : clBs h.length [x, y] = true) (q : sp_law_lt [x, y] h R (fun _ _ => False)) : b_law_lt (ends (retG h R)) [some x, some y] h := by
  obtain ⟨a, b, rfl, rfl, hs, q⟩ := q
  have t : Two a b := ⟨hs⟩
  unfold b_law_lt rat
  get_elem_tactic_trivial
  refine ⟨t.nd, t.dn, retG_of ?_⟩
  have lt : decide (a < b) = decide (a.num * b.den < b.num * a.den) := by simp only [Rat.lt_iff]
  rw [← lt]
  exact q
theorem dat_rat (n : Nat) (q : Rat) : dat (n + 2) (rat q) = true := rfl
end AL

/-! AX: more operations over plain data: slices, more methods and built-ins. -/
namespace AL
open PySem
abbrev ATO := ASt → AH → (Option Int → AH → Prop) → Prop
def noneT : ATO := fun _ h Q => Q none h
def someT (te : ATE) : ATO := fun a h Q => te a h fun x h1 => match x with
  | .int i => Q (some i) h1
  | _ => False
def sixA (n d : Nat) : Option Int → Nat
  | none => d
  | some v => if v < 0 then (v + (n : Int)).toNat else min v.toNat n
def cutA {α : Type} (xs : List α) (lo hi : Option Int) : List α := (xs.drop (sixA xs.length 0 lo)).take (sixA xs.length xs.length hi - sixA xs.length 0 lo)
def sliceR (x : AV) (lo hi : Option Int) (h : AH) (Q : AK) : Prop := match x with
  | .tup xs => Q (.tup (cutA xs lo hi)) h
  | .ref n => match h[n]? with
    | some (.lst xs) => Q (.ref h.length) (h ++ [.lst (cutA xs lo hi)])
    | _ => False
  | .rol xs => Q (.ref h.length) (h ++ [.lst (cutA xs lo hi)])
  | _ => False
def sliceT (te : ATE) (tl th : ATO) : ATE := fun a h Q => te a h fun x h1 => tl a h1 fun l h2 => th a h2 fun u h3 => sliceR x l u h3 Q
def reverseR : ARM
  | .ref n, [], h, Q => match h[n]? with
    | some (.lst xs) => Q .non (h.set n (.lst xs.reverse))
    | _ => False
  | _, _, _, _ => False
def popR : ARM
  | .ref n, [], h, Q => match h[n]? with
    | some (.lst xs) => (match xs[xs.length - 1]? with
      | some y => Q y (h.set n (.lst xs.dropLast))
      | none => False)
    | _ => False
  | _, _, _, _ => False
def extendR : ARM
  | .ref n, [.ref k], h, Q => match h[n]?, h[k]? with
    | some (.lst xs), some (.lst ys) => xs.length + ys.length ≤ 16777216 ∧ Q .non (h.set n (.lst (xs ++ ys)))
    | _, _ => False
  | _, _, _, _ => False
def max2R : ARL
  | [.int i, .int j], h, Q => Q (.int (if j > i then j else i)) h
  | _, _, _ => False
def min2R : ARL
  | [.int i, .int j], h, Q => Q (.int (if j < i then j else i)) h
  | _, _, _ => False
section
variable {n k : Nat} {h : AH} {Q : AK} {xs ys : List AV} {y : AV} {te : ATE} {tl th : ATO} {a : ASt} {i j : Int} {lo hi : Option Int} {O : Option Int → AH → Prop}
theorem e_reverse (e : h[n]? = some (.lst xs)) : reverseR (.ref n) [] h Q = Q .non (h.set n (.lst xs.reverse)) := by simp only [reverseR, e]
theorem e_pop (e : h[n]? = some (.lst xs)) (e2 : xs[xs.length - 1]? = some y) : popR (.ref n) [] h Q = Q y (h.set n (.lst xs.dropLast)) := by simp only [popR, e, e2]
theorem e_extend (e : h[n]? = some (.lst xs)) (e2 : h[k]? = some (.lst ys)) : extendR (.ref n) [.ref k] h Q = (xs.length + ys.length ≤ 16777216 ∧ Q .non (h.set n (.lst (xs ++ ys)))) := by simp only [extendR, e, e2]
theorem e_max2 : max2R [.int i, .int j] h Q = Q (.int (if j > i then j else i)) h := rfl
theorem e_min2 : min2R [.int i, .int j] h Q = Q (.int (if j < i then j else i)) h := rfl
theorem x_slice : sliceT te tl th a h Q = te a h fun x h1 => tl a h1 fun l h2 => th a h2 fun u h3 => sliceR x l u h3 Q := rfl
theorem x_oNone : noneT a h O = O none h := rfl
theorem x_oSome : someT te a h O = te a h fun x h1 => match x with
  | .int i => O (some i) h1
  | _ => False := rfl
theorem e_sl_tup : sliceR (.tup xs) lo hi h Q = Q (.tup (cutA xs lo hi)) h := rfl
theorem e_sl_rol : sliceR (.rol xs) lo hi h Q = Q (.ref h.length) (h ++ [.lst (cutA xs lo hi)]) := rfl
theorem e_sl_lst (e : h[n]? = some (.lst xs)) : sliceR (.ref n) lo hi h Q = Q (.ref h.length) (h ++ [.lst (cutA xs lo hi)]) := by simp only [sliceR, e]
end
theorem aeqs_self : ∀ (xs : List AV), (∀ x ∈ xs, aeq x x = true) → aeqs xs xs = true
  | [], _ => e_aeqs_nil
  | x :: r, h => by
    rw [e_aeqs_cons, h x (by simp), aeqs_self r fun y hy => h y (by simp [hy])]
    rfl
theorem aeq_self : ∀ (n : Nat) (x : AV), plainN n x = true → aeq x x = true
  | n, .tup xs, h => by
    rw [e_aeq_tup]
    cases n with
    | zero => cases h
    | succ n => exact aeqs_self xs fun y hy => aeq_self n y (List.all_eq_true.mp h y hy)
  | _, .non, _ => e_aeq_non
  | _, .bl b, _ => by
    rw [e_aeq_bl]
    exact beq_self_eq_true b
  | _, .int i, _ => by
    rw [e_aeq_int]
    exact beq_self_eq_true i
  | _, .str x, _ => by
    rw [e_aeq_str]
    exact beq_self_eq_true x
  | n, .ref _, h => by cases n <;> cases h
  | n, .ty _, h => by cases n <;> cases h
  | n, .rol _, h => by cases n <;> cases h
/-- equal pairs by place -/
theorem zp_get : ∀ (xs ys : List AV) {i : Nat} {x : AV}, (zip2 xs ys)[i]? = some x → ∃ a b, xs[i]? = some a ∧ ys[i]? = some b ∧ x = .tup [a, b]
  | [], ys, _, _, h => by cases ys <;> cases h
  | _ :: _, [], _, _, h => by cases h
  | a :: r, b :: t, 0, x, h => ⟨a, b, rfl, rfl, (Option.some.inj h).symm⟩
  | a :: r, b :: t, i + 1, x, h => zp_get r t h
theorem zp2_len : ∀ (xs ys : List AV), xs.length = ys.length → (zip2 xs ys).length = xs.length
  | [], ys, _ => by cases ys <;> rfl
  | _ :: _, [], e => by cases e
  | a :: r, b :: t, e => by
    show (zip2 r t).length + 1 = r.length + 1
    rw [zp2_len r t (Nat.succ.inj e)]
theorem cutA_from {α : Type} (xs : List α) (k : Nat) : cutA xs (some (k : Int)) none = xs.drop k := by
  unfold cutA sixA
  simp only
  rw [if_neg (by omega), Int.toNat_natCast]
  by_cases h : k ≤ xs.length
  · rw [Nat.min_eq_left h]
    exact List.take_of_length_le (by rw [List.length_drop]; omega)
  · rw [Nat.min_eq_right (by omega), Nat.sub_self, List.take_zero, List.drop_eq_nil_of_le (by omega)]
theorem cutA_to {α : Type} (xs : List α) (k : Nat) : cutA xs none (some (k : Int)) = xs.take k := by
  unfold cutA sixA
  simp only
  rw [if_neg (by omega), Int.toNat_natCast, List.drop_zero, Nat.sub_zero]
  by_cases h : k ≤ xs.length
  · rw [Nat.min_eq_left h]
  · rw [Nat.min_eq_right (by omega), List.take_of_length_le (Nat.le_refl _), List.take_of_length_le (by omega)]
/-- zip of two, each a list or a tuple -/
def iZipMT (ta : ATA) : ATI := fun a h R => ta a h fun vs h1 => match vs with
  | [x, y] => (match seqOf x h1, seqOf y h1 with
    | some xs, some ys => R (zip2 xs ys) (fun h => seqOf x h = some xs ∧ seqOf y h = some ys) h1
    | _, _ => False)
  | _ => False
theorem x_zipM {ta : ATA} {a : ASt} {h : AH} {x y : AV} {xs ys : List AV} {R : List AV → (AH → Prop) → AH → Prop} (he : ∀ L : List AV → AH → Prop, ta a h L = L [x, y] h) (e1 : seqOf x h = some xs) (e2 : seqOf y h = some ys) : iZipMT ta a h R = R (zip2 xs ys) (fun h => seqOf x h = some xs ∧ seqOf y h = some ys) h := by
  unfold iZipMT
  rw [he]
  simp only [e1, e2]
/-- a list or a tuple that is walked -/
theorem x_iseq_of {te : ATE} {a : ASt} {h : AH} {x : AV} {xs : List AV} {R : List AV → (AH → Prop) → AH → Prop} (he : ∀ Q : AK, te a h Q = Q x h) (e : seqOf x h = some xs) (q : ∀ guard : AH → Prop, (∀ h', seqOf x h' = some xs → guard h') → R xs guard h) : iSeqT te a h R := by
  unfold iSeqT
  rw [he]
  cases x with
  | tup ys =>
    cases e
    exact q _ fun _ _ => trivial
  | rol ys =>
    cases e
    exact q _ fun _ _ => trivial
  | ref n =>
    simp only [seqOf] at e
    split at e
    · rename_i ys e1
      cases e
      simp only [e1]
      refine q _ fun h' z => ?_
      simp only [seqOf] at z
      split at z
      · rename_i zs e2
        cases z
        exact e2
      · cases z
    · cases e
  | _ => cases e
theorem seq_tup {xs : List AV} {h : AH} : seqOf (.tup xs) h = some xs := rfl
theorem seq_ref {n : Nat} {xs : List AV} {h : AH} (e : h[n]? = some (.lst xs)) : seqOf (.ref n) h = some xs := by simp only [seqOf, e]
/-- a comprehension over a list or a tuple, item for item, the heap left -/
theorem lcT_seq {te el : ATE} {g : ATG} {vs : List Nat} {a : ASt} {x : AV} {xs ys : List AV} {h : AH} {R : AK} (he : ∀ Q : AK, te a h Q = Q x h) (e : seqOf x h = some xs) (hl : xs.length = ys.length) (hz : xs.length ≤ 1000000)
    (hs : ∀ (i : Nat) z y acc (Q : AK), xs[i]? = some z → ys[i]? = some y → Q y (h ++ [.lst acc]) → g z (wipeA a vs) (h ++ [.lst acc]) fun a2 h3 => el a2 h3 Q)
    (q : R (.ref h.length) (h ++ [.lst ys])) : lcT (iSeqT te) g yesT el vs a h R := by
  cases x with
  | tup zs =>
    cases e
    exact lcT_map (h1 := h) (guard := fun _ => True) (fun K k => by unfold iSeqT; rw [he]; exact k) hl hz (fun _ => trivial) hs q
  | rol zs =>
    cases e
    exact lcT_map (h1 := h) (guard := fun _ => True) (fun K k => by unfold iSeqT; rw [he]; exact k) hl hz (fun _ => trivial) hs q
  | ref n =>
    have e1 : h[n]? = some (.lst xs) := by
      simp only [seqOf] at e
      split at e
      · rename_i ys e1
        cases e
        exact e1
      · cases e
    exact lcT_map (h1 := h) (guard := fun h' => h'[n]? = some (.lst xs)) (fun K k => by rw [x_iseq he e1]; exact k) hl hz (fun _ => get_old e1) hs q
  | _ => cases e
/-- what a grown heap keeps of a row -/
theorem seq_old {x : AV} {xs : List AV} {h r : AH} (e : seqOf x h = some xs) : seqOf x (h ++ r) = some xs := by
  cases x with
  | ref n =>
    simp only [seqOf] at e ⊢
    split at e
    · rename_i ys e1
      cases e
      rw [get_old e1]
    · cases e
  | _ => exact e
theorem tuple_seq {x : AV} {xs : List AV} {h : AH} {Q : AK} (e : seqOf x h = some xs) : tupleR [x] h Q = Q (.tup xs) h := by
  cases x with
  | tup ys => cases e; rfl
  | rol ys => cases e; rfl
  | ref n =>
    simp only [seqOf] at e
    split at e
    · rename_i ys e1
      cases e
      exact e_tuple_lst e1
    · cases e
  | _ => cases e
theorem list_seq {x : AV} {xs : List AV} {h : AH} {Q : AK} (e : seqOf x h = some xs) : listR [x] h Q = Q (.ref h.length) (h ++ [.lst xs]) := by
  cases x with
  | tup ys => cases e; rfl
  | rol ys => cases e; rfl
  | ref n =>
    simp only [seqOf] at e
    split at e
    · rename_i ys e1
      cases e
      exact e_list_lst e1
    · cases e
  | _ => cases e
/-- a comprehension, its items known -/
def lcB (g : ATG) (tt : ATT) (te : ATE) (vs : List Nat) (a : ASt) (R : AK) : List AV → (AH → Prop) → AH → Prop := fun items guard h1 => lcT (fun _ _ K => K items guard h1) g tt te vs a h1 R
theorem x_lcT {it : ATI} {g : ATG} {tt : ATT} {te : ATE} {vs : List Nat} {a : ASt} {h : AH} {R : AK} : lcT it g tt te vs a h R = it a h (lcB g tt te vs a R) := rfl
end AL

/-! AY: more operations over plain data: sums; loops that look at each item. -/
namespace AL
open PySem
def zsOf : List AV → Option (List Int)
  | [] => some []
  | .int i :: r => (zsOf r).map (i :: ·)
  | _ :: _ => none
theorem zsOf_ints : ∀ xs : List Int, zsOf (xs.map AV.int) = some xs
  | [] => rfl
  | x :: r => by
    show (zsOf (r.map AV.int)).map (x :: ·) = _
    rw [zsOf_ints r]
    rfl
def sumR : ARL
  | [.ref n], h, Q => match h[n]? with
    | some (.lst xs) => (match zsOf xs with
      | some is => Q (.int is.sum) h
      | none => False)
    | _ => False
  | _, _, _ => False
theorem e_sum {n : Nat} {xs : List Int} {h : AH} {Q : AK} (e : h[n]? = some (.lst (xs.map AV.int))) : sumR [.ref n] h Q = Q (.int xs.sum) h := by
  simp only [sumR, e, zsOf_ints]
theorem cutA_ft {α : Type} (xs : List α) (a b : Nat) : cutA xs (some (a : Int)) (some (b : Int)) = (xs.drop a).take (b - a) := by
  unfold cutA sixA
  simp only
  rw [if_neg (by omega), if_neg (by omega), Int.toNat_natCast, Int.toNat_natCast]
  by_cases h : a ≤ xs.length
  · rw [Nat.min_eq_left h]
    by_cases h2 : b ≤ xs.length
    · rw [Nat.min_eq_left h2]
    · rw [Nat.min_eq_right (by omega), List.take_of_length_le (by rw [List.length_drop]; omega), List.take_of_length_le (by rw [List.length_drop]; omega)]
  · rw [List.drop_eq_nil_of_le (as := xs) (i := a) (by omega), List.drop_eq_nil_of_le (by omega)]
    simp
theorem all_step {p : AV → Bool} {items : List AV} {i : Nat} {x : AV} (e : items[i]? = some x) (h : (items.take i).all p = true) (hx : p x = true) : (items.take (i + 1)).all p = true := by
  rw [List.take_add_one, e]
  simp [h, hx]
theorem all_bad {p : AV → Bool} {items : List AV} {i : Nat} {x : AV} (e : items[i]? = some x) (hx : p x = false) : items.all p = false := by
  rw [List.all_eq_false]
  exact ⟨x, List.mem_of_getElem? e, by rw [hx]; decide⟩
theorem all_end {p : AV → Bool} {items : List AV} (h : (items.take items.length).all p = true) : items.all p = true := by
  rw [List.take_length] at h
  exact h
end AL

/-! AZ: more operations over plain data: a row turned, a range as a list, two lists compared. -/
namespace AL
open PySem
/-- t[::-1] of a tuple -/
def revT (te tk : ATE) : ATE := fun a h Q => te a h fun x h1 => tk a h1 fun k h2 => match x, k with
  | .tup xs, .int (-1) => Q (.tup xs.reverse) h2
  | _, _ => False
/-- list(range(n)) -/
def lstRgT (te : ATE) : ATE := fun a h Q => te a h fun x h1 => match x with
  | .int n => 0 ≤ n ∧ n ≤ 1000000 ∧ Q (.ref h1.length) (h1 ++ [.lst (zrange 0 n.toNat)])
  | _ => False
/-- two lists of plain data, unlike -/
def neLR : AR2
  | .ref m, .ref n, h, Q => match h[m]?, h[n]? with
    | some (.lst xs), some (.lst ys) => xs.all (plainN 40) = true ∧ ys.all (plainN 40) = true ∧ Q (.bl (!aeqs xs ys)) h
    | _, _ => False
  | _, _, _, _ => False
theorem e_neL {m n : Nat} {xs ys : List AV} {h : AH} {Q : AK} (e1 : h[m]? = some (.lst xs)) (e2 : h[n]? = some (.lst ys)) : neLR (.ref m) (.ref n) h Q = (xs.all (plainN 40) = true ∧ ys.all (plainN 40) = true ∧ Q (.bl (!aeqs xs ys)) h) := by
  simp only [neLR, e1, e2]
theorem x_rev {te tk : ATE} {a : ASt} {h : AH} {Q : AK} : revT te tk a h Q = te a h fun x h1 => tk a h1 fun k h2 => match x, k with
  | .tup xs, .int (-1) => Q (.tup xs.reverse) h2
  | _, _ => False := rfl
theorem x_lstRg {te : ATE} {a : ASt} {h : AH} {Q : AK} : lstRgT te a h Q = te a h fun x h1 => match x with
  | .int n => 0 ≤ n ∧ n ≤ 1000000 ∧ Q (.ref h1.length) (h1 ++ [.lst (zrange 0 n.toNat)])
  | _ => False := rfl
end AL

/-! AD: more operations over plain data: a new dict, the keys of a dict in order. -/
namespace AL
open PySem
/-- {} -/
def dnewT : ATE := fun _ h Q => Q (.ref h.length) (h ++ [.dct []])
/-- sorted(d) of a dict with ints as keys -/
def sortedR : ARL
  | [.ref n], h, Q => match h[n]? with
    | some (.dct kvs) => ∃ ks : List Int, kvs.map (·.1) = ks.map Sum.inl ∧ ks.length ≤ 1000000 ∧ ∀ ys : List Int, ys.Perm ks → ys.Pairwise (· ≤ ·) → Q (.ref h.length) (h ++ [.lst (ys.map AV.int)])
    | _ => False
  | _, _, _ => False
theorem x_dnew {a : ASt} {h : AH} {Q : AK} : dnewT a h Q = Q (.ref h.length) (h ++ [.dct []]) := rfl
theorem e_sorted {n : Nat} {kvs : List (Sum Int Str × AV)} {h : AH} {Q : AK} (e : h[n]? = some (.dct kvs)) : sortedR [.ref n] h Q = ∃ ks : List Int, kvs.map (·.1) = ks.map Sum.inl ∧ ks.length ≤ 1000000 ∧ ∀ ys : List Int, ys.Perm ks → ys.Pairwise (· ≤ ·) → Q (.ref h.length) (h ++ [.lst (ys.map AV.int)]) := by
  simp only [sortedR, e]
/-- a dict whose values are all True -/
def marks (ks : List Int) : List (Sum Int Str × AV) := ks.map fun k => (.inl k, .bl true)
theorem marks_put (ks : List Int) (k : Int) : kvPut (marks ks) (.inl k) (.bl true) = marks (if k ∈ ks then ks else ks ++ [k]) := by
  unfold kvPut
  by_cases h : k ∈ ks
  · rw [if_pos h, if_pos (by
      rw [List.any_eq_true]
      exact ⟨_, List.mem_map.mpr ⟨k, h, rfl⟩, by simp⟩)]
    unfold marks
    rw [List.map_map]
    refine List.map_congr_left fun x _ => ?_
    show (if Sum.inl x = Sum.inl k then _ else _) = _
    split
    · rfl
    · rfl
  · rw [if_neg h, if_neg (by
      rw [List.any_eq_true]
      rintro ⟨kv, h1, h2⟩
      obtain ⟨x, hx, rfl⟩ := List.mem_map.mp h1
      simp at h2
      subst h2
      exact h hx)]
    unfold marks
    rw [List.map_append]
    rfl
theorem marks_keys (ks : List Int) : (marks ks).map (·.1) = ks.map Sum.inl := by
  unfold marks
  rw [List.map_map]
  rfl
theorem e_set_dct {n : Nat} {kvs : List (Sum Int Str × AV)} {h : AH} {S : AH → Prop} {k : Int} {v : AV} (e : h[n]? = some (.dct kvs)) : setR (.ref n) (.int k) v h S = (kvs.length < 16777216 ∧ S (h.set n (.dct (kvPut kvs (.inl k) v)))) := by
  simp only [setR, e, keyOf]
end AL

/-! AE: more operations over plain data: a list times an int, pop(i), min of a tuple. -/
namespace AL
open PySem
/-- [..] * k -/
def repLR : AR2
  | .ref n, .int k, h, Q => match h[n]? with
    | some (.lst xs) => -(2 ^ 63) ≤ k ∧ k < 2 ^ 63 ∧ xs.length * k.toNat ≤ 16777216 ∧ Q (.ref h.length) (h ++ [.lst (List.replicate k.toNat xs).flatten])
    | _ => False
  | _, _, _, _ => False
theorem flat_one {α : Type} (x : α) : ∀ k, (List.replicate k [x]).flatten = List.replicate k x
  | 0 => rfl
  | k + 1 => by
    rw [List.replicate_succ, List.flatten_cons, flat_one x k]
    rfl
theorem e_repL {n : Nat} {x : AV} {k : Int} {h : AH} {Q : AK} (e : h[n]? = some (.lst [x])) (h1 : -(2 ^ 63) ≤ k) (h2 : k ≤ 16777216) (q : Q (.ref h.length) (h ++ [.lst (List.replicate k.toNat x)])) : repLR (.ref n) (.int k) h Q := by
  simp only [repLR, e, flat_one]
  exact ⟨h1, by omega, by simp; omega, q⟩
/-- l.pop(i) -/
def popIR : ARM
  | .ref n, [.int i], h, Q => match h[n]? with
    | some (.lst xs) => (match i with
      | .ofNat j => (match xs[j]? with
        | some y => j < 16777216 ∧ Q y (h.set n (.lst (xs.eraseIdx j)))
        | none => False)
      | _ => False)
    | _ => False
  | _, _, _, _ => False
theorem e_popI {n j : Nat} {xs : List AV} {y : AV} {h : AH} {Q : AK} (e : h[n]? = some (.lst xs)) (e2 : xs[j]? = some y) : popIR (.ref n) [.int (j : Int)] h Q = (j < 16777216 ∧ Q y (h.set n (.lst (xs.eraseIdx j)))) := by
  show popIR (.ref n) [.int (.ofNat j)] h Q = _
  simp only [popIR, e, e2]
/-- min of a tuple of ints -/
def min1R : ARL
  | [.tup xs], h, Q => ∃ is, zsOf xs = some is ∧ is ≠ [] ∧ ∀ m, m ∈ is → (∀ y ∈ is, m ≤ y) → Q (.int m) h
  | _, _, _ => False
theorem e_min1 {xs : List Int} {h : AH} {Q : AK} (hx : xs ≠ []) (q : ∀ m, m ∈ xs → (∀ y ∈ xs, m ≤ y) → Q (.int m) h) : min1R [.tup (xs.map AV.int)] h Q := ⟨xs, zsOf_ints xs, hx, q⟩
end AL

/-! AL1: plain values and heaps stand for the layer's values and heaps; each rule of the layer lifted. -/
namespace AL
open PySem PySem.Spec PyProof.Rows L2

/-! ### a read-only list; what a value stands for -/
def SqR (K : PySem.W.Frag) (H : Hp) (a : Addr) (xs : List V) : Prop := (∃ o, H a = some (.frz o (.lst xs))) ∨ SqL K (fun _ => none) a xs
inductive Rep (K : PySem.W.Frag) (H : Hp) (m : List Addr) : V → AV → Prop
  | non : Rep K H m .non .non
  | bl (b : Bool) : Rep K H m (.bl b) (.bl b)
  | int (i : Int) : Rep K H m (.int i) (.int i)
  | str (x : Str) : Rep K H m (.str x) (.str x)
  | ty (n : String) : Rep K H m (.ty n) (.ty n)
  | ref {n : Nat} {p : Addr} : m[n]? = some p → Rep K H m (.ref p) (.ref n)
  | tup {p : Addr} {vs : List V} {xs : List AV} : SqT K H p vs → vs.length = xs.length → (∀ (i : Nat) v x, vs[i]? = some v → xs[i]? = some x → Rep K H m v x) → Rep K H m (.ref p) (.tup xs)
  | rol {p : Addr} {vs : List V} {xs : List AV} : SqR K H p vs → vs.length = xs.length → (∀ (i : Nat) v x, vs[i]? = some v → xs[i]? = some x → Rep K H m v x) → Rep K H m (.ref p) (.rol xs)
structure RepL (K : PySem.W.Frag) (H : Hp) (m : List Addr) (vs : List V) (xs : List AV) : Prop where
  len : vs.length = xs.length
  get : ∀ (i : Nat) v x, vs[i]? = some v → xs[i]? = some x → Rep K H m v x
structure RepS (K : PySem.W.Frag) (H : Hp) (m : List Addr) (σ : L2.St) (a : ASt) : Prop where
  len : σ.length = a.length
  get : ∀ (i : Nat) x, gv a i = some x → ∃ v, σ[i]? = some (some v) ∧ Rep K H m v x
def ORep (K : PySem.W.Frag) (H : Hp) (m : List Addr) (p : Addr) : AO → Prop
  | .lst xs => ∃ vs, H p = some (.lst vs) ∧ RepL K H m vs xs
  | .dct kvs => ∃ vs : List (Key × V), H p = some (.dK vs) ∧ vs.map (·.1) = kvs.map (·.1) ∧ RepL K H m (vs.map (·.2)) (kvs.map (·.2))
structure Rel (K : PySem.W.Frag) (H : Hp) (m : List Addr) (h : AH) : Prop where
  nd : m.Nodup
  len : m.length = h.length
  obj : ∀ (n : Nat) p o, m[n]? = some p → h[n]? = some o → ORep K H m p o
/-- what stays for ever -/
structure Grow (K : PySem.W.Frag) (H : Hp) (m : List Addr) (H' : Hp) (m' : List Addr) : Prop where
  tup : ∀ p vs, SqT K H p vs → SqT K H' p vs
  rol : ∀ p vs, SqR K H p vs → SqR K H' p vs
  pre : ∃ e, m' = m ++ e

section
variable {K : PySem.W.Frag} {H H' H'' : Hp} {m m' m'' : List Addr} {h h' : AH} {v : V} {x : AV} {vs : List V} {xs : List AV} {p : Addr} {o : HO} {n : Nat} {σ : L2.St} {a : ASt}
theorem Grow.refl : Grow K H m H m := ⟨fun _ _ h => h, fun _ _ h => h, [], (List.append_nil m).symm⟩
theorem Grow.trans (g : Grow K H m H' m') (g' : Grow K H' m' H'' m'') : Grow K H m H'' m'' :=
  ⟨fun p vs h => g'.tup p vs (g.tup p vs h), fun p vs h => g'.rol p vs (g.rol p vs h), by
    obtain ⟨e, rfl⟩ := g.pre
    obtain ⟨e', rfl⟩ := g'.pre
    exact ⟨e ++ e', List.append_assoc _ _ _⟩⟩
theorem Grow.at (g : Grow K H m H' m') (hn : m[n]? = some p) : m'[n]? = some p := by
  obtain ⟨e, rfl⟩ := g.pre
  rw [List.getElem?_append_left (by exact (List.getElem?_eq_some_iff.mp hn).1)]
  exact hn
theorem Rep.mono (g : Grow K H m H' m') (r : Rep K H m v x) : Rep K H' m' v x := by
  induction r with
  | non => exact .non
  | bl b => exact .bl b
  | int i => exact .int i
  | str y => exact .str y
  | ty n => exact .ty n
  | ref hn => exact .ref (g.at hn)
  | tup hs hl _ ih => exact .tup (g.tup _ _ hs) hl ih
  | rol hs hl _ ih => exact .rol (g.rol _ _ hs) hl ih
theorem RepL.mono (g : Grow K H m H' m') (r : RepL K H m vs xs) : RepL K H' m' vs xs := ⟨r.len, fun i v x h1 h2 => (r.get i v x h1 h2).mono g⟩
theorem RepS.mono (g : Grow K H m H' m') (r : RepS K H m σ a) : RepS K H' m' σ a := ⟨r.len, fun i x h => by
  obtain ⟨v, h1, h2⟩ := r.get i x h
  exact ⟨v, h1, h2.mono g⟩⟩
theorem ORep.mono {o : AO} (g : Grow K H m H' m') (e : H' p = H p) (r : ORep K H m p o) : ORep K H' m' p o := by
  cases o with
  | lst xs =>
    obtain ⟨vs, h1, h2⟩ := r
    exact ⟨vs, e.trans h1, h2.mono g⟩
  | dct kvs =>
    obtain ⟨vs, h1, h2, h3⟩ := r
    exact ⟨vs, e.trans h1, h2, h3.mono g⟩
theorem ORep.some_ {o : AO} (r : ORep K H m p o) : ∃ u, H p = some u := by
  cases o with
  | lst xs =>
    obtain ⟨vs, h1, _⟩ := r
    exact ⟨_, h1⟩
  | dct kvs =>
    obtain ⟨vs, h1, _⟩ := r
    exact ⟨_, h1⟩
theorem RepL.nil : RepL K H m [] [] := ⟨rfl, fun i v x h => by simp at h⟩
theorem RepL.cons (r : Rep K H m v x) (s : RepL K H m vs xs) : RepL K H m (v :: vs) (x :: xs) := ⟨by simp [s.len], fun i w y h1 h2 => by
  cases i with
  | zero =>
    simp at h1 h2
    subst h1 h2
    exact r
  | succ i => exact s.get i w y (by simpa using h1) (by simpa using h2)⟩
theorem RepL.nil_inv (r : RepL K H m vs []) : vs = [] := by
  have := r.len
  simpa using this
theorem RepL.cons_inv (r : RepL K H m vs (x :: xs)) : ∃ v ws, vs = v :: ws ∧ Rep K H m v x ∧ RepL K H m ws xs := by
  cases vs with
  | nil =>
    have := r.len
    simp at this
  | cons v ws => exact ⟨v, ws, rfl, r.get 0 v x rfl rfl, by simpa using r.len, fun i w y h1 h2 => r.get (i + 1) w y (by simpa using h1) (by simpa using h2)⟩
theorem RepL.append {ws : List V} {ys : List AV} (r : RepL K H m vs xs) (s : RepL K H m ws ys) : RepL K H m (vs ++ ws) (xs ++ ys) := ⟨by simp [r.len, s.len], fun i w y h1 h2 => by
  by_cases hi : i < vs.length
  · rw [List.getElem?_append_left hi] at h1
    rw [List.getElem?_append_left (by rw [← r.len]; exact hi)] at h2
    exact r.get i w y h1 h2
  · rw [List.getElem?_append_right (by omega)] at h1
    rw [List.getElem?_append_right (by rw [← r.len]; omega), ← r.len] at h2
    exact s.get _ w y h1 h2⟩
theorem RepL.set (r : RepL K H m vs xs) (s : Rep K H m v x) (j : Nat) : RepL K H m (vs.set j v) (xs.set j x) := ⟨by simp [r.len], fun i w y h1 h2 => by
  rw [List.getElem?_set] at h1 h2
  by_cases hj : j = i
  · subst hj
    rw [if_pos rfl] at h1 h2
    by_cases hl : j < vs.length
    · rw [if_pos hl] at h1
      rw [if_pos (by rw [← r.len]; exact hl)] at h2
      cases h1
      cases h2
      exact s
    · rw [if_neg hl] at h1
      cases h1
  · rw [if_neg hj] at h1 h2
    exact r.get i w y h1 h2⟩
theorem RepL.at (r : RepL K H m vs xs) {i : Nat} (hx : xs[i]? = some x) : ∃ v, vs[i]? = some v ∧ Rep K H m v x := by
  have hi : i < vs.length := by
    rw [r.len]
    exact (List.getElem?_eq_some_iff.mp hx).1
  exact ⟨vs[i], List.getElem?_eq_getElem hi, r.get i _ x (List.getElem?_eq_getElem hi) hx⟩
theorem RepL.at_v (r : RepL K H m vs xs) {i : Nat} (hv : vs[i]? = some v) : ∃ x, xs[i]? = some x ∧ Rep K H m v x := by
  have hi : i < xs.length := by
    rw [← r.len]
    exact (List.getElem?_eq_some_iff.mp hv).1
  exact ⟨xs[i], List.getElem?_eq_getElem hi, r.get i v _ hv (List.getElem?_eq_getElem hi)⟩
theorem SqR.sq (r : SqR K H p vs) : SqL K H p vs := by
  rcases r with ⟨o, r⟩ | (r | r)
  · exact .inl (.inr ⟨o, r⟩)
  · rcases r with r | ⟨o, r⟩ <;> cases r
  · exact .inr r

/-! ### the heap's steps -/
theorem Grow.upd (ht : ∀ ys, H p ≠ some (.tup ys)) (hf : ∀ b u, H p ≠ some (.frz b u)) (e : List Addr) : Grow K H m (upd H p o) (m ++ e) := by
  refine ⟨fun q ws r => ?_, fun q ws r => ?_, e, rfl⟩
  · rcases r with (r | ⟨b, r⟩) | r
    · exact .inl (.inl (by rw [upd_ne (by rintro rfl; exact ht _ r)]; exact r))
    · exact .inl (.inr ⟨b, by rw [upd_ne (by rintro rfl; exact hf _ _ r)]; exact r⟩)
    · exact .inr r
  · rcases r with ⟨b, r⟩ | r
    · exact .inl ⟨b, by rw [upd_ne (by rintro rfl; exact hf _ _ r)]; exact r⟩
    · exact .inr r
theorem Grow.new (hp : H p = none) (e : List Addr) : Grow K H m (L2.upd H p o) (m ++ e) := .upd (fun ys z => by rw [hp] at z; cases z) (fun b u z => by rw [hp] at z; cases z) e
theorem Rel.fresh (r : Rel K H m h) (hp : H p = none) : p ∉ m := fun hm => by
  obtain ⟨i, hi, rfl⟩ := List.getElem_of_mem hm
  have hl := r.len
  have hs := r.obj i m[i] h[i] (List.getElem?_eq_getElem hi) (List.getElem?_eq_getElem (by omega))
  obtain ⟨u, e⟩ := hs.some_
  rw [hp] at e
  cases e
/-- a new object that is not numbered (a tuple) -/
theorem Rel.off (r : Rel K H m h) (hp : H p = none) : Rel K (L2.upd H p o) m h := by
  refine ⟨r.nd, r.len, fun i q u h1 h2 => ?_⟩
  have g : Grow K H m (L2.upd H p o) m := by
    have := Grow.new (K := K) (m := m) (o := o) hp []
    rwa [List.append_nil] at this
  refine (r.obj i q u h1 h2).mono g (upd_ne ?_)
  rintro rfl
  exact r.fresh hp (List.mem_of_getElem? h1)
theorem Grow.off (hp : H p = none) : Grow K H m (L2.upd H p o) m := by
  have := Grow.new (K := K) (m := m) (o := o) hp []
  rwa [List.append_nil] at this
/-- a new numbered object -/
theorem Rel.push {ao : AO} (r : Rel K H m h) (hp : H p = none) (hob : ORep K (L2.upd H p o) (m ++ [p]) p ao) : Rel K (L2.upd H p o) (m ++ [p]) (h ++ [ao]) := by
  have hf := r.fresh hp
  refine ⟨?_, by simp [r.len], fun i q u h1 h2 => ?_⟩
  · rw [List.nodup_append]
    refine ⟨r.nd, by simp, fun b hb c hc => ?_⟩
    have : c = p := by simpa using hc
    subst this
    rintro rfl
    exact hf hb
  · by_cases hi : i < m.length
    · rw [List.getElem?_append_left hi] at h1
      rw [List.getElem?_append_left (by rw [← r.len]; exact hi)] at h2
      refine (r.obj i q u h1 h2).mono (Grow.new hp [p]) (upd_ne ?_)
      rintro rfl
      exact hf (List.mem_of_getElem? h1)
    · rw [List.getElem?_append_right (by omega)] at h1
      rw [List.getElem?_append_right (by rw [← r.len]; omega), ← r.len] at h2
      cases hk : i - m.length with
      | zero =>
        rw [hk] at h1 h2
        simp at h1 h2
        subst h1 h2
        exact hob
      | succ k =>
        rw [hk] at h1
        simp at h1
theorem Rel.pushL (r : Rel K H m h) (hp : H p = none) (hl : RepL K H m vs xs) : Rel K (L2.upd H p (.lst vs)) (m ++ [p]) (h ++ [.lst xs]) :=
  r.push hp ⟨vs, upd_same, hl.mono (.new hp [p])⟩
theorem Rel.last (r : Rel K H m h) : (m ++ [p])[h.length]? = some p := by
  rw [← r.len, List.getElem?_append_right (Nat.le_refl _), Nat.sub_self]
  rfl
/-- a numbered object changes -/
theorem Rel.write {ao ao' : AO} (r : Rel K H m h) (hn : m[n]? = some p) (ho : h[n]? = some ao) (g : Grow K H m (L2.upd H p o) m) (hob : ORep K (L2.upd H p o) m p ao') : Rel K (L2.upd H p o) m (h.set n ao') := by
  refine ⟨r.nd, by rw [List.length_set]; exact r.len, fun i q u h1 h2 => ?_⟩
  rw [List.getElem?_set] at h2
  by_cases hi : n = i
  · subst hi
    rw [hn] at h1
    cases h1
    rw [if_pos rfl, if_pos (List.getElem?_eq_some_iff.mp ho).1] at h2
    cases h2
    exact hob
  · rw [if_neg hi] at h2
    refine (r.obj i q u h1 h2).mono g (upd_ne ?_)
    rintro rfl
    exact hi (nodup_at r.nd hn h1)
where
  nodup_at {l : List Addr} {i j : Nat} {y : Addr} (nd : l.Nodup) (h1 : l[i]? = some y) (h2 : l[j]? = some y) : i = j := by
    obtain ⟨a1, e1⟩ := List.getElem?_eq_some_iff.mp h1
    obtain ⟨a2, e2⟩ := List.getElem?_eq_some_iff.mp h2
    exact (List.getElem_inj nd).mp (e1.trans e2.symm)
theorem Grow.lst (hp : H p = some (.lst vs)) : Grow K H m (L2.upd H p o) m := by
  have := Grow.upd (K := K) (m := m) (o := o) (p := p) (H := H) (fun ys z => by rw [hp] at z; cases z) (fun b u z => by rw [hp] at z; cases z) []
  rwa [List.append_nil] at this
theorem Grow.dK {kvs : List (Key × V)} (hp : H p = some (.dK kvs)) : Grow K H m (L2.upd H p o) m := by
  have := Grow.upd (K := K) (m := m) (o := o) (p := p) (H := H) (fun ys z => by rw [hp] at z; cases z) (fun b u z => by rw [hp] at z; cases z) []
  rwa [List.append_nil] at this
theorem Rel.lst (r : Rel K H m h) (rx : Rep K H m v (.ref n)) (e : h[n]? = some (.lst xs)) : ∃ p vs, v = .ref p ∧ m[n]? = some p ∧ H p = some (.lst vs) ∧ RepL K H m vs xs := by
  cases rx with
  | ref hn =>
    obtain ⟨vs, h1, h2⟩ := r.obj _ _ _ hn e
    exact ⟨_, vs, rfl, hn, h1, h2⟩
theorem Rel.dct {kvs : List (Sum Int Str × AV)} (r : Rel K H m h) (rx : Rep K H m v (.ref n)) (e : h[n]? = some (.dct kvs)) :
    ∃ p vs, v = .ref p ∧ m[n]? = some p ∧ H p = some (.dK vs) ∧ vs.map (·.1) = kvs.map (·.1) ∧ RepL K H m (vs.map (·.2)) (kvs.map (·.2)) := by
  cases rx with
  | ref hn =>
    obtain ⟨vs, h1, h2, h3⟩ := r.obj _ _ _ hn e
    exact ⟨_, vs, rfl, hn, h1, h2, h3⟩
theorem Rep.tup_inv (r : Rep K H m v (.tup xs)) : ∃ p vs, v = .ref p ∧ SqT K H p vs ∧ RepL K H m vs xs := by
  cases r with
  | tup hs hl hg => exact ⟨_, _, rfl, hs, hl, hg⟩
theorem Rep.rol_inv (r : Rep K H m v (.rol xs)) : ∃ p vs, v = .ref p ∧ SqR K H p vs ∧ RepL K H m vs xs := by
  cases r with
  | rol hs hl hg => exact ⟨_, _, rfl, hs, hl, hg⟩
theorem RepL.tup (hs : SqT K H p vs) (r : RepL K H m vs xs) : Rep K H m (.ref p) (.tup xs) := .tup hs r.len r.get
/-- slots -/
theorem gv_sv {x : Option AV} : ∀ {a : ASt} {i j : Nat}, gv (sv a i x) j = if i = j ∧ i < a.length then x else gv a j
  | [], i, j => by
    rw [if_neg (by simp)]
    rfl
  | y :: r, 0, 0 => by
    rw [if_pos ⟨rfl, by simp⟩]
    rfl
  | y :: r, 0, j + 1 => by
    rw [if_neg (by omega)]
    rfl
  | y :: r, i + 1, 0 => by
    rw [if_neg (by omega)]
    rfl
  | y :: r, i + 1, j + 1 => by
    show gv (sv r i x) j = if i + 1 = j + 1 ∧ i + 1 < r.length + 1 then x else gv r j
    rw [gv_sv]
    simp
theorem sv_len {x : Option AV} : ∀ {a : ASt} {i : Nat}, (sv a i x).length = a.length
  | [], _ => rfl
  | _ :: _, 0 => rfl
  | _ :: r, i + 1 => by
    show (sv r i x).length + 1 = r.length + 1
    rw [sv_len]
theorem RepS.set (r : RepS K H m σ a) (s : Rep K H m v x) (i : Nat) : RepS K H m (σ.set i (some v)) (sv a i (some x)) := by
  refine ⟨by rw [List.length_set, sv_len]; exact r.len, fun j y hy => ?_⟩
  rw [gv_sv] at hy
  rw [List.getElem?_set]
  by_cases hc : i = j ∧ i < a.length
  · obtain ⟨rfl, hl⟩ := hc
    rw [if_pos ⟨rfl, hl⟩] at hy
    cases hy
    exact ⟨v, by rw [if_pos rfl, if_pos (by rw [r.len]; exact hl)], s⟩
  · rw [if_neg hc] at hy
    obtain ⟨w, h1, h2⟩ := r.get j y hy
    refine ⟨w, ?_, h2⟩
    by_cases hi : i = j
    · subst hi
      exact absurd ⟨rfl, by rw [← r.len]; exact (List.getElem?_eq_some_iff.mp h1).1⟩ hc
    · rw [if_neg hi]
      exact h1
theorem RepS.unset (r : RepS K H m σ a) (i : Nat) : RepS K H m (σ.set i none) (sv a i none) := by
  refine ⟨by rw [List.length_set, sv_len]; exact r.len, fun j y hy => ?_⟩
  rw [gv_sv] at hy
  rw [List.getElem?_set]
  by_cases hc : i = j ∧ i < a.length
  · rw [if_pos hc] at hy
    cases hy
  · rw [if_neg hc] at hy
    obtain ⟨w, h1, h2⟩ := r.get j y hy
    refine ⟨w, ?_, h2⟩
    by_cases hi : i = j
    · subst hi
      exact absurd ⟨rfl, by rw [← r.len]; exact (List.getElem?_eq_some_iff.mp h1).1⟩ hc
    · rw [if_neg hi]
      exact h1
theorem RepS.wipe (r : RepS K H m σ a) : ∀ vs : List Nat, RepS K H m (L2.wipe σ vs) (wipeA a vs)
  | [] => r
  | w :: ws => (RepS.wipe r ws).unset w
end

/-! ### what follows, lifted -/
abbrev Lk (K : PySem.W.Frag) (H : Hp) (m : List Addr) (R : AK) (Q : VK) : Prop := ∀ H' m' h' v x, R x h' → Rel K H' m' h' → Rep K H' m' v x → Grow K H m H' m' → Q v H'
abbrev LkB (K : PySem.W.Frag) (H : Hp) (m : List Addr) (R : Bool → AH → Prop) (Q : Bool → Hp → Prop) : Prop := ∀ H' m' h' b, R b h' → Rel K H' m' h' → Grow K H m H' m' → Q b H'
abbrev LkA (K : PySem.W.Frag) (H : Hp) (m : List Addr) (R : List AV → AH → Prop) (Q : List V → Hp → Prop) : Prop := ∀ H' m' h' vs xs, R xs h' → Rel K H' m' h' → RepL K H' m' vs xs → Grow K H m H' m' → Q vs H'
abbrev LkN (K : PySem.W.Frag) (H : Hp) (m : List Addr) (R : ASt → AH → Prop) (Q : L2.St → Hp → Prop) : Prop := ∀ H' m' h' σ' a', R a' h' → Rel K H' m' h' → RepS K H' m' σ' a' → Grow K H m H' m' → Q σ' H'
abbrev LkH (K : PySem.W.Frag) (H : Hp) (m : List Addr) (R : AH → Prop) (Q : Hp → Prop) : Prop := ∀ H' m' h', R h' → Rel K H' m' h' → Grow K H m H' m' → Q H'
structure LkD (K : PySem.W.Frag) (H : Hp) (m : List Addr) (DA : AEnds) (D : Ends) : Prop where
  nx : LkN K H m DA.nx D.nx
  rt : Lk K H m DA.rt D.rt
  bk : LkN K H m DA.bk D.bk
  ct : LkN K H m DA.ct D.ct
section
variable {K : PySem.W.Frag} {H H' : Hp} {m m' : List Addr}
theorem Lk.on {R : AK} {Q : VK} (l : Lk K H m R Q) (g : Grow K H m H' m') : Lk K H' m' R Q := fun H2 m2 h2 v x r rl rp g2 => l H2 m2 h2 v x r rl rp (g.trans g2)
theorem LkB.on {R : Bool → AH → Prop} {Q : Bool → Hp → Prop} (l : LkB K H m R Q) (g : Grow K H m H' m') : LkB K H' m' R Q := fun H2 m2 h2 b r rl g2 => l H2 m2 h2 b r rl (g.trans g2)
theorem LkA.on {R : List AV → AH → Prop} {Q : List V → Hp → Prop} (l : LkA K H m R Q) (g : Grow K H m H' m') : LkA K H' m' R Q := fun H2 m2 h2 vs xs r rl rp g2 => l H2 m2 h2 vs xs r rl rp (g.trans g2)
theorem LkN.on {R : ASt → AH → Prop} {Q : L2.St → Hp → Prop} (l : LkN K H m R Q) (g : Grow K H m H' m') : LkN K H' m' R Q := fun H2 m2 h2 s a r rl rp g2 => l H2 m2 h2 s a r rl rp (g.trans g2)
theorem LkD.on {DA : AEnds} {D : Ends} (l : LkD K H m DA D) (g : Grow K H m H' m') : LkD K H' m' DA D := ⟨LkN.on l.nx g, Lk.on l.rt g, LkN.on l.bk g, LkN.on l.ct g⟩
end
/-! ### the judgements, lifted -/
def upE (K : PySem.W.Frag) (t : ATE) : TE := fun σ H Q => ∃ m h a R, Rel K H m h ∧ RepS K H m σ a ∧ t a h R ∧ Lk K H m R Q
def upT (K : PySem.W.Frag) (t : ATT) : TT := fun σ H Q => ∃ m h a R, Rel K H m h ∧ RepS K H m σ a ∧ t a h R ∧ LkB K H m R Q
def upA (K : PySem.W.Frag) (t : ATA) : TA := fun σ H Q => ∃ m h a R, Rel K H m h ∧ RepS K H m σ a ∧ t a h R ∧ LkA K H m R Q
def upS (K : PySem.W.Frag) (t : ATS) : TS := fun D σ H => ∃ m h a DA, Rel K H m h ∧ RepS K H m σ a ∧ t DA a h ∧ LkD K H m DA D
def upG (K : PySem.W.Frag) (t : ATG) : TG := fun v σ H Q => ∃ m h a x R, Rel K H m h ∧ RepS K H m σ a ∧ Rep K H m v x ∧ t x a h R ∧ LkN K H m R Q
def upGs (K : PySem.W.Frag) (t : ATGs) : TGs := fun vs σ H Q => ∃ m h a xs R, Rel K H m h ∧ RepS K H m σ a ∧ RepL K H m vs xs ∧ t xs a h R ∧ LkN K H m R Q
def up2 (K : PySem.W.Frag) (r : AR2) : R2 := fun x y H Q => ∃ m h ax ay R, Rel K H m h ∧ Rep K H m x ax ∧ Rep K H m y ay ∧ r ax ay h R ∧ Lk K H m R Q
def up1 (K : PySem.W.Frag) (r : AR1) : V → Hp → VK → Prop := fun x H Q => ∃ m h ax R, Rel K H m h ∧ Rep K H m x ax ∧ r ax h R ∧ Lk K H m R Q
def upL (K : PySem.W.Frag) (r : ARL) : List V → Hp → VK → Prop := fun xs H Q => ∃ m h as R, Rel K H m h ∧ RepL K H m xs as ∧ r as h R ∧ Lk K H m R Q
def upM (K : PySem.W.Frag) (r : ARM) : V → List V → Hp → VK → Prop := fun x xs H Q => ∃ m h ax as R, Rel K H m h ∧ Rep K H m x ax ∧ RepL K H m xs as ∧ r ax as h R ∧ Lk K H m R Q
def upB (K : PySem.W.Frag) (r : AV → AH → (Bool → AH → Prop) → Prop) : V → Hp → (Bool → Hp → Prop) → Prop := fun x H Q => ∃ m h ax R, Rel K H m h ∧ Rep K H m x ax ∧ r ax h R ∧ LkB K H m R Q
/-- a contract, lifted; an error that leaves is not spoken of -/
def upSp (K : PySem.W.Frag) (s : ASp) : Sp := fun vs H Q _ => ∃ m h xs R, Rel K H m h ∧ RepL K H m vs xs ∧ s xs h R (fun _ _ => False) ∧ Lk K H m R Q
abbrev AE (X : Cx) (e : Expr) (t : ATE) : Prop := PE X e (upE X.K t)
abbrev ATst (X : Cx) (e : Expr) (t : ATT) : Prop := PT X e (upT X.K t)
abbrev AA (X : Cx) (es : List Expr) (t : ATA) : Prop := PA X es (upA X.K t)
abbrev AS (X : Cx) (st : Stmt) (t : ATS) : Prop := PS X st (upS X.K t)
abbrev ASs (X : Cx) (st : List Stmt) (t : ATS) : Prop := PSs X st (upS X.K t)
abbrev AG (X : Cx) (tg : Expr) (t : ATG) : Prop := PG X tg (upG X.K t)
abbrev AGs (X : Cx) (tg : List Expr) (t : ATGs) : Prop := PGs X tg (upGs X.K t)
section
variable {X : Cx} {e : Expr}
theorem wkE {t t' : TE} (h : PE X e t) (w : ∀ σ H Q, t' σ H Q → t σ H Q) : PE X e t' := ⟨fun pins s σ H Q I q => h.run pins s σ H Q I (w σ H Q q)⟩
theorem wkT {t t' : TT} (h : PT X e t) (w : ∀ σ H Q, t' σ H Q → t σ H Q) : PT X e t' := ⟨fun pins s σ H Q I q => h.run pins s σ H Q I (w σ H Q q)⟩
theorem wkW {t t' : TT} (h : PW X e t) (w : ∀ σ H Q, t' σ H Q → t σ H Q) : PW X e t' := ⟨fun wh pins s σ H Q I q => h.run wh pins s σ H Q I (w σ H Q q)⟩
theorem wkA {es : List Expr} {t t' : TA} (h : PA X es t) (w : ∀ σ H Q, t' σ H Q → t σ H Q) : PA X es t' := ⟨fun pos pins s σ H Q I q => h.run pos pins s σ H Q I (w σ H Q q)⟩
theorem wkS {st : Stmt} {t t' : TS} (h : PS X st t) (w : ∀ D σ H, t' D σ H → t D σ H) : PS X st t' := ⟨fun pins s σ H D I q => h.run pins s σ H D I (w D σ H q)⟩
theorem wkSs {st : List Stmt} {t t' : TS} (h : PSs X st t) (w : ∀ D σ H, t' D σ H → t D σ H) : PSs X st t' := ⟨fun pins s σ H D I q => h.run pins s σ H D I (w D σ H q)⟩
theorem wkG {t t' : TG} (h : PG X e t) (w : ∀ v σ H Q, t' v σ H Q → t v σ H Q) : PG X e t' := ⟨fun pins s σ H v u Q I r q => h.run pins s σ H v u Q I r (w v σ H Q q)⟩
theorem wkGs {es : List Expr} {t t' : TGs} (h : PGs X es t) (w : ∀ v σ H Q, t' v σ H Q → t v σ H Q) : PGs X es t' := ⟨fun pins s σ H v u Q I r q => h.run pins s σ H v u Q I r (w v σ H Q q)⟩
end

/-! ### expressions -/
section
variable {X : Cx} {a b c e : Expr} {es : List Expr} {pos : Pos} {ta tb tc te : ATE} {tl : ATA} {tt uu : ATT}
theorem ae_var (i : Nat) {x : Str} (h : PE X (.Name x pos) (tVar i)) : AE X (.Name x pos) (varT i) := wkE h fun σ H Q ⟨m, h, a, R, rel, rs, q, lk⟩ => by
  unfold varT at q
  cases hg : gv a i with
  | none =>
    rw [hg] at q
    exact q.elim
  | some x =>
    rw [hg] at q
    obtain ⟨v, h1, h2⟩ := rs.get i x hg
    exact ⟨v, h1, lk _ _ _ _ _ q rel h2 .refl⟩
theorem ae_c {v : V} {x : AV} (h : PE X e (tC v)) (r : ∀ H m, Rep X.K H m v x) : AE X e (cT x) := wkE h fun σ H Q ⟨m, h, a, R, rel, rs, q, lk⟩ => lk _ _ _ _ _ q rel (r _ _) .refl
theorem ae_int {i j} : AE X (.Constant (.int i) j pos) (cT (.int i)) := ae_c pe_int fun _ _ => .int i
theorem ae_bl {i j} : AE X (.Constant (.bool i) j pos) (cT (.bl i)) := ae_c pe_bl fun _ _ => .bl i
theorem ae_non {j} : AE X (.Constant .none j pos) (cT .non) := ae_c pe_non fun _ _ => .non
theorem ae_str {i j} : AE X (.Constant (.str i) j pos) (cT (.str i)) := ae_c pe_str fun _ _ => .str i
theorem lift2 {r : AR2} {σ : L2.St} {H : Hp} {Q : VK} (q : upE X.K (opT r ta tb) σ H Q) : tOp (up2 X.K r) (upE X.K ta) (upE X.K tb) σ H Q := by
  obtain ⟨m, h, a, R, rel, rs, q, lk⟩ := q
  exact ⟨m, h, a, _, rel, rs, q, fun H1 m1 h1 v x q1 rel1 r1 g1 => ⟨m1, h1, a, _, rel1, rs.mono g1, q1, fun H2 m2 h2 w y q2 rel2 r2 g2 => ⟨m2, h2, x, y, R, rel2, r1.mono g2, r2, q2, Lk.on lk (g1.trans g2)⟩⟩⟩
theorem ae_op {op : Operator} {r : AR2} (ho : OpR X (binaryOp op) (up2 X.K r)) (ha : AE X a ta) (hb : AE X b tb) : AE X (.BinOp a op b pos) (opT r ta tb) := wkE (pe_op ho ha hb) fun _ _ _ q => lift2 q
theorem ae_cmp {op : CmpOp} {r : AR2} (ho : OpR X (compareOp op) (up2 X.K r)) (ha : AE X a ta) (hb : AE X b tb) (hm : behindInMarks op b = false) : AE X (.Compare a [op] [b] pos) (opT r ta tb) := wkE (pe_cmpR ho ha hb hm) fun _ _ _ q => lift2 q
theorem at_cmp {op : CmpOp} {r : AR2} (ho : OpR X (compareOp op) (up2 X.K r)) (ha : AE X a ta) (hb : AE X b tb) (hm : behindInMarks op b = false) : ATst X (.Compare a [op] [b] pos) (cmpT (opT r ta tb)) := wkT (pt_cmpR ho ha hb hm) fun σ H Q q => by
  obtain ⟨m, h, a, R, rel, rs, q, lk⟩ := q
  refine lift2 ⟨m, h, a, _, rel, rs, q, fun H1 m1 h1 v x q1 rel1 r1 g1 => ?_⟩
  cases r1 with
  | bl b => exact ⟨b, rfl, lk _ _ _ _ q1 rel1 g1⟩
  | _ => exact (show False from q1).elim
theorem ae_un {op : UnaryOp} {r : AR1} (ho : UnR X (unaryOp op) (up1 X.K r)) (ha : AE X a ta) : AE X (.UnaryOp op a pos) (unT r ta) := wkE (pe_un ho ha) fun σ H Q ⟨m, h, a, R, rel, rs, q, lk⟩ =>
  ⟨m, h, a, _, rel, rs, q, fun H1 m1 h1 v x q1 rel1 r1 g1 => ⟨m1, h1, x, R, rel1, r1, q1, Lk.on lk g1⟩⟩
theorem aa_nil : AA X [] nilT := wkA pa_nil fun σ H Q ⟨m, h, a, R, rel, rs, q, lk⟩ => lk _ _ _ _ _ q rel .nil .refl
theorem aa_cons (ha : AE X e te) (hr : AA X es tl) (hs : starEach (e :: es) X.env = (false, eval e X.env) :: starEach es X.env := by rfl) : AA X (e :: es) (consT te tl) := wkA (pa_cons ha hr hs) fun σ H Q ⟨m, h, a, R, rel, rs, q, lk⟩ =>
  ⟨m, h, a, _, rel, rs, q, fun H1 m1 h1 v x q1 rel1 r1 g1 => ⟨m1, h1, a, _, rel1, rs.mono g1, q1, fun H2 m2 h2 vs xs q2 rel2 r2 g2 => lk _ _ _ _ _ q2 rel2 (.cons (r1.mono g2) r2) (g1.trans g2)⟩⟩
theorem lenLe_le : ∀ {xs : List AV} {n : Nat}, lenLe xs n = true → xs.length ≤ n
  | [], _, _ => Nat.zero_le _
  | _ :: _, 0, h => by cases h
  | _ :: r, n + 1, h => Nat.succ_le_succ (lenLe_le (xs := r) (n := n) h)
theorem line64 : 64 ≤ sizeLine := by rw [sizeLine_eq]; decide
theorem ae_tup {k} (hl : AA X es tl) : AE X (.Tuple es k pos) (tupT tl) := wkE (pe_tup hl) fun σ H Q ⟨m, h, a, R, rel, rs, q, lk⟩ =>
  ⟨m, h, a, _, rel, rs, q, fun H1 m1 h1 vs xs q1 rel1 r1 g1 => ⟨by rw [r1.len]; exact Nat.le_trans (lenLe_le q1.1) line64, fun p hp =>
    lk _ _ _ _ _ q1.2 (rel1.off hp) (.tup (SqT.of upd_same) r1.len fun i v x e1 e2 => (r1.get i v x e1 e2).mono (.off hp)) (g1.trans (.off hp))⟩⟩
theorem ae_lst (hl : AA X es tl) : AE X (.List es pos) (lstT tl) := wkE (pe_lst hl) fun σ H Q ⟨m, h, a, R, rel, rs, q, lk⟩ =>
  ⟨m, h, a, _, rel, rs, q, fun H1 m1 h1 vs xs q1 rel1 r1 g1 => ⟨by rw [r1.len]; exact Nat.le_trans (lenLe_le q1.1) line64, fun p hp =>
    lk _ _ _ _ _ q1.2 (rel1.pushL hp r1) (.ref rel1.last) (g1.trans (.new hp [p]))⟩⟩
/-- calls -/
theorem ae_call {CX : CXT} {k : Nat} {f : Addr} {fd : FuncData} {ps : List Str} {s : ASp} {x : Str} {p : Pos} {E : XK} (F : FnOk X.prog X.w X.K X.mg X.base CX k f fd ps (upSp X.K s)) (hr : Room k X.A) (hg : Gl X x) (hm : X.mg x = some (.ref f))
    (hk : PySem.W.keepIn X.K (.ref f) = true) (hb : Binds X.K fd ps []) (hx : Passes CX X E) (ha : AA X (e :: es) tl) (hdb : (x == ("__debug__" : Str)) = false := by decide)
    (he : starEach (e :: es) X.env = (false, eval e X.env) :: starEach es X.env := by rfl) (hpl : (backTo pos (starEach es X.env)).any (·.1) = false := by rfl) :
    AE X (.Call (.Name x p) (e :: es) [] pos) (callT s (fun _ _ => False) tl) := wkE (pe_call F hr hg hm hk hb .nil hx ha hdb he hpl) fun σ H Q ⟨m, h, a, R, rel, rs, q, lk⟩ =>
  ⟨m, h, a, _, rel, rs, q, fun H1 m1 h1 vs xs q1 rel1 r1 g1 => ⟨m1, h1, xs, R, rel1, by rw [List.append_nil]; exact r1, q1, Lk.on lk g1⟩⟩
theorem ae_call0 {CX : CXT} {k : Nat} {f : Addr} {fd : FuncData} {ps : List Str} {s : ASp} {x : Str} {p : Pos} {E : XK} (F : FnOk X.prog X.w X.K X.mg X.base CX k f fd ps (upSp X.K s)) (hr : Room k X.A) (hg : Gl X x) (hm : X.mg x = some (.ref f))
    (hk : PySem.W.keepIn X.K (.ref f) = true) (hb : Binds X.K fd ps []) (hx : Passes CX X E) (hdb : (x == ("__debug__" : Str)) = false := by decide) :
    AE X (.Call (.Name x p) [] [] pos) (callT s (fun _ _ => False) nilT) := wkE (pe_call0 F hr hg hm hk hb .nil hx hdb) fun σ H Q ⟨m, h, a, R, rel, rs, q, lk⟩ =>
  ⟨m, h, [], R, rel, .nil, q, lk⟩
theorem liftCB {r : ARL} {σ : L2.St} {H : Hp} {Q : VK} (q : upE X.K (cbT r tl) σ H Q) : tCB (upL X.K r) (upA X.K tl) σ H Q := by
  obtain ⟨m, h, a, R, rel, rs, q, lk⟩ := q
  exact ⟨m, h, a, _, rel, rs, q, fun H1 m1 h1 vs xs q1 rel1 r1 g1 => ⟨m1, h1, xs, R, rel1, r1, q1, Lk.on lk g1⟩⟩
theorem ae_callB {id : String} {r : ARL} {x : Str} {p : Pos} (hc : CallR X (.builtin id) (upL X.K r)) (hg : Gl X x) (hm : X.mg x = none) (hv : bootBuiltins x = some (.builtin id)) (ha : AA X (e :: es) tl) (hn : x ≠ "__name__" := by decide) (hdb : (x == ("__debug__" : Str)) = false := by decide)
    (he : starEach (e :: es) X.env = (false, eval e X.env) :: starEach es X.env := by rfl) (hpl : (backTo pos (starEach es X.env)).any (·.1) = false := by rfl) : AE X (.Call (.Name x p) (e :: es) [] pos) (cbT r tl) :=
  wkE (pe_callB hc hg hm hv ha hn hdb he hpl) fun _ _ _ q => liftCB q
theorem ae_callTy {T : String} {r : ARL} {x : Str} {p : Pos} (hc : CallR X (.type T) (upL X.K r)) (hg : Gl X x) (hm : X.mg x = none) (hv : bootBuiltins x = some (.type T)) (ha : AA X (e :: es) tl) (hn : x ≠ "__name__" := by decide) (hdb : (x == ("__debug__" : Str)) = false := by decide)
    (he : starEach (e :: es) X.env = (false, eval e X.env) :: starEach es X.env := by rfl) (hpl : (backTo pos (starEach es X.env)).any (·.1) = false := by rfl) : AE X (.Call (.Name x p) (e :: es) [] pos) (cbT r tl) :=
  wkE (pe_callTy hc hg hm hv ha hn hdb he hpl) fun _ _ _ q => liftCB q
theorem ae_callBfun {id : String} {r : ARL} {x : Str} {p : Pos} (hc : CallR X (.builtin id) (upL X.K r)) (hg : Gl X x) (hm : X.mg x = some (.builtin id)) (ha : AA X (e :: es) tl) (hdb : (x == ("__debug__" : Str)) = false := by decide)
    (he : starEach (e :: es) X.env = (false, eval e X.env) :: starEach es X.env := by rfl) (hpl : (backTo pos (starEach es X.env)).any (·.1) = false := by rfl) : AE X (.Call (.Name x p) (e :: es) [] pos) (cbT r tl) :=
  wkE (pe_callBfun hc hg hm ha hdb he hpl) fun _ _ _ q => liftCB q
/-- a type's name as a value -/
theorem ae_ty {x : Str} {T : String} (hg : Gl X x) (hm : X.mg x = none) (hv : bootBuiltins x = some (.type T)) (hn : x ≠ "__name__" := by decide) (hd : (x == ("__debug__" : Str)) = false := by decide) : AE X (.Name x pos) (cT (.ty T)) :=
  ae_c (pe_bltn (v := .ty T) hg hm hv rfl hn hd) fun _ _ => .ty T
/-- a[b] -/
theorem ae_ix {r : AR2} (hr : IxR X (up2 X.K r)) (ha : AE X a ta) (hb : AE X b tb) (hs : PlainIx b) : AE X (.Subscript a b pos) (opT r ta tb) := wkE (pe_ix hr ha hb hs) fun _ _ _ q => lift2 q
/-- tests -/
theorem at_tru (hr : TruR X (upB X.K truR)) (ha : AE X a ta) (he : ∀ whole, isTrue a X.env whole = (do let v ← whole; standAt a.pos; holding [v] (truthy v)) := by intro _; rfl) : ATst X a (truT ta) := by
  refine ⟨fun pins s σ H Q I h => ?_⟩
  refine isTrue_plain (thn (ha.run pins s σ H (fun x H1 => upB X.K truR x H1 Q) I ?_) fun v s1 ⟨x, H1, I1, r1, q1⟩ => hr pins s1 σ H1 x v Q I1 r1 q1) (he _)
  obtain ⟨m, h, a, R, rel, rs, q, lk⟩ := h
  exact ⟨m, h, a, _, rel, rs, q, fun H1 m1 h1 v x q1 rel1 r1 g1 => ⟨m1, h1, x, R, rel1, r1, q1, LkB.on lk g1⟩⟩
theorem up_and {σ : L2.St} {H : Hp} {Q : Bool → Hp → Prop} (q : upT X.K (andT tt uu) σ H Q) : tAnd (upT X.K tt) (upT X.K uu) σ H Q := by
  obtain ⟨m, h, a, R, rel, rs, q, lk⟩ := q
  refine ⟨m, h, a, _, rel, rs, q, fun H1 m1 h1 b q1 rel1 g1 => ?_⟩
  cases b with
  | true =>
    rw [if_pos rfl] at q1 ⊢
    exact ⟨m1, h1, a, R, rel1, rs.mono g1, q1, LkB.on lk g1⟩
  | false =>
    rw [if_neg Bool.false_ne_true] at q1 ⊢
    exact lk _ _ _ _ q1 rel1 g1
theorem up_or {σ : L2.St} {H : Hp} {Q : Bool → Hp → Prop} (q : upT X.K (orT tt uu) σ H Q) : tOr (upT X.K tt) (upT X.K uu) σ H Q := by
  obtain ⟨m, h, a, R, rel, rs, q, lk⟩ := q
  refine ⟨m, h, a, _, rel, rs, q, fun H1 m1 h1 b q1 rel1 g1 => ?_⟩
  cases b with
  | true =>
    rw [if_pos rfl] at q1 ⊢
    exact lk _ _ _ _ q1 rel1 g1
  | false =>
    rw [if_neg Bool.false_ne_true] at q1 ⊢
    exact ⟨m1, h1, a, R, rel1, rs.mono g1, q1, LkB.on lk g1⟩
/-- and, or as tests: the last one, one ahead -/
theorem aw_and1 (ha : ATst X a tt) : PW X (.BoolOp .And [a] pos) (upT X.K tt) := pw_and1 ha
theorem aw_or1 (ha : ATst X a tt) : PW X (.BoolOp .Or [a] pos) (upT X.K tt) := pw_or1 ha
theorem aw_and {rest : List Expr} (ha : ATst X a tt) (hb : PW X (.BoolOp .And (b :: rest) pos) (upT X.K uu)) : PW X (.BoolOp .And (a :: b :: rest) pos) (upT X.K (andT tt uu)) := wkW (pw_and ha hb) fun _ _ _ q => up_and q
theorem aw_or {rest : List Expr} (ha : ATst X a tt) (hb : PW X (.BoolOp .Or (b :: rest) pos) (upT X.K uu)) : PW X (.BoolOp .Or (a :: b :: rest) pos) (upT X.K (orT tt uu)) := wkW (pw_or ha hb) fun _ _ _ q => up_or q
theorem at_w (h : PW X e (upT X.K tt)) : ATst X e tt := h.pt
theorem at_not (ha : ATst X a tt) : ATst X (.UnaryOp .Not a pos) (notT tt) := wkT (pt_not ha) fun σ H Q ⟨m, h, a, R, rel, rs, q, lk⟩ =>
  ⟨m, h, a, _, rel, rs, q, fun H1 m1 h1 b q1 rel1 g1 => lk _ _ _ _ q1 rel1 g1⟩
theorem bl_inv {H : Hp} {m : List Addr} {v : V} {x : AV} {h : AH} {R : Bool → AH → Prop} (r : Rep X.K H m v x) (q : blR x h R) : ∃ b, v = .bl b ∧ x = .bl b ∧ R b h := by
  cases r with
  | bl b => exact ⟨b, rfl, rfl, q⟩
  | _ => exact (show False from q).elim
theorem ae_one {op} (h : AE X a ta) : AE X (.BoolOp op [a] pos) ta := pe_one h
theorem ae_and {rest : List Expr} (ha : AE X a ta) (hb : AE X (.BoolOp .And (b :: rest) pos) tb) : AE X (.BoolOp .And (a :: b :: rest) pos) (andV ta tb) := wkE (pe_and ha hb) fun σ H Q ⟨m, h, a, R, rel, rs, q, lk⟩ => by
  refine ⟨m, h, a, _, rel, rs, q, fun H1 m1 h1 v x q1 rel1 r1 g1 => ?_⟩
  obtain ⟨c, rfl, rfl, q2⟩ := bl_inv r1 q1
  replace q1 := q2
  refine ⟨c, rfl, ?_⟩
  cases c with
  | true =>
    rw [if_pos rfl] at q1 ⊢
    exact ⟨m1, h1, a, R, rel1, rs.mono g1, q1, Lk.on lk g1⟩
  | false =>
    rw [if_neg Bool.false_ne_true] at q1 ⊢
    exact lk _ _ _ _ _ q1 rel1 (.bl false) g1
theorem ae_or {rest : List Expr} (ha : AE X a ta) (hb : AE X (.BoolOp .Or (b :: rest) pos) tb) : AE X (.BoolOp .Or (a :: b :: rest) pos) (orV ta tb) := wkE (pe_or ha hb) fun σ H Q ⟨m, h, a, R, rel, rs, q, lk⟩ => by
  refine ⟨m, h, a, _, rel, rs, q, fun H1 m1 h1 v x q1 rel1 r1 g1 => ?_⟩
  obtain ⟨c, rfl, rfl, q2⟩ := bl_inv r1 q1
  replace q1 := q2
  refine ⟨c, rfl, ?_⟩
  cases c with
  | true =>
    rw [if_pos rfl] at q1 ⊢
    exact lk _ _ _ _ _ q1 rel1 (.bl true) g1
  | false =>
    rw [if_neg Bool.false_ne_true] at q1 ⊢
    exact ⟨m1, h1, a, R, rel1, rs.mono g1, q1, Lk.on lk g1⟩
theorem ae_not (ha : AE X a ta) : AE X (.UnaryOp .Not a pos) (notV ta) := wkE (pe_not ha) fun σ H Q ⟨m, h, a, R, rel, rs, q, lk⟩ => by
  refine ⟨m, h, a, _, rel, rs, q, fun H1 m1 h1 v x q1 rel1 r1 g1 => ?_⟩
  obtain ⟨c, rfl, rfl, q2⟩ := bl_inv r1 q1
  replace q1 := q2
  exact ⟨c, rfl, lk _ _ _ _ _ q1 rel1 (.bl _) g1⟩
theorem ae_ifExp (hc : ATst X c tt) (ha : AE X a ta) (hb : AE X b tb) : AE X (.IfExp c a b pos) (ifT tt ta tb) := wkE (pe_ifExp hc ha hb) fun σ H Q ⟨m, h, a, R, rel, rs, q, lk⟩ => by
  refine ⟨m, h, a, _, rel, rs, q, fun H1 m1 h1 b q1 rel1 g1 => ?_⟩
  cases b with
  | true =>
    rw [if_pos rfl] at q1 ⊢
    exact ⟨m1, h1, a, R, rel1, rs.mono g1, q1, Lk.on lk g1⟩
  | false =>
    rw [if_neg Bool.false_ne_true] at q1 ⊢
    exact ⟨m1, h1, a, R, rel1, rs.mono g1, q1, Lk.on lk g1⟩
end
end AL

/-! AL2: the operators, subscripts, stores, built-ins and methods by plain values. -/
namespace AL
open PySem PySem.Spec PyProof.Rows L2
theorem line : (sizeLine : Nat) = 16777216 := sizeLine_eq
section
variable {X : Cx}
/-- a result that is no object -/
theorem fin0 {K : PySem.W.Frag} {H : Hp} {m : List Addr} {h : AH} {R : AK} {Q : VK} {v : V} {x : AV} (rel : Rel K H m h) (lk : Lk K H m R Q) (q : R x h) (r : Rep K H m v x) : Q v H := lk _ _ _ _ _ q rel r .refl
theorem addR_ref {n k : Nat} {h : AH} {R : AK} (q : addR (.ref n) (.ref k) h R) : ∃ xs ys, h[n]? = some (.lst xs) ∧ h[k]? = some (.lst ys) ∧ xs.length + ys.length ≤ 16777216 ∧ R (.ref h.length) (h ++ [.lst (xs ++ ys)]) := by
  simp only [addR] at q
  split at q
  · rename_i xs ys e1 e2
    exact ⟨xs, ys, e1, e2, q.1, q.2⟩
  · exact q.elim
theorem op_addA : OpR X (binaryOp .Add) (up2 X.K addR) := by
  intro pins s σ H x y v u Q I rx ry ⟨m, h, ax, ay, R, rel, r1, r2, q, lk⟩
  cases ax with
  | int i =>
    cases r1
    cases ay with
    | int j =>
      cases r2
      exact op_add pins s σ H _ _ v u Q I rx ry ⟨i, j, rfl, rfl, fin0 rel lk q (.int _)⟩
    | bl j =>
      cases r2
      refine op_add_ib pins s σ H _ _ v u Q I rx ry ⟨i, j, rfl, rfl, ?_⟩
      have e : b2i j = if j then 1 else 0 := by cases j <;> rfl
      rw [e]
      exact fin0 rel lk q (.int _)
    | _ => exact (show False from q).elim
  | str a =>
    cases r1
    cases ay with
    | str b =>
      cases r2
      obtain ⟨q1, q2⟩ := q
      exact op_add_str pins s σ H _ _ v u Q I rx ry ⟨a, b, rfl, rfl, by rw [line]; exact q1, fin0 rel lk q2 (.str _)⟩
    | _ => exact (show False from q).elim
  | tup xs =>
    cases ay with
    | tup ys =>
      obtain ⟨q1, q2⟩ := q
      obtain ⟨p, vs, rfl, hp, rp⟩ := r1.tup_inv
      obtain ⟨p', ws, rfl, hp', rp'⟩ := r2.tup_inv
      refine op_catA pins s σ H _ _ v u Q I rx ry ⟨p, p', vs, ws, rfl, rfl, hp, hp', by rw [rp.len, rp'.len, line]; exact q1, fun e => ?_, fun _ e => ?_, fun _ _ b hb => ?_⟩
      · subst e
        have := rp.len
        have e2 : xs = [] := by simpa using this.symm
        subst e2
        exact fin0 rel lk q2 (.tup hp' rp'.len rp'.get)
      · subst e
        have := rp'.len
        have e2 : ys = [] := by simpa using this.symm
        subst e2
        rw [List.append_nil] at q2
        exact fin0 rel lk q2 (.tup hp rp.len rp.get)
      · exact lk _ _ _ _ _ q2 (rel.off hb) (RepL.tup (SqT.of upd_same) ((rp.append rp').mono (.off hb))) (.off hb)
    | _ => exact (show False from q).elim
  | ref n =>
    cases ay with
    | ref k =>
      obtain ⟨xs, ys, e1, e2, q1, q2⟩ := addR_ref q
      obtain ⟨p, vs, rfl, _, hp, rp⟩ := rel.lst r1 e1
      obtain ⟨p', ws, rfl, _, hp', rp'⟩ := rel.lst r2 e2
      refine op_cat pins s σ H _ _ v u Q I rx ry ⟨p, p', vs, ws, rfl, rfl, hp, hp', by rw [rp.len, rp'.len, line]; exact q1, fun b hb => ?_⟩
      exact lk _ _ _ _ _ q2 (rel.pushL hb (rp.append rp')) (.ref rel.last) (.new hb [b])
    | _ => exact (show False from q).elim
  | _ => exact (show False from q).elim
/-- two ints in, a value out -/
theorem op_intsA {f : Value → Value → Sem Value} {r : AR2} {C : Int → Int → Prop} {g : Int → Int → V} {ga : Int → Int → AV} (ho : OpR X f (rI C g)) (hi : ∀ i j h R, r (.int i) (.int j) h R → C i j ∧ R (ga i j) h) (hn : ∀ x y h R, r x y h R → ∃ i j, x = .int i ∧ y = .int j)
    (hg : ∀ i j H m, Rep X.K H m (g i j) (ga i j)) : OpR X f (up2 X.K r) := by
  intro pins s σ H x y v u Q I rx ry ⟨m, h, ax, ay, R, rel, r1, r2, q, lk⟩
  obtain ⟨i, j, rfl, rfl⟩ := hn _ _ _ _ q
  obtain ⟨c, q⟩ := hi _ _ _ _ q
  cases r1
  cases r2
  exact ho pins s σ H _ _ v u Q I rx ry ⟨i, j, rfl, rfl, c, fin0 rel lk q (hg _ _ _ _)⟩
theorem op_ints0 {f : Value → Value → Sem Value} {r : AR2} {g : Int → Int → V} {ga : Int → Int → AV} (ho : OpR X f (rI0 g)) (hi : ∀ i j h R, r (.int i) (.int j) h R → R (ga i j) h) (hn : ∀ x y h R, r x y h R → ∃ i j, x = .int i ∧ y = .int j)
    (hg : ∀ i j H m, Rep X.K H m (g i j) (ga i j)) : OpR X f (up2 X.K r) := by
  intro pins s σ H x y v u Q I rx ry ⟨m, h, ax, ay, R, rel, r1, r2, q, lk⟩
  obtain ⟨i, j, rfl, rfl⟩ := hn _ _ _ _ q
  have q := hi _ _ _ _ q
  cases r1
  cases r2
  exact ho pins s σ H _ _ v u Q I rx ry ⟨i, j, rfl, rfl, fin0 rel lk q (hg _ _ _ _)⟩
theorem two_ints {r : AR2} (h : ∀ x y h R, r x y h R → match x, y with
    | .int _, .int _ => True
    | _, _ => False) : ∀ x y h R, r x y h R → ∃ i j, x = .int i ∧ y = .int j := fun x y hh R q => by
  have z := h x y hh R q
  cases x <;> cases y <;> first | exact ⟨_, _, rfl, rfl⟩ | exact (show False from z).elim
theorem op_subA : OpR X (binaryOp .Sub) (up2 X.K subR) := op_ints0 op_sub (fun _ _ _ _ q => q) (two_ints fun x y _ _ q => by cases x <;> cases y <;> first | trivial | exact q) fun _ _ _ _ => .int _
theorem op_mulB : OpR X (binaryOp .Mult) (rI mulOk fun i j => .int (i * j)) := by
  intro pins s σ H x y v u Q I rx ry ⟨i, j, e1, e2, c, q⟩
  rcases c with c | c
  · exact op_mul pins s σ H x y v u Q I rx ry ⟨i, j, e1, e2, c, q⟩
  · exact op_mulW pins s σ H x y v u Q I rx ry ⟨i, j, e1, e2, c, q⟩
theorem op_mulA : OpR X (binaryOp .Mult) (up2 X.K mulR) := op_intsA op_mulB (fun _ _ _ _ q => q) (two_ints fun x y _ _ q => by cases x <;> cases y <;> first | trivial | exact q) fun _ _ _ _ => .int _
theorem op_fdivA : OpR X (binaryOp .FloorDiv) (up2 X.K fdivR) := op_intsA op_fdivW (fun _ _ _ _ q => q) (two_ints fun x y _ _ q => by cases x <;> cases y <;> first | trivial | exact q) fun _ _ _ _ => .int _
theorem op_modA : OpR X (binaryOp .Mod) (up2 X.K modR) := op_intsA op_mod (fun _ _ _ _ q => q) (two_ints fun x y _ _ q => by cases x <;> cases y <;> first | trivial | exact q) fun _ _ _ _ => .int _
theorem op_powA : OpR X (binaryOp .Pow) (up2 X.K powR) := op_intsA op_pow (fun _ _ _ _ q => q) (two_ints fun x y _ _ q => by cases x <;> cases y <;> first | trivial | exact q) fun _ _ _ _ => .int _
theorem op_shlA : OpR X (binaryOp .LShift) (up2 X.K shlR) := op_intsA op_shl (fun _ _ _ _ q => q) (two_ints fun x y _ _ q => by cases x <;> cases y <;> first | trivial | exact q) fun _ _ _ _ => .int _
theorem op_leA : OpR X (compareOp .LtE) (up2 X.K leR) := op_ints0 op_le (fun _ _ _ _ q => q) (two_ints fun x y _ _ q => by cases x <;> cases y <;> first | trivial | exact q) fun _ _ _ _ => .bl _
theorem op_gtA : OpR X (compareOp .Gt) (up2 X.K gtR) := op_ints0 op_gt (fun _ _ _ _ q => q) (two_ints fun x y _ _ q => by cases x <;> cases y <;> first | trivial | exact q) fun _ _ _ _ => .bl _
theorem op_geA : OpR X (compareOp .GtE) (up2 X.K geR) := op_ints0 op_ge (fun _ _ _ _ q => q) (two_ints fun x y _ _ q => by cases x <;> cases y <;> first | trivial | exact q) fun _ _ _ _ => .bl _
theorem op_ltA : OpR X (compareOp .Lt) (up2 X.K ltR) := by
  intro pins s σ H x y v u Q I rx ry ⟨m, h, ax, ay, R, rel, r1, r2, q, lk⟩
  cases ax with
  | int i =>
    cases r1
    cases ay with
    | int j =>
      cases r2
      exact op_lt pins s σ H _ _ v u Q I rx ry ⟨i, j, rfl, rfl, fin0 rel lk q (.bl _)⟩
    | _ => exact (show False from q).elim
  | str a =>
    cases r1
    cases ay with
    | str b =>
      cases r2
      exact op_lt_str pins s σ H _ _ v u Q I rx ry ⟨a, b, rfl, rfl, fin0 rel lk q (.bl _)⟩
    | _ => exact (show False from q).elim
  | _ => exact (show False from q).elim
theorem un_negA : UnR X (unaryOp .USub) (up1 X.K negR) := by
  intro pins s σ H x v Q I rx ⟨m, h, ax, R, rel, r1, q, lk⟩
  cases ax with
  | int i =>
    cases r1
    exact un_neg pins s σ H _ v Q I rx ⟨i, rfl, fin0 rel lk q (.int _)⟩
  | _ => exact (show False from q).elim
theorem isNon_eq {K : PySem.W.Frag} {H : Hp} {m : List Addr} {v : V} {x : AV} (r : Rep K H m v x) : decide (v = .non) = isNon x := by
  cases r <;> first | rfl | exact decide_eq_false (fun z => nomatch z)
theorem op_isNA : OpR X (compareOp .Is) (up2 X.K isNR) := by
  intro pins s σ H x y v u Q I rx ry ⟨m, h, ax, ay, R, rel, r1, r2, q, lk⟩
  cases ay with
  | non =>
    cases r2
    refine op_isN pins s σ H _ _ v u Q I rx ry ⟨rfl, ?_⟩
    rw [isNon_eq r1]
    exact fin0 rel lk (show R (.bl (isNon ax)) h by cases ax <;> exact q) (.bl _)
  | _ => exact (show False by cases ax <;> exact q).elim
theorem op_notNA : OpR X (compareOp .IsNot) (up2 X.K notNR) := by
  intro pins s σ H x y v u Q I rx ry ⟨m, h, ax, ay, R, rel, r1, r2, q, lk⟩
  cases ay with
  | non =>
    cases r2
    refine op_notN pins s σ H _ _ v u Q I rx ry ⟨rfl, ?_⟩
    rw [isNon_eq r1]
    exact fin0 rel lk (show R (.bl (!isNon ax)) h by cases ax <;> exact q) (.bl _)
  | _ => exact (show False by cases ax <;> exact q).elim

/-! ### == of data -/
mutual
def toPy : AV → PyData
  | .bl b => .bool b
  | .int i => .int i
  | .str x => .str x
  | .tup xs => .tuple (toPys xs)
  | _ => .none
def toPys : List AV → List PyData
  | [] => []
  | x :: r => toPy x :: toPys r
end
theorem plain_tup {n : Nat} {xs : List AV} (h : plainN (n + 1) (.tup xs) = true) : ∀ x ∈ xs, plainN n x = true := by
  unfold plainN at h
  exact List.all_eq_true.mp h
theorem dp_all {K : PySem.W.Frag} {H : Hp} {m : List Addr} {n : Nat} (ih : ∀ (x : AV) (v : V), plainN n x = true → Rep K H m v x → Dp K H v (toPy x)) : ∀ (xs : List AV) (vs : List V), RepL K H m vs xs → (∀ x ∈ xs, plainN n x = true) → DpAll K H vs (toPys xs)
  | [], vs, r, _ => by
    rw [r.nil_inv]
    unfold toPys
    exact .nil
  | x :: xs, vs, r, hs => by
    obtain ⟨w, ws, rfl, r1, r2⟩ := r.cons_inv
    unfold toPys
    exact .cons (ih x w (hs x List.mem_cons_self) r1) (dp_all ih xs ws r2 fun y hy => hs y (List.mem_cons_of_mem _ hy))
theorem dp_of {K : PySem.W.Frag} {H : Hp} {m : List Addr} (n : Nat) : ∀ (x : AV) (v : V), plainN n x = true → Rep K H m v x → Dp K H v (toPy x) := by
  induction n with
  | zero =>
    intro x v h r
    cases r with
    | non => unfold toPy; exact .non
    | bl b => unfold toPy; exact .bl b
    | int b => unfold toPy; exact .int b
    | str b => unfold toPy; exact .str b
    | _ => exact absurd (show false = true from h) (by decide)
  | succ n ih =>
    intro x v h r
    cases r with
    | tup hs hl hg =>
      unfold toPy
      exact .tup hs (dp_all ih _ _ ⟨hl, hg⟩ (plain_tup h))
    | non => unfold toPy; exact .non
    | bl b => unfold toPy; exact .bl b
    | int b => unfold toPy; exact .int b
    | str b => unfold toPy; exact .str b
    | _ => exact absurd (show false = true from h) (by decide)
theorem lay_all {n : Nat} (ih : ∀ x : AV, plainN n x = true → (toPy x).canLay0 = true ∧ (toPy x).depth ≤ n) : ∀ xs : List AV, (∀ x ∈ xs, plainN n x = true) → PyData.canLayAll0 (toPys xs) = true ∧ PyData.depthAll (toPys xs) ≤ n
  | [], _ => by
    unfold toPys PyData.canLayAll0 PyData.depthAll
    exact ⟨rfl, Nat.zero_le _⟩
  | x :: xs, hs => by
    obtain ⟨h1, h2⟩ := ih x (hs x List.mem_cons_self)
    obtain ⟨h3, h4⟩ := lay_all ih xs fun y hy => hs y (List.mem_cons_of_mem _ hy)
    unfold toPys PyData.canLayAll0 PyData.depthAll
    rw [h1, h3]
    exact ⟨rfl, Nat.max_le.mpr ⟨h2, h4⟩⟩
theorem lay_of (n : Nat) : ∀ x : AV, plainN n x = true → (toPy x).canLay0 = true ∧ (toPy x).depth ≤ n := by
  induction n with
  | zero =>
    intro x h
    cases x with
    | non => unfold toPy PyData.canLay0 PyData.depth; exact ⟨rfl, Nat.le_refl _⟩
    | bl b => unfold toPy PyData.canLay0 PyData.depth; exact ⟨rfl, Nat.le_refl _⟩
    | int b => unfold toPy PyData.canLay0 PyData.depth; exact ⟨rfl, Nat.le_refl _⟩
    | str b => unfold toPy PyData.canLay0 PyData.depth; exact ⟨h, Nat.le_refl _⟩
    | _ => exact absurd (show false = true from h) (by decide)
  | succ n ih =>
    intro x h
    cases x with
    | tup xs =>
      obtain ⟨h1, h2⟩ := lay_all ih xs (plain_tup h)
      unfold toPy PyData.canLay0 PyData.depth
      exact ⟨h1, Nat.succ_le_succ h2⟩
    | non => unfold toPy PyData.canLay0 PyData.depth; exact ⟨rfl, Nat.zero_le _⟩
    | bl b => unfold toPy PyData.canLay0 PyData.depth; exact ⟨rfl, Nat.zero_le _⟩
    | int b => unfold toPy PyData.canLay0 PyData.depth; exact ⟨rfl, Nat.zero_le _⟩
    | str b => unfold toPy PyData.canLay0 PyData.depth; exact ⟨h, Nat.zero_le _⟩
    | _ => exact absurd (show false = true from h) (by decide)
theorem shaped_of {n : Nat} {x : AV} (hn : n ≤ 64) (h : plainN n x = true) : SeqAt.shaped (toPy x) = true := by
  obtain ⟨h1, h2⟩ := lay_of n x h
  unfold SeqAt.shaped
  rw [h1, decide_eq_true (Nat.le_trans h2 hn)]
  rfl
theorem eqv_all {n : Nat} (ih : ∀ x y : AV, plainN n x = true → plainN n y = true → PyData.eqv (toPy x) (toPy y) = aeq x y) : ∀ xs ys : List AV, (∀ x ∈ xs, plainN n x = true) → (∀ x ∈ ys, plainN n x = true) → PyData.eqvAll (toPys xs) (toPys ys) = aeqs xs ys
  | [], [], _, _ => by simp [toPys, PyData.eqvAll, aeqs]
  | [], y :: ys, _, _ => by simp [toPys, PyData.eqvAll, aeqs]
  | x :: xs, [], _, _ => by simp [toPys, PyData.eqvAll, aeqs]
  | x :: xs, y :: ys, h1, h2 => by
    have e1 := ih x y (h1 x List.mem_cons_self) (h2 y List.mem_cons_self)
    have e2 := eqv_all ih xs ys (fun z hz => h1 z (List.mem_cons_of_mem _ hz)) (fun z hz => h2 z (List.mem_cons_of_mem _ hz))
    simp only [toPys, PyData.eqvAll, aeqs, e1, e2]
theorem eqv_of (n : Nat) : ∀ x y : AV, plainN n x = true → plainN n y = true → PyData.eqv (toPy x) (toPy y) = aeq x y := by
  induction n with
  | zero =>
    intro x y h1 h2
    cases x <;> cases y <;> first | (exact absurd (show false = true from h1) (by decide)) | (exact absurd (show false = true from h2) (by decide)) | simp only [toPy, PyData.eqv, aeq]
  | succ n ih =>
    intro x y h1 h2
    cases x <;> cases y <;> first | (exact absurd (show false = true from h1) (by decide)) | (exact absurd (show false = true from h2) (by decide)) | (simp only [toPy, PyData.eqv, aeq]; done) | simp only [toPy, PyData.eqv, aeq]
    exact eqv_all ih _ _ (plain_tup h1) (plain_tup h2)
theorem op_eqA (hu : X.A.units + 64 < cLine) : OpR X (compareOp .Eq) (up2 X.K eqR) := by
  intro pins s σ H x y v u Q I rx ry ⟨m, h, ax, ay, R, rel, r1, r2, ⟨p1, p2, q⟩, lk⟩
  refine op_eqD hu pins s σ H _ _ v u Q I rx ry ⟨toPy ax, toPy ay, dp_of 40 _ _ p1 r1, dp_of 40 _ _ p2 r2, shaped_of (by decide) p1, shaped_of (by decide) p2, ?_⟩
  rw [eqv_of 40 _ _ p1 p2]
  exact fin0 rel lk q (.bl _)
theorem op_neA (hu : X.A.units + 64 < cLine) : OpR X (compareOp .NotEq) (up2 X.K neR) := by
  intro pins s σ H x y v u Q I rx ry ⟨m, h, ax, ay, R, rel, r1, r2, ⟨p1, p2, q⟩, lk⟩
  refine op_neD hu pins s σ H _ _ v u Q I rx ry ⟨toPy ax, toPy ay, dp_of 40 _ _ p1 r1, dp_of 40 _ _ p2 r2, shaped_of (by decide) p1, shaped_of (by decide) p2, ?_⟩
  rw [eqv_of 40 _ _ p1 p2]
  exact fin0 rel lk q (.bl _)

/-! ### items -/
theorem atI_of {α : Type} {xs : List α} {i : Int} {v : α} (h : atA xs i = some v) : atI xs i = some v := by
  cases i with
  | ofNat k => exact atI_nat (j := k) h
  | negSucc k =>
    have h : (if k < xs.length then xs[xs.length - 1 - k]? else none) = some v := h
    by_cases hk : k < xs.length
    · rw [if_pos hk] at h
      have e : ixN xs.length (Int.negSucc k) = some (xs.length - 1 - k) := by
        unfold ixN
        rw [if_neg (by omega), if_pos (by omega)]
        congr 1
        omega
      unfold atI
      rw [e]
      exact h
    · rw [if_neg hk] at h
      cases h
theorem atA_rep {K : PySem.W.Frag} {H : Hp} {m : List Addr} {vs : List V} {xs : List AV} {i : Int} {x : AV} (r : RepL K H m vs xs) (h : atA xs i = some x) : ∃ v, atI vs i = some v ∧ Rep K H m v x := by
  cases i with
  | ofNat k =>
    obtain ⟨v, h1, h2⟩ := r.at (i := k) h
    exact ⟨v, atI_nat (j := k) h1, h2⟩
  | negSucc k =>
    have h : (if k < xs.length then xs[xs.length - 1 - k]? else none) = some x := h
    by_cases hk : k < xs.length
    · rw [if_pos hk] at h
      obtain ⟨v, h1, h2⟩ := r.at h
      refine ⟨v, atI_of (i := Int.negSucc k) ?_, h2⟩
      show (if k < vs.length then vs[vs.length - 1 - k]? else none) = some v
      rw [r.len, if_pos hk]
      exact h1
    · rw [if_neg hk] at h
      cases h
theorem kvGet_rep {K : PySem.W.Frag} {H : Hp} {m : List Addr} (k : Key) : ∀ {vs : List (Key × V)} {xs : List (Sum Int Str × AV)}, vs.map (·.1) = xs.map (·.1) → RepL K H m (vs.map (·.2)) (xs.map (·.2)) →
    (valV vs k = none ∧ kvGet xs k = none) ∨ ∃ v x, valV vs k = some v ∧ kvGet xs k = some x ∧ Rep K H m v x
  | [], [], _, _ => .inl ⟨rfl, rfl⟩
  | [], _ :: _, h, _ => by simp at h
  | _ :: _, [], h, _ => by simp at h
  | (k1, v) :: vs, (k2, x) :: xs, h, r => by
    simp only [List.map_cons, List.cons.injEq] at h r
    obtain ⟨rfl, h⟩ := h
    obtain ⟨w, ws, e, r1, r2⟩ := r.cons_inv
    simp only [List.cons.injEq] at e
    obtain ⟨rfl, rfl⟩ := e
    have ih := kvGet_rep k h r2
    by_cases e : k1 = k
    · exact .inr ⟨v, x, valV_pos (p := (k1, v)) e, by simp [kvGet, List.find?_cons, e], r1⟩
    · rw [valV_neg (p := (k1, v)) e]
      have e2 : kvGet ((k1, x) :: xs) k = kvGet xs k := by simp [kvGet, List.find?_cons, e]
      rw [e2]
      exact ih
theorem ixL_inv {n : Nat} {k : AV} {h : AH} {R : AK} (q : ixR (.ref n) k h R) : (∃ xs i v, h[n]? = some (.lst xs) ∧ k = .int i ∧ atA xs i = some v ∧ R v h) ∨ ∃ kvs key v, h[n]? = some (.dct kvs) ∧ keyOf k = some key ∧ kvGet kvs key = some v ∧ R v h := by
  simp only [ixR] at q
  split at q
  · rename_i xs e
    split at q
    · rename_i i
      split at q
      · rename_i v e2
        exact .inl ⟨xs, i, v, e, rfl, e2, q⟩
      · exact q.elim
    · exact q.elim
  · rename_i kvs e
    split at q
    · rename_i key e1
      split at q
      · rename_i v e2
        exact .inr ⟨kvs, key, v, e, e1, e2, q⟩
      · exact q.elim
    · exact q.elim
  · exact q.elim
theorem ixT_inv {xs : List AV} {i : Int} {h : AH} {R : AK} (q : ixR (.tup xs) (.int i) h R) : ∃ v, atA xs i = some v ∧ R v h := by
  simp only [ixR] at q
  split at q
  · rename_i v e
    exact ⟨v, e, q⟩
  · exact q.elim
theorem ixRo_inv {xs : List AV} {i : Int} {h : AH} {R : AK} (q : ixR (.rol xs) (.int i) h R) : ∃ v, atA xs i = some v ∧ R v h := by
  simp only [ixR] at q
  split at q
  · rename_i v e
    exact ⟨v, e, q⟩
  · exact q.elim
theorem ixS_inv {z : Str} {i : Int} {h : AH} {R : AK} (q : ixR (.str z) (.int i) h R) : z.length ≤ 16777216 ∧ ∃ c, atA z.cps.toList i = some c ∧ R (.str ⟨#[c]⟩) h := by
  simp only [ixR] at q
  obtain ⟨q1, q⟩ := q
  split at q
  · rename_i v e
    exact ⟨q1, v, e, q⟩
  · exact q.elim
theorem key_rep {K : PySem.W.Frag} {H : Hp} {m : List Addr} {v : V} {x : AV} {k : Key} (r : Rep K H m v x) (e : keyOf x = some k) : v = kV k := by
  cases r with
  | int i => cases e; rfl
  | str i => cases e; rfl
  | _ => cases e
theorem ix_dict (hu : X.A.units + 1 < cLine) : IxR X (fun x y H Q => ∃ a v, x = V.ref a ∧ DGet H a y (some v) ∧ Q v H) := by
  intro value slice pins s σ H x y v u Q I rx ry ⟨a, w, ex, g, q⟩ hs
  subst ex
  obtain rfl : v = Value.ref a := rx
  exact tail_any (dict_typeIs I g) PySem.F.slot_dict_getitem.lookup (d_getItem (by omega) I g ry fun w' s3 I3 rw' => ⟨w, H, I3, rw', q⟩) hs
theorem ix_A (hu : X.A.units + 1 < cLine) : IxR X (up2 X.K ixR) := by
  intro value slice pins s σ H x y v u Q I rx ry ⟨m, h, ax, ay, R, rel, r1, r2, q, lk⟩ hs
  cases ax with
  | tup xs =>
    cases ay with
    | int i =>
      cases r2
      obtain ⟨z, e, q⟩ := ixT_inv q
      obtain ⟨p, vs, rfl, hp, rp⟩ := r1.tup_inv
      obtain ⟨w, e2, r3⟩ := atA_rep rp e
      exact ix_tup value slice pins s σ H _ _ v u Q I rx ry ⟨p, vs, i, w, rfl, rfl, hp, e2, fin0 rel lk q r3⟩ hs
    | _ => exact (show False from q).elim
  | rol xs =>
    cases ay with
    | int i =>
      cases r2
      obtain ⟨z, e, q⟩ := ixRo_inv q
      obtain ⟨p, vs, rfl, hp, rp⟩ := r1.rol_inv
      obtain ⟨w, e2, r3⟩ := atA_rep rp e
      exact ix_list value slice pins s σ H _ _ v u Q I rx ry ⟨p, vs, i, w, rfl, rfl, hp.sq, e2, fin0 rel lk q r3⟩ hs
    | _ => exact (show False from q).elim
  | str z =>
    cases r1
    cases ay with
    | int i =>
      cases r2
      obtain ⟨hz, c, e, q⟩ := ixS_inv q
      exact ix_str value slice pins s σ H _ _ v u Q I rx ry ⟨z, i, c, rfl, rfl, by rw [line]; exact hz, atI_of e, fin0 rel lk q (.str _)⟩ hs
    | _ => exact (show False from q).elim
  | ref n =>
    rcases ixL_inv q with ⟨xs, i, z, e, rfl, e1, q⟩ | ⟨kvs, key, z, e, e1, e2, q⟩
    · cases r2
      obtain ⟨p, vs, rfl, _, hp, rp⟩ := rel.lst r1 e
      obtain ⟨w, e2, r3⟩ := atA_rep rp e1
      exact ix_list value slice pins s σ H _ _ v u Q I rx ry ⟨p, vs, i, w, rfl, rfl, SqL.of hp, e2, fin0 rel lk q r3⟩ hs
    · obtain ⟨p, vs, rfl, _, hp, hk, rp⟩ := rel.dct r1 e
      rcases kvGet_rep key hk rp with ⟨z1, z2⟩ | ⟨w, z', z1, z2, r3⟩
      · rw [e2] at z2
        cases z2
      · rw [e2] at z2
        cases z2
        have ey := key_rep r2 e1
        subst ey
        exact ix_dict hu value slice pins s σ H _ _ v u Q I rx ry ⟨p, w, rfl, by rw [← z1]; exact DGet.k hp, fin0 rel lk q r3⟩ hs
  | _ => exact (show False from q).elim

/-! ### stores -/
theorem setR_inv {n : Nat} {k v : AV} {h : AH} {R : AH → Prop} (q : setR (.ref n) k v h R) : (∃ xs j, h[n]? = some (.lst xs) ∧ k = .int (.ofNat j) ∧ j < xs.length ∧ R (h.set n (.lst (xs.set j v)))) ∨
    ∃ kvs key, h[n]? = some (.dct kvs) ∧ keyOf k = some key ∧ kvs.length < 16777216 ∧ R (h.set n (.dct (kvPut kvs key v))) := by
  simp only [setR] at q
  split at q
  · rename_i xs e
    split at q
    · rename_i j
      exact .inl ⟨xs, j, e, rfl, q.1, q.2⟩
    · exact q.elim
  · rename_i kvs e
    split at q
    · rename_i key e1
      exact .inr ⟨kvs, key, e, e1, q.1, q.2⟩
    · exact q.elim
  · exact q.elim
theorem kvPut_rep {K : PySem.W.Frag} {H : Hp} {m : List Addr} (k : Key) {v : V} {x : AV} (rv : Rep K H m v x) {vs : List (Key × V)} {xs : List (Sum Int Str × AV)} (hk : vs.map (·.1) = xs.map (·.1)) (r : RepL K H m (vs.map (·.2)) (xs.map (·.2))) :
    (putK vs k v).map (·.1) = (kvPut xs k x).map (·.1) ∧ RepL K H m ((putK vs k v).map (·.2)) ((kvPut xs k x).map (·.2)) := by
  have ha : ∀ {vs : List (Key × V)} {xs : List (Sum Int Str × AV)}, vs.map (·.1) = xs.map (·.1) → (vs.any fun kv => decide (kv.1 = k)) = (xs.any fun kv => decide (kv.1 = k)) := by
    intro vs
    induction vs with
    | nil => intro xs h; cases xs with
      | nil => rfl
      | cons => simp at h
    | cons p vs ih => intro xs h; cases xs with
      | nil => simp at h
      | cons q xs =>
        simp only [List.map_cons, List.cons.injEq] at h
        rw [List.any_cons, List.any_cons, h.1, ih h.2]
  have hm : ∀ {vs : List (Key × V)} {xs : List (Sum Int Str × AV)}, vs.map (·.1) = xs.map (·.1) → RepL K H m (vs.map (·.2)) (xs.map (·.2)) →
      (vs.map fun kv => if kv.1 = k then (kv.1, v) else kv).map (·.1) = (xs.map fun kv => if kv.1 = k then (kv.1, x) else kv).map (·.1) ∧
      RepL K H m ((vs.map fun kv => if kv.1 = k then (kv.1, v) else kv).map (·.2)) ((xs.map fun kv => if kv.1 = k then (kv.1, x) else kv).map (·.2)) := by
    intro vs
    induction vs with
    | nil => intro xs h r; cases xs with
      | nil => exact ⟨rfl, .nil⟩
      | cons => simp at h
    | cons p vs ih => intro xs h r; cases xs with
      | nil => simp at h
      | cons q xs =>
        simp only [List.map_cons, List.cons.injEq] at h r
        obtain ⟨w, ws, e, r1, r2⟩ := r.cons_inv
        simp only [List.cons.injEq] at e
        obtain ⟨rfl, rfl⟩ := e
        obtain ⟨i1, i2⟩ := ih h.2 r2
        simp only [List.map_cons]
        have hq : q.1 = p.1 := h.1.symm
        by_cases e : p.1 = k
        · rw [if_pos e, if_pos (hq.trans e)]
          exact ⟨by rw [i1, hq], .cons rv i2⟩
        · rw [if_neg e, if_neg (by rw [hq]; exact e)]
          exact ⟨by rw [i1, hq], .cons r1 i2⟩
  unfold putK kvPut
  rw [ha hk]
  split
  · exact hm hk r
  · rw [List.map_append, List.map_append, List.map_append, List.map_append]
    exact ⟨by rw [hk]; rfl, r.append (.cons rv .nil)⟩
def upSet (K : PySem.W.Frag) (r : AV → AV → AV → AH → (AH → Prop) → Prop) : TSet := fun o i v H Q => ∃ m h ao ai av R, Rel K H m h ∧ Rep K H m o ao ∧ Rep K H m i ai ∧ Rep K H m v av ∧ r ao ai av h R ∧ LkH K H m R Q
theorem set_A (hu : X.A.units + 1 < cLine) : PSet X (upSet X.K setR) := by
  intro pins s σ H o i v ov iv u Q I ro ri rv ⟨m, h, ao, ai, av, R, rel, r1, r2, r3, q, lk⟩
  cases ao with
  | ref n =>
    rcases setR_inv q with ⟨xs, j, e, rfl, hj, q⟩ | ⟨kvs, key, e, ek, hz, q⟩
    · cases r2
      obtain ⟨p, vs, rfl, hn, hp, rp⟩ := rel.lst r1 e
      refine set_list pins s σ H _ _ _ ov iv u Q I ro ri rv ⟨p, vs, _, j, rfl, rfl, hp, ?_, ?_⟩
      · unfold ixN
        rw [rp.len, if_pos (show (0 : Int) ≤ Int.ofNat j from Int.natCast_nonneg j), if_pos (show Int.ofNat j < (xs.length : Int) by show (j : Int) < _; omega)]
        rfl
      · exact lk _ _ _ q (rel.write hn e (.lst hp) ⟨_, upd_same, (rp.set r3 j).mono (.lst hp)⟩) (.lst hp)
    · obtain ⟨p, vs, rfl, hn, hp, hk, rp⟩ := rel.dct r1 e
      have ey := key_rep r2 ek
      subst ey
      have hl : vs.length = kvs.length := by
        have := congrArg List.length hk
        simpa using this
      cases (show ov = Value.ref p from ro)
      refine d_setItem hu I (DPut.k hp (by rw [hl, line]; exact hz)) ri rv fun s' I' => ⟨_, I', ?_⟩
      obtain ⟨k1, k2⟩ := kvPut_rep key r3 hk rp
      exact lk _ _ _ q (rel.write hn e (.dK hp) ⟨_, upd_same, k1, k2.mono (.dK hp)⟩) (.dK hp)
  | _ => exact (show False from q).elim
/-- o[i] by values, for o[i] op= e -/
theorem get_A (hu : X.A.units + 1 < cLine) : PGet X (up2 X.K ixR) := by
  intro pins s σ H x y v u Q I rx ry ⟨m, h, ax, ay, R, rel, r1, r2, q, lk⟩
  cases ax with
  | ref n =>
    rcases ixL_inv q with ⟨xs, i, z, e, rfl, e1, q⟩ | ⟨kvs, key, z, e, e1, e2, q⟩
    · cases r2
      obtain ⟨p, vs, rfl, _, hp, rp⟩ := rel.lst r1 e
      obtain ⟨w, e2, r3⟩ := atA_rep rp e1
      cases (show v = Value.ref p from rx)
      obtain ⟨t, rfl⟩ := ry
      obtain ⟨its, r, pl, hz⟩ := I.list (SqL.of hp)
      obtain ⟨j, h1, h2, h3, h4, h5⟩ := atI_get e2
      obtain ⟨w', ew, rw'⟩ := r.get h2
      have hl := r.length
      have hn := line63
      have fin : EP X pins σ Q w' s := ⟨w, H, I, rw', fin0 rel lk q r3⟩
      by_cases h0 : 0 ≤ i
      · have hj : i.toNat = j := by
          rw [seqIndex_of h0 h5] at h1
          exact Option.some.inj h1
        exact wpAny_getItem_list pl.isList h0 (by omega) (by rw [hj]; simpa using ew) fin
      · have hj : (i + (its.toArray.size : Int)).toNat = j := by
          rw [seqIndex_neg (by omega) h4] at h1
          rw [List.size_toArray, ← hl]
          exact Option.some.inj h1
        exact wpAny_getItem_list_neg pl.isList (by omega) (by rw [List.size_toArray] <;> omega) (by omega) (by rw [hj]; simpa using ew) fin
    · obtain ⟨p, vs, rfl, _, hp, hk, rp⟩ := rel.dct r1 e
      rcases kvGet_rep key hk rp with ⟨z1, z2⟩ | ⟨w, z', z1, z2, r3⟩
      · rw [e2] at z2
        cases z2
      · rw [e2] at z2
        cases z2
        have ey := key_rep r2 e1
        subst ey
        cases (show v = Value.ref p from rx)
        exact d_getItem hu I (by rw [← z1]; exact DGet.k hp) ry fun w' s3 I3 rw' => ⟨w, H, I3, rw', fin0 rel lk q r3⟩
  | tup xs =>
    cases ay with
    | int i =>
      cases r2
      obtain ⟨z, e, q⟩ := ixT_inv q
      obtain ⟨p, vs, rfl, hp, rp⟩ := r1.tup_inv
      obtain ⟨w, e2, r3⟩ := atA_rep rp e
      cases (show v = Value.ref p from rx)
      obtain ⟨t, rfl⟩ := ry
      obtain ⟨its, r, pl, hz⟩ := I.tuple hp
      obtain ⟨j, h1, h2, h3, h4, h5⟩ := atI_get e2
      obtain ⟨w', ew, rw'⟩ := r.get h2
      have hl := r.length
      have hn := line63
      exact PyProof.Rows.getItem_tuple (j := j) pl (by omega) (by omega) (by rw [List.size_toArray, ← hl]; exact h1) (by simpa using ew) ⟨w, H, I, rw', fin0 rel lk q r3⟩
    | _ => exact (show False from q).elim
  | rol xs =>
    cases ay with
    | int i =>
      cases r2
      obtain ⟨z, e, q⟩ := ixRo_inv q
      obtain ⟨p, vs, rfl, hp, rp⟩ := r1.rol_inv
      obtain ⟨w, e2, r3⟩ := atA_rep rp e
      cases (show v = Value.ref p from rx)
      obtain ⟨t, rfl⟩ := ry
      obtain ⟨its, r, pl, hz⟩ := I.list hp.sq
      obtain ⟨j, h1, h2, h3, h4, h5⟩ := atI_get e2
      obtain ⟨w', ew, rw'⟩ := r.get h2
      have hl := r.length
      have hn := line63
      have fin : EP X pins σ Q w' s := ⟨w, H, I, rw', fin0 rel lk q r3⟩
      by_cases h0 : 0 ≤ i
      · have hj : i.toNat = j := by
          rw [seqIndex_of h0 h5] at h1
          exact Option.some.inj h1
        exact wpAny_getItem_list pl.isList h0 (by omega) (by rw [hj]; simpa using ew) fin
      · have hj : (i + (its.toArray.size : Int)).toNat = j := by
          rw [seqIndex_neg (by omega) h4] at h1
          rw [List.size_toArray, ← hl]
          exact Option.some.inj h1
        exact wpAny_getItem_list_neg pl.isList (by omega) (by rw [List.size_toArray] <;> omega) (by omega) (by rw [hj]; simpa using ew) fin
    | _ => exact (show False from q).elim
  | str z =>
    cases r1
    cases ay with
    | int i =>
      cases r2
      obtain ⟨hz, c, e, q⟩ := ixS_inv q
      have he := atI_of e
      obtain ⟨t, rfl⟩ := rx
      obtain ⟨t', rfl⟩ := ry
      obtain ⟨j, h1, h2, h3, h4, h5⟩ := atI_get he
      have hl : z.cps.toList.length = z.length := by simp [Str.length]
      rw [hl] at h1 h4 h5
      have hn := line63
      have hz' : z.length ≤ sizeLine := by rw [line]; exact hz
      exact getItem_str (c := c) (by
        have e1 : decide (i < -(2 ^ 63 : Int)) = false := decide_eq_false (by omega)
        have e2 : decide (i ≥ 2 ^ 63) = false := decide_eq_false (by omega)
        rw [e1, e2, Bool.or_false]) (by rw [h1]; simpa using h2) ⟨.str ⟨#[c]⟩, H, I.tok _, ⟨_, rfl⟩, fin0 rel lk q (.str _)⟩
    | _ => exact (show False from q).elim
  | _ => exact (show False from q).elim

/-! ### truth -/
theorem truR_inv {n : Nat} {h : AH} {R : Bool → AH → Prop} (q : truR (.ref n) h R) : (∃ xs, h[n]? = some (.lst xs) ∧ R (!xs.isEmpty) h) ∨ ∃ kvs, h[n]? = some (.dct kvs) ∧ R (!kvs.isEmpty) h := by
  simp only [truR] at q
  split at q
  · rename_i xs e
    exact .inl ⟨xs, e, q⟩
  · rename_i xs e
    exact .inr ⟨xs, e, q⟩
  · exact q.elim
theorem emp_rep {α β : Type} {vs : List α} {xs : List β} (h : vs.length = xs.length) : vs.isEmpty = xs.isEmpty := by
  cases vs <;> cases xs <;> first | rfl | simp at h
theorem tru_A : TruR X (upB X.K truR) := by
  intro pins s σ H x v Q I rx ⟨m, h, ax, R, rel, r1, q, lk⟩
  have go : ∀ k, TruV X.K x H k → Q k H → wpAny (model X.prog X.w) X.A (truthy v) (TP X pins σ Q) X.xe s := fun k e q => tru_ok pins s σ H x v Q I rx ⟨k, e, q⟩
  cases ax with
  | non => cases r1; exact go false rfl (lk _ _ _ _ q rel .refl)
  | bl b => cases r1; exact go b rfl (lk _ _ _ _ q rel .refl)
  | int b => cases r1; exact go _ rfl (lk _ _ _ _ q rel .refl)
  | str b =>
    cases r1
    obtain ⟨q1, q2⟩ := q
    have e : ((b.length : Int) != 0) = (b.length != 0) := by
      cases hb : b.length with
      | zero => rfl
      | succ k =>
        have h1 : (((k + 1 : Nat) : Int) != 0) = true := by
          rw [bne_iff_ne]
          omega
        rw [h1]
        rfl
    exact go _ ⟨by rw [line]; exact q1, rfl⟩ (by rw [e]; exact lk _ _ _ _ q2 rel .refl)
  | tup xs =>
    obtain ⟨p, vs, rfl, hp, rp⟩ := r1.tup_inv
    exact go _ (.inr (.inl ⟨vs, hp, rfl⟩)) (by rw [emp_rep rp.len]; exact lk _ _ _ _ q rel .refl)
  | rol xs =>
    obtain ⟨p, vs, rfl, hp, rp⟩ := r1.rol_inv
    exact go _ (.inl ⟨vs, hp.sq, rfl⟩) (by rw [emp_rep rp.len]; exact lk _ _ _ _ q rel .refl)
  | ref n =>
    rcases truR_inv q with ⟨xs, e, q⟩ | ⟨kvs, e, q⟩
    · obtain ⟨p, vs, rfl, _, hp, rp⟩ := rel.lst r1 e
      exact go _ (.inl ⟨vs, SqL.of hp, rfl⟩) (by rw [emp_rep rp.len]; exact lk _ _ _ _ q rel .refl)
    · obtain ⟨p, vs, rfl, _, hp, hk, rp⟩ := rel.dct r1 e
      exact go _ (.inr (.inr ⟨vs, hp, rfl⟩)) (by rw [emp_rep (by simpa using congrArg List.length hk)]; exact lk _ _ _ _ q rel .refl)
  | ty n => exact (show False from q).elim

/-! ### built-ins -/
theorem lenR_inv {n : Nat} {h : AH} {R : AK} (q : lenR [.ref n] h R) : (∃ xs, h[n]? = some (.lst xs) ∧ R (.int xs.length) h) ∨ ∃ kvs, h[n]? = some (.dct kvs) ∧ R (.int kvs.length) h := by
  simp only [lenR] at q
  split at q
  · rename_i xs e
    exact .inl ⟨xs, e, q⟩
  · rename_i xs e
    exact .inr ⟨xs, e, q⟩
  · exact q.elim
theorem one_inv {r : ARL} {xs : List AV} {h : AH} {R : AK} (q : r xs h R) (h0 : r [] h R → False) (h2 : ∀ x y t, r (x :: y :: t) h R → False) : ∃ x, xs = [x] := by
  match xs, q with
  | [], q => exact (h0 q).elim
  | [x], _ => exact ⟨x, rfl⟩
  | x :: y :: t, q => exact (h2 x y t q).elim
theorem call_lenA : CallR X (.builtin "len") (upL X.K lenR) := by
  intro pins s σ H xs us Q I rs ⟨m, h, as, R, rel, ra, q, lk⟩
  obtain ⟨x, rfl⟩ := one_inv q (fun z => z) (fun x y t z => by cases x <;> exact z)
  obtain ⟨v, ws, rfl, rv, rw⟩ := ra.cons_inv
  obtain rfl := rw.nil_inv
  cases x with
  | tup ys =>
    obtain ⟨p, vs, rfl, hp, rp⟩ := rv.tup_inv
    exact call_len_seq pins s σ H _ us Q I rs ⟨p, vs, rfl, .inr hp, by rw [rp.len]; exact fin0 rel lk q (.int _)⟩
  | rol ys =>
    obtain ⟨p, vs, rfl, hp, rp⟩ := rv.rol_inv
    exact call_len_seq pins s σ H _ us Q I rs ⟨p, vs, rfl, .inl hp.sq, by rw [rp.len]; exact fin0 rel lk q (.int _)⟩
  | str z =>
    cases rv
    obtain ⟨q1, q2⟩ := q
    exact call_len_str pins s σ H _ us Q I rs ⟨z, rfl, by rw [line]; exact q1, fin0 rel lk q2 (.int _)⟩
  | ref n =>
    rcases lenR_inv q with ⟨ys, e, q⟩ | ⟨kvs, e, q⟩
    · obtain ⟨p, vs, rfl, _, hp, rp⟩ := rel.lst rv e
      exact call_len_seq pins s σ H _ us Q I rs ⟨p, vs, rfl, .inl (SqL.of hp), by rw [rp.len]; exact fin0 rel lk q (.int _)⟩
    · obtain ⟨p, vs, rfl, _, hp, hk, rp⟩ := rel.dct rv e
      have hl : vs.length = kvs.length := by simpa using congrArg List.length hk
      exact call_lenD pins s σ H _ us Q I rs ⟨p, vs, rfl, hp, by rw [hl]; exact fin0 rel lk q (.int _)⟩
  | _ => exact (show False from q).elim
theorem call_absA : CallR X (.builtin "abs") (upL X.K absR) := by
  intro pins s σ H xs us Q I rs ⟨m, h, as, R, rel, ra, q, lk⟩
  obtain ⟨x, rfl⟩ := one_inv q (fun z => z) (fun x y t z => by cases x <;> exact z)
  obtain ⟨v, ws, rfl, rv, rw⟩ := ra.cons_inv
  obtain rfl := rw.nil_inv
  cases x with
  | int i =>
    cases rv
    exact call_abs pins s σ H _ us Q I rs ⟨i, rfl, fin0 rel lk q (.int _)⟩
  | _ => exact (show False from q).elim
theorem call_intA : CallR X (.type "int") (upL X.K intR) := by
  intro pins s σ H xs us Q I rs ⟨m, h, as, R, rel, ra, q, lk⟩
  obtain ⟨x, rfl⟩ := one_inv q (fun z => z) (fun x y t z => by cases x <;> exact z)
  obtain ⟨v, ws, rfl, rv, rw⟩ := ra.cons_inv
  obtain rfl := rw.nil_inv
  cases x with
  | int i =>
    cases rv
    exact call_int1 pins s σ H _ us Q I rs (.inl ⟨i, rfl, fin0 rel lk q (.int _)⟩)
  | bl i =>
    cases rv
    exact call_int1 pins s σ H _ us Q I rs (.inr ⟨i, rfl, fin0 rel lk q (.int _)⟩)
  | _ => exact (show False from q).elim
theorem call_strA : CallR X (.type "str") (upL X.K strR) := by
  intro pins s σ H xs us Q I rs ⟨m, h, as, R, rel, ra, q, lk⟩
  obtain ⟨x, rfl⟩ := one_inv q (fun z => z) (fun x y t z => by cases x <;> exact z)
  obtain ⟨v, ws, rfl, rv, rw⟩ := ra.cons_inv
  obtain rfl := rw.nil_inv
  cases x with
  | int i =>
    cases rv
    exact call_str_int pins s σ H _ us Q I rs ⟨i, rfl, q.1, fin0 rel lk q.2 (.str _)⟩
  | _ => exact (show False from q).elim
theorem two_inv {r : ARL} {xs : List AV} {h : AH} {R : AK} (q : r xs h R) (h0 : r [] h R → False) (h1 : ∀ x, r [x] h R → False) (h3 : ∀ x y z t, r (x :: y :: z :: t) h R → False) : ∃ x y, xs = [x, y] := by
  match xs, q with
  | [], q => exact (h0 q).elim
  | [x], q => exact (h1 x q).elim
  | [x, y], _ => exact ⟨x, y, rfl⟩
  | x :: y :: z :: t, q => exact (h3 x y z t q).elim
theorem call_gcdA : CallR X (.builtin "math.gcd") (upL X.K gcdR) := by
  intro pins s σ H xs us Q I rs ⟨m, h, as, R, rel, ra, q, lk⟩
  obtain ⟨x, y, rfl⟩ := two_inv q (fun z => z) (fun x z => by cases x <;> exact z) (fun x y z t w => by cases x <;> cases y <;> exact w)
  obtain ⟨v, ws, rfl, rv, rw⟩ := ra.cons_inv
  obtain ⟨v2, ws2, rfl, rv2, rw2⟩ := rw.cons_inv
  obtain rfl := rw2.nil_inv
  cases x with
  | int i =>
    cases y with
    | int j =>
      cases rv
      cases rv2
      exact cr_gcd pins s σ H _ us Q I rs ⟨i, j, rfl, fin0 rel lk q (.int _)⟩
    | _ => exact (show False from q).elim
  | _ => exact (show False by cases y <;> exact q).elim
theorem tupleR_inv {n : Nat} {h : AH} {R : AK} (q : tupleR [.ref n] h R) : ∃ xs, h[n]? = some (.lst xs) ∧ R (.tup xs) h := by
  simp only [tupleR] at q
  split at q
  · rename_i xs e
    exact ⟨xs, e, q⟩
  · exact q.elim
theorem call_tupleA : CallR X (.type "tuple") (upL X.K tupleR) := by
  intro pins s σ H xs us Q I rs ⟨m, h, as, R, rel, ra, q, lk⟩
  obtain ⟨x, rfl⟩ := one_inv q (fun z => z) (fun x y t z => by cases x <;> exact z)
  obtain ⟨v, ws, rfl, rv, rw⟩ := ra.cons_inv
  obtain rfl := rw.nil_inv
  cases x with
  | tup ys =>
    obtain ⟨p, vs, rfl, hp, rp⟩ := rv.tup_inv
    exact call_tuple_of pins s σ H _ us Q I rs ⟨p, vs, rfl, .inr ⟨hp, fin0 rel lk q rv⟩⟩
  | rol ys =>
    obtain ⟨p, vs, rfl, hp, rp⟩ := rv.rol_inv
    exact call_tuple_of pins s σ H _ us Q I rs ⟨p, vs, rfl, .inl ⟨hp.sq, fun l hl => lk _ _ _ _ _ q (rel.off hl) (RepL.tup (SqT.of upd_same) (rp.mono (.off hl))) (.off hl)⟩⟩
  | ref n =>
    obtain ⟨ys, e, q⟩ := tupleR_inv q
    obtain ⟨p, vs, rfl, _, hp, rp⟩ := rel.lst rv e
    exact call_tuple_of pins s σ H _ us Q I rs ⟨p, vs, rfl, .inl ⟨SqL.of hp, fun l hl => lk _ _ _ _ _ q (rel.off hl) (RepL.tup (SqT.of upd_same) (rp.mono (.off hl))) (.off hl)⟩⟩
  | _ => exact (show False from q).elim
theorem listR_inv {n : Nat} {h : AH} {R : AK} (q : listR [.ref n] h R) : ∃ xs, h[n]? = some (.lst xs) ∧ R (.ref h.length) (h ++ [.lst xs]) := by
  simp only [listR] at q
  split at q
  · rename_i xs e
    exact ⟨xs, e, q⟩
  · exact q.elim
theorem call_listA : CallR X (.type "list") (upL X.K listR) := by
  intro pins s σ H xs us Q I rs ⟨m, h, as, R, rel, ra, q, lk⟩
  obtain ⟨x, rfl⟩ := one_inv q (fun z => z) (fun x y t z => by cases x <;> exact z)
  obtain ⟨v, ws, rfl, rv, rw⟩ := ra.cons_inv
  obtain rfl := rw.nil_inv
  cases x with
  | tup ys =>
    obtain ⟨p, vs, rfl, hp, rp⟩ := rv.tup_inv
    exact call_list_of pins s σ H _ us Q I rs ⟨p, vs, rfl, .inr hp, fun l hl => lk _ _ _ _ _ q (rel.pushL hl rp) (.ref rel.last) (.new hl [l])⟩
  | rol ys =>
    obtain ⟨p, vs, rfl, hp, rp⟩ := rv.rol_inv
    exact call_list_of pins s σ H _ us Q I rs ⟨p, vs, rfl, .inl hp.sq, fun l hl => lk _ _ _ _ _ q (rel.pushL hl rp) (.ref rel.last) (.new hl [l])⟩
  | ref n =>
    obtain ⟨ys, e, q⟩ := listR_inv q
    obtain ⟨p, vs, rfl, _, hp, rp⟩ := rel.lst rv e
    exact call_list_of pins s σ H _ us Q I rs ⟨p, vs, rfl, .inl (SqL.of hp), fun l hl => lk _ _ _ _ _ q (rel.pushL hl rp) (.ref rel.last) (.new hl [l])⟩
  | _ => exact (show False from q).elim
theorem blsOf_rep {K : PySem.W.Frag} {H : Hp} {m : List Addr} : ∀ {vs : List V} {xs : List AV} {bs : List Bool}, RepL K H m vs xs → blsOf xs = some bs → vs = bs.map V.bl
  | vs, [], bs, r, e => by
    cases e
    exact r.nil_inv
  | vs, x :: xs, bs, r, e => by
    obtain ⟨w, ws, rfl, r1, r2⟩ := r.cons_inv
    cases x with
    | bl b =>
      cases r1
      simp only [blsOf] at e
      cases e2 : blsOf xs with
      | none => rw [e2] at e; cases e
      | some cs =>
        rw [e2] at e
        cases e
        rw [blsOf_rep r2 e2]
        rfl
    | _ => simp [blsOf] at e
theorem allR_inv {n : Nat} {h : AH} {R : AK} (q : allR [.ref n] h R) : ∃ xs bs, h[n]? = some (.lst xs) ∧ blsOf xs = some bs ∧ R (.bl (bs.all id)) h := by
  simp only [allR] at q
  split at q
  · rename_i xs e
    split at q
    · rename_i bs e2
      exact ⟨xs, bs, e, e2, q⟩
    · exact q.elim
  · exact q.elim
theorem anyR_inv {n : Nat} {h : AH} {R : AK} (q : anyR [.ref n] h R) : ∃ xs bs, h[n]? = some (.lst xs) ∧ blsOf xs = some bs ∧ R (.bl (bs.any id)) h := by
  simp only [anyR] at q
  split at q
  · rename_i xs e
    split at q
    · rename_i bs e2
      exact ⟨xs, bs, e, e2, q⟩
    · exact q.elim
  · exact q.elim
theorem call_allA (hc : X.calm = true) : CallR X (.builtin "all") (upL X.K allR) := by
  intro pins s σ H xs us Q I rs ⟨m, h, as, R, rel, ra, q, lk⟩
  obtain ⟨x, rfl⟩ := one_inv q (fun z => z) (fun x y t z => by cases x <;> exact z)
  obtain ⟨v, ws, rfl, rv, rw⟩ := ra.cons_inv
  obtain rfl := rw.nil_inv
  cases x with
  | ref n =>
    obtain ⟨ys, bs, e, e2, q⟩ := allR_inv q
    obtain ⟨p, vs, rfl, _, hp, rp⟩ := rel.lst rv e
    exact cr_all hc pins s σ H _ us Q I rs ⟨p, bs, rfl, by rw [← blsOf_rep rp e2]; exact SqL.of hp, fin0 rel lk q (.bl _)⟩
  | _ => exact (show False from q).elim
theorem call_anyA (hc : X.calm = true) : CallR X (.builtin "any") (upL X.K anyR) := by
  intro pins s σ H xs us Q I rs ⟨m, h, as, R, rel, ra, q, lk⟩
  obtain ⟨x, rfl⟩ := one_inv q (fun z => z) (fun x y t z => by cases x <;> exact z)
  obtain ⟨v, ws, rfl, rv, rw⟩ := ra.cons_inv
  obtain rfl := rw.nil_inv
  cases x with
  | ref n =>
    obtain ⟨ys, bs, e, e2, q⟩ := anyR_inv q
    obtain ⟨p, vs, rfl, _, hp, rp⟩ := rel.lst rv e
    exact cr_any hc pins s σ H _ us Q I rs ⟨p, bs, rfl, by rw [← blsOf_rep rp e2]; exact SqL.of hp, fin0 rel lk q (.bl _)⟩
  | _ => exact (show False from q).elim
/-! ### isinstance -/
theorem tyX_of {H : Hp} {m : List Addr} {h : AH} {v : V} {x : AV} {n : String} (rel : Rel X.K H m h) (r : Rep X.K H m v x) (e : tyName x h = some n) : TyX X.K H v (.type n) := by
  cases x with
  | non => cases r; cases e; exact .base .non
  | bl b => cases r; cases e; exact .base (.bl b)
  | int b => cases r; cases e; exact .base (.int b)
  | str b => cases r; cases e; exact .base (.str b)
  | tup xs =>
    cases e
    obtain ⟨p, vs, rfl, hp, rp⟩ := r.tup_inv
    rcases hp with (hp | ⟨o, hp⟩) | ⟨o, its, k, hk, hc, _⟩
    · exact .base (.tup hp)
    · exact .fTuple hp
    · exact .kTuple hk hc
  | rol xs =>
    cases e
    obtain ⟨p, vs, rfl, hp, rp⟩ := r.rol_inv
    rcases hp with ⟨o, hp⟩ | ((hp | ⟨o, hp⟩) | ⟨o, its, k, hk, hc, _⟩)
    · exact .base (.frz hp)
    · cases hp
    · cases hp
    · exact .kList hk hc
  | ref k =>
    simp only [tyName] at e
    split at e
    · rename_i xs e1
      cases e
      obtain ⟨p, vs, rfl, _, hp, rp⟩ := rel.lst r e1
      exact .base (.lst hp)
    · rename_i xs e1
      cases e
      obtain ⟨p, vs, rfl, _, hp, _⟩ := rel.dct r e1
      exact .base (.dK hp)
    · cases e
  | ty n => cases e
theorem kit_inst {n t : String} {b : Bool} (h : isInst n t = some b) : kitB n t = some b := by
  unfold isInst at h
  split at h <;> (repeat' split at h) <;> first
    | (cases h; done)
    | (cases h
       rename_i hh
       rcases hh with rfl | rfl | rfl | rfl | rfl | rfl <;> decide +kernel)
    | (cases h
       rename_i hh
       rcases hh with rfl | rfl | rfl | rfl | rfl <;> decide +kernel)
    | (cases h
       rename_i hh
       rcases hh with rfl | rfl | rfl | rfl <;> decide +kernel)
    | (cases h
       rename_i hh
       rcases hh with rfl | rfl <;> decide +kernel)
    | (cases h
       rename_i hh
       subst hh
       decide +kernel)
theorem instR_inv {x : AV} {t : String} {h : AH} {R : AK} (q : instR [x, .ty t] h R) : ∃ n b, tyName x h = some n ∧ isInst n t = some b ∧ R (.bl b) h := by
  simp only [instR] at q
  split at q
  · rename_i n e
    split at q
    · rename_i b e2
      exact ⟨n, b, e, e2, q⟩
    · exact q.elim
  · exact q.elim
theorem call_instA : CallR X (.builtin "isinstance") (upL X.K instR) := by
  intro pins s σ H xs us Q I rs ⟨m, h, as, R, rel, ra, q, lk⟩
  obtain ⟨x, y, rfl⟩ := two_inv q (fun z => z) (fun x z => by cases x <;> exact z) (fun x y z t w => by cases x <;> cases y <;> exact w)
  obtain ⟨v, ws, rfl, rv, rw⟩ := ra.cons_inv
  obtain ⟨v2, ws2, rfl, rv2, rw2⟩ := rw.cons_inv
  obtain rfl := rw2.nil_inv
  cases y with
  | ty t =>
    cases rv2
    obtain ⟨n, b, e, e2, q⟩ := instR_inv q
    exact call_isi pins s σ H _ us Q I rs ⟨v, .ty t, .type n, .type t, b, rfl, .ty t, tyX_of rel rv e, kit_ty (kit_inst e2), fin0 rel lk q (.bl _)⟩
  | _ => exact (show False by cases x <;> exact q).elim
end
end AL

/-! AL3: statements, targets, loops, comprehensions, methods; a def by its body. -/
namespace AL
open PySem PySem.Spec PyProof.Rows L2
section
variable {X : Cx} {e tg : Expr} {es : List Expr} {st : Stmt} {rest : List Stmt} {pos : Pos} {ta tb te : ATE} {tl : ATA} {tt : ATT} {t u tbd : ATS} {g : ATG} {gs : ATGs} {it : ATI}
/-! ### blocks -/
theorem ass_nil : ASs X [] nextT := wkSs pss_nil fun D σ H ⟨m, h, a, DA, rel, rs, q, lk⟩ => lk.nx _ _ _ _ _ q rel rs .refl
theorem lkSeq {K : PySem.W.Frag} {H : Hp} {m : List Addr} {DA : AEnds} {D : Ends} (lk : LkD K H m DA D) (u : ATS) : LkD K H m { DA with nx := u DA } { D with nx := upS K u D } :=
  ⟨fun H1 m1 h1 σ1 a1 q rel rs g => ⟨m1, h1, a1, DA, rel, rs, q, LkD.on lk g⟩, lk.rt, lk.bk, lk.ct⟩
theorem ass_cons (h1 : AS X st t) (h2 : ASs X rest u) : ASs X (st :: rest) (seqT t u) := wkSs (pss_cons h1 h2) fun D σ H ⟨m, h, a, DA, rel, rs, q, lk⟩ =>
  ⟨m, h, a, _, rel, rs, q, lkSeq lk u⟩
theorem ass_one (h1 : AS X st t) : ASs X [st] t := pss_one h1
theorem as_pass : AS X (.Pass pos) nextT := wkS ps_pass fun D σ H ⟨m, h, a, DA, rel, rs, q, lk⟩ => lk.nx _ _ _ _ _ q rel rs .refl
theorem as_break : AS X (.Break pos) brkT := wkS ps_break fun D σ H ⟨m, h, a, DA, rel, rs, q, lk⟩ => lk.bk _ _ _ _ _ q rel rs .refl
theorem as_cont : AS X (.Continue pos) contT := wkS ps_continue fun D σ H ⟨m, h, a, DA, rel, rs, q, lk⟩ => lk.ct _ _ _ _ _ q rel rs .refl
theorem as_expr (he : AE X e te) (hs : swapsWith e none pos.line X.env = pure false := by rfl) : AS X (.Expr e pos) (dropT te) := wkS (ps_expr he hs) fun D σ H ⟨m, h, a, DA, rel, rs, q, lk⟩ =>
  ⟨m, h, a, _, rel, rs, q, fun H1 m1 h1 v x q1 rel1 _ g1 => lk.nx _ _ _ _ _ q1 rel1 (rs.mono g1) g1⟩
theorem as_ret (he : AE X e te) : AS X (.Return (some e) pos) (retT te) := wkS (ps_ret he) fun D σ H ⟨m, h, a, DA, rel, rs, q, lk⟩ => ⟨m, h, a, _, rel, rs, q, lk.rt⟩
theorem as_retN : AS X (.Return none pos) retNT := wkS ps_retN fun D σ H ⟨m, h, a, DA, rel, rs, q, lk⟩ => lk.rt _ _ _ _ _ q rel .non .refl
theorem as_if {c : Expr} {p q : List Stmt} (hc : ATst X c tt) (ha : ASs X p t) (hb : ASs X q u) : AS X (.If c p q pos) (ifS tt t u) := wkS (ps_if hc ha hb) fun D σ H ⟨m, h, a, DA, rel, rs, q, lk⟩ => by
  refine ⟨m, h, a, _, rel, rs, q, fun H1 m1 h1 b q1 rel1 g1 => ?_⟩
  cases b with
  | true =>
    rw [if_pos rfl] at q1 ⊢
    exact ⟨m1, h1, a, DA, rel1, rs.mono g1, q1, LkD.on lk g1⟩
  | false =>
    rw [if_neg Bool.false_ne_true] at q1 ⊢
    exact ⟨m1, h1, a, DA, rel1, rs.mono g1, q1, LkD.on lk g1⟩
/-! ### targets -/
theorem ag_name {i : Nat} {x : Str} (hN : X.N.Nodup) (hi : X.N[i]? = some x) (hx : Loc X.env.scope x) (hf : X.fn x = true ∨ X.env.scope.names.lookup x = some .local := by first | exact .inl rfl | exact .inr rfl | assumption) : AG X (.Name x pos) (gNameT i) :=
  wkG (pg_name hN hi hx hf) fun v σ H Q ⟨m, h, a, x, R, rel, rs, rv, q, lk⟩ => lk _ _ _ _ _ q rel (rs.set rv i) .refl
theorem ags_nil : AGs X [] gNilT := wkGs pgs_nil fun vs σ H Q ⟨m, h, a, xs, R, rel, rs, rv, q, lk⟩ => by
  cases xs with
  | nil => exact ⟨rv.nil_inv, lk _ _ _ _ _ q rel rs .refl⟩
  | cons x xs => exact q.elim
theorem ags_cons (h1 : AG X e g) (h2 : AGs X es gs) (hs : (assignEach (e :: es) X.env).map (·.2) = assign e X.env :: (assignEach es X.env).map (·.2) := by rfl) : AGs X (e :: es) (gConsT g gs) := wkGs (pgs_cons h1 h2 hs) fun vs σ H Q ⟨m, h, a, xs, R, rel, rs, rv, q, lk⟩ => by
  cases xs with
  | nil => exact q.elim
  | cons x xs =>
    obtain ⟨v, ws, rfl, r1, r2⟩ := rv.cons_inv
    exact ⟨v, ws, rfl, m, h, a, x, _, rel, rs, r1, q, fun H1 m1 h1 σ1 a1 q1 rel1 rs1 g1 => ⟨m1, h1, a1, xs, R, rel1, rs1, r2.mono g1, q1, LkN.on lk g1⟩⟩
theorem ag_tup {k n : Nat} (hc : X.calm = true) (h : AGs X es gs) (hn : (assignEach es X.env).length = n := by rfl) (hst : (assignEach es X.env).findIdx? (·.1) = none := by rfl) : AG X (.Tuple es k pos) (gTupT n gs) :=
  wkG (pg_tup hc h hn hst) fun v σ H Q ⟨m, h, a, x, R, rel, rs, rv, q, lk⟩ => by
  cases x with
  | tup xs =>
    obtain ⟨q1, q2⟩ := q
    obtain ⟨p, vs, rfl, hp, rp⟩ := rv.tup_inv
    exact ⟨p, vs, rfl, hp, rp.len.trans q1, m, h, a, xs, R, rel, rs, rp, q2, lk⟩
  | _ => exact (show False from q).elim
theorem ag_sub {o i : Expr} (ho : AE X o ta) (hi : AE X i tb) (hs : PSet X (upSet X.K setR))
    (ha : ∀ v, assign (.Subscript o i pos) X.env v = (do
      let ov ← holding [v] (eval o X.env)
      let iv ← holding [v, ov] (eval i X.env)
      standAt pos
      holding [v, ov, iv] (setItem ov iv v)
      release [v, ov, iv] []) := by intro _; rfl) : AG X (.Subscript o i pos) (gSubT ta tb) :=
  wkG (pg_sub ho hi hs ha) fun v σ H Q ⟨m, h, a, x, R, rel, rs, rv, q, lk⟩ =>
  ⟨m, h, a, _, rel, rs, q, fun H1 m1 h1 w y q1 rel1 r1 g1 => ⟨m1, h1, a, _, rel1, rs.mono g1, q1, fun H2 m2 h2 w2 y2 q2 rel2 r2 g2 =>
    ⟨m2, h2, y, y2, x, _, rel2, r1.mono g2, r2, rv.mono (g1.trans g2), q2, fun H3 m3 h3 q3 rel3 g3 => lk _ _ _ _ _ q3 rel3 (rs.mono ((g1.trans g2).trans g3)) ((g1.trans g2).trans g3)⟩⟩⟩
/-! ### assignments -/
theorem as_asg (he : AE X e te) (hg : AG X tg g) (hs : swapsWithSole [tg] e pos.line X.env = pure false := by rfl) (hw : swappedStores [tg] e X.env = pure none := by rfl)
    (h1 : (assignEach [tg] X.env).map (·.2) = [assign tg X.env] := by rfl) : AS X (.Assign [tg] e pos) (asgT te g) := wkS (ps_asg he hg hs hw h1) fun D σ H ⟨m, h, a, DA, rel, rs, q, lk⟩ =>
  ⟨m, h, a, _, rel, rs, q, fun H1 m1 h1 v x q1 rel1 r1 g1 => ⟨m1, h1, a, x, _, rel1, rs.mono g1, r1, q1, LkN.on lk.nx g1⟩⟩
theorem as_set {i : Nat} {x : Str} {p : Pos} (hN : X.N.Nodup) (hi : X.N[i]? = some x) (hx : Loc X.env.scope x) (he : AE X e te) (hs : swapsWith e (some (.Name x p)) pos.line X.env = pure false := by rfl)
    (hf : X.fn x = true ∨ X.env.scope.names.lookup x = some .local := by first | exact .inl rfl | exact .inr rfl | assumption) : AS X (.Assign [.Name x p] e pos) (asgT te (gNameT i)) := wkS (ps_set hN hi hx he hs hf) fun D σ H ⟨m, h, a, DA, rel, rs, q, lk⟩ =>
  ⟨m, h, a, _, rel, rs, q, fun H1 m1 h1 v x q1 rel1 r1 g1 => lk.nx _ _ _ _ _ q1 rel1 ((rs.mono g1).set r1 i) g1⟩
theorem as_par {i j : Nat} {x y : Str} {a b : Expr} {px py pt : Pos} {kt k2 pt2} (hc : X.calm = true) (hN : X.N.Nodup) (hi : X.N[i]? = some x) (hj : X.N[j]? = some y) (hij : i ≠ j)
    (hx : X.env.scope.names.lookup x = some .local) (hy : X.env.scope.names.lookup y = some .local) (ha : AA X [a, b] tl)
    (hw : swappedStores [.Tuple [.Name x px, .Name y py] kt pt] (.Tuple [a, b] k2 pt2) X.env = pure (some [x, y]))
    (hs : swapsWithSole [.Tuple [.Name x px, .Name y py] kt pt] (.Tuple [a, b] k2 pt2) pos.line X.env = pure false := by rfl) :
    AS X (.Assign [.Tuple [.Name x px, .Name y py] kt pt] (.Tuple [a, b] k2 pt2) pos) (parT i j tl) := wkS (ps_par hc hN hi hj hij hx hy ha hw hs) fun D σ H ⟨m, h, a, DA, rel, rs, q, lk⟩ =>
  ⟨m, h, a, _, rel, rs, q, fun H1 m1 h1 vs xs q1 rel1 r1 g1 => by
    match xs, q1, r1 with
    | [x, y], q1, r1 =>
      obtain ⟨v, ws, rfl, r2, r3⟩ := r1.cons_inv
      obtain ⟨w, ws2, rfl, r4, r5⟩ := r3.cons_inv
      obtain rfl := r5.nil_inv
      exact ⟨v, w, rfl, lk.nx _ _ _ _ _ q1 rel1 (((rs.mono g1).set r2 i).set r4 j) g1⟩
    | [], q1, _ => exact q1.elim
    | [_], q1, _ => exact q1.elim
    | _ :: _ :: _ :: _, q1, _ => exact q1.elim⟩
theorem as_aug {i : Nat} {x : Str} {op : Operator} {r : AR2} {p : Pos} (hN : X.N.Nodup) (hi : X.N[i]? = some x) (hx : Loc X.env.scope x) (he : AE X e te) (ho : PIp X op (up2 X.K r))
    (hf : X.fn x = true ∨ X.env.scope.names.lookup x = some .local := by first | exact .inl rfl | exact .inr rfl | assumption) : AS X (.AugAssign (.Name x p) op e pos) (augT i te r) := wkS (ps_aug hN hi hx he ho hf) fun D σ H ⟨m, h, a, DA, rel, rs, q, lk⟩ => by
  unfold augT at q
  cases hg : gv a i with
  | none =>
    rw [hg] at q
    exact q.elim
  | some y =>
    rw [hg] at q
    obtain ⟨v, e1, r1⟩ := rs.get i y hg
    exact ⟨v, e1, m, h, a, _, rel, rs, q, fun H1 m1 h1 w z q1 rel1 r2 g1 => ⟨m1, h1, y, z, _, rel1, r1.mono g1, r2, q1, fun H2 m2 h2 w2 z2 q2 rel2 r3 g2 => lk.nx _ _ _ _ _ q2 rel2 ((rs.mono (g1.trans g2)).set r3 i) (g1.trans g2)⟩⟩
theorem as_augS {o i : Expr} {op : Operator} {r : AR2} {p : Pos} (ho : AE X o ta) (hi : AE X i tb) (hg : PGet X (up2 X.K ixR)) (he : AE X e te) (hp : PIp X op (up2 X.K r)) (hs : PSet X (upSet X.K setR))
    (ha : ∀ ov iv new, augStore i ov iv new = (do holding [new, ov, iv] (setItem ov iv new); release [new, ov, iv] []; pure .next) := by intros; rfl) : AS X (.AugAssign (.Subscript o i p) op e pos) (augST ta tb te r) :=
  wkS (ps_augS ho hi hg he hp hs ha) fun D σ H ⟨m, h, a, DA, rel, rs, q, lk⟩ =>
  ⟨m, h, a, _, rel, rs, q, fun H1 m1 h1 o1 x1 q1 rel1 r1 g1 => ⟨m1, h1, a, _, rel1, rs.mono g1, q1, fun H2 m2 h2 i2 x2 q2 rel2 r2 g2 => ⟨m2, h2, x1, x2, _, rel2, r1.mono g2, r2, q2, fun H3 m3 h3 v3 x3 q3 rel3 r3 g3 =>
    ⟨m3, h3, a, _, rel3, rs.mono ((g1.trans g2).trans g3), q3, fun H4 m4 h4 v4 x4 q4 rel4 r4 g4 => ⟨m4, h4, x3, x4, _, rel4, r3.mono g4, r4, q4, fun H5 m5 h5 v5 x5 q5 rel5 r5 g5 =>
      ⟨m5, h5, x1, x2, x5, _, rel5, r1.mono (((g2.trans g3).trans g4).trans g5), r2.mono ((g3.trans g4).trans g5), r5, q5, fun H6 m6 h6 q6 rel6 g6 =>
        lk.nx _ _ _ _ _ q6 rel6 (rs.mono (((((g1.trans g2).trans g3).trans g4).trans g5).trans g6)) (((((g1.trans g2).trans g3).trans g4).trans g5).trans g6)⟩⟩⟩⟩⟩⟩
theorem ip_addA : PIp X .Add (up2 X.K iaddR) := by
  intro pins s σ H x y v u Q I rx ry ⟨m, h, ax, ay, R, rel, r1, r2, q, lk⟩
  cases ax with
  | int i =>
    cases r1
    cases ay with
    | int j =>
      cases r2
      exact iop_add pins s σ H _ _ v u Q I rx ry ⟨i, j, rfl, rfl, fin0 rel lk q (.int _)⟩
    | _ => exact (show False from q).elim
  | str a =>
    cases r1
    cases ay with
    | str b =>
      cases r2
      obtain ⟨q1, q2⟩ := q
      exact iop_add_str pins s σ H _ _ v u Q I rx ry ⟨a, b, rfl, rfl, by rw [line]; exact q1, fin0 rel lk q2 (.str _)⟩
    | _ => exact (show False from q).elim
  | _ => exact (show False from q).elim
theorem ip_subA : PIp X .Sub (up2 X.K isubR) := op_ints0 iop_sub (fun _ _ _ _ q => q) (two_ints fun x y _ _ q => by cases x <;> cases y <;> first | trivial | exact q) fun _ _ _ _ => .int _
/-! ### methods -/
def upOk (K : PySem.W.Frag) (ok : AV → AH → Prop) (T : String) : Prop := ∀ H m h v x, Rel K H m h → Rep K H m v x → ok x h → tyV K T v H
theorem ae_bm {ok : AV → AH → Prop} {r : ARM} {T : String} {name : Str} {o : Expr} {apos : Pos} {ts : TA} (hok : upOk X.K ok T) (h : PE X (.Call (.Attribute o name apos) (e :: es) [] pos) (tBM X.K T (upM X.K r) (upE X.K ta) (upA X.K tl))) :
    AE X (.Call (.Attribute o name apos) (e :: es) [] pos) (mtT ok r ta tl) := wkE h fun σ H Q ⟨m, h, a, R, rel, rs, q, lk⟩ =>
  ⟨m, h, a, _, rel, rs, q, fun H1 m1 h1 v x q1 rel1 r1 g1 => ⟨hok H1 m1 h1 v x rel1 r1 q1.1, m1, h1, a, _, rel1, rs.mono g1, q1.2, fun H2 m2 h2 vs xs q2 rel2 r2 g2 => ⟨m2, h2, x, xs, R, rel2, r1.mono g2, r2, q2, Lk.on lk (g1.trans g2)⟩⟩⟩
theorem isLst_inv {x : AV} {h : AH} (q : isLst x h) : ∃ n xs, x = .ref n ∧ h[n]? = some (.lst xs) := by
  cases x with
  | ref n =>
    simp only [isLst] at q
    split at q
    · rename_i xs e
      exact ⟨n, xs, rfl, e⟩
    · exact q.elim
  | _ => exact (show False from q).elim
theorem ok_lst : upOk X.K isLst "list" := fun H m h v x rel r q => by
  obtain ⟨n, xs, rfl, e⟩ := isLst_inv q
  obtain ⟨p, vs, rfl, _, hp, _⟩ := rel.lst r e
  exact .inl ⟨rfl, vs, SqL.of hp⟩
theorem appendR_inv {n : Nat} {y : AV} {h : AH} {R : AK} (q : appendR (.ref n) [y] h R) : ∃ xs, h[n]? = some (.lst xs) ∧ xs.length < 16777216 ∧ R .non (h.set n (.lst (xs ++ [y]))) := by
  simp only [appendR] at q
  split at q
  · rename_i xs e
    exact ⟨xs, e, q⟩
  · exact q.elim
theorem mt_appendA : MtM X "list.append" (upM X.K appendR) := by
  intro pins s σ H x xs v us Q I rx rs ⟨m, h, ax, as, R, rel, r1, ra, q, lk⟩
  cases ax with
  | ref n =>
    match as, q, ra with
    | [y], q, ra =>
      obtain ⟨w, ws, rfl, rw, rn⟩ := ra.cons_inv
      obtain rfl := rn.nil_inv
      obtain ⟨ys, e, hz, q⟩ := appendR_inv q
      obtain ⟨p, vs, rfl, hn, hp, rp⟩ := rel.lst r1 e
      refine mt_append pins s σ H _ _ v us Q I rx rs ⟨p, vs, w, rfl, rfl, hp, by rw [rp.len, line]; exact hz, ?_⟩
      exact lk _ _ _ _ _ q (rel.write hn e (.lst hp) ⟨_, upd_same, (rp.append (.cons rw .nil)).mono (.lst hp)⟩) .non (.lst hp)
    | [], q, _ => exact (show False from q).elim
    | _ :: _ :: _, q, _ => exact (show False from q).elim
  | _ => exact (show False by (match as, q with
    | [], q => exact q
    | [_], q => exact q
    | _ :: _ :: _, q => exact q)).elim
/-! ### what is walked -/
structure GoodIt (K : PySem.W.Frag) (J : It) (items : List AV) (guard : AH → Prop) (H0 : Hp) (m0 : List Addr) : Prop where
  go : ∀ (i : Nat) x H m h, items[i]? = some x → Rel K H m h → guard h → Grow K H0 m0 H m → J.go i H ∧ ∀ v H', J.yld i H v H' → Rel K H' m h ∧ Rep K H' m v x ∧ Grow K H m H' m
  stop : ∀ H m h, Rel K H m h → guard h → Grow K H0 m0 H m → J.stop items.length H
def upI (K : PySem.W.Frag) (ta : ATI) : TI := fun σ H R => ∃ m h a RA, Rel K H m h ∧ RepS K H m σ a ∧ ta a h RA ∧ ∀ H' m' h' items guard, RA items guard h' → Rel K H' m' h' → Grow K H m H' m' → ∀ J : It, GoodIt K J items guard H' m' → R J H'
abbrev AI (X : Cx) (tg e : Expr) (t : ATI) : Prop := PI X tg e (upI X.K t)
theorem wkI {t t' : TI} (h : PI X tg e t) (w : ∀ σ H R, t' σ H R → t σ H R) : PI X tg e t' := ⟨fun pins s σ H R I q => h.run pins s σ H R I (w σ H R q)⟩
theorem as_for {iter : Expr} {body : List Stmt} (hp : PassesOwn (model X.prog X.w) X.A X.env X.xe) (hc : X.calm = true) (hi : AI X tg iter it) (hg : AG X tg g) (hb : ASs X body tbd)
    (hs : ∀ x, foldedSetIterable iter X.env x = pure x := by intro _; rfl) : AS X (.For tg iter body [] pos) (forT it g tbd) := wkS (ps_for hp hc hi hg hb hs) fun D σ H ⟨m, h, a, DA, rel, rs, q, lk⟩ => by
  refine ⟨m, h, a, _, rel, rs, q, fun H1 m1 h1 items guard q1 rel1 g1 J good => ?_⟩
  obtain ⟨I, i0, hst, hd⟩ := q1
  refine ⟨fun i k σ' H' => k = items.length - i ∧ i ≤ items.length ∧ ∃ m' h' a', Rel X.K H' m' h' ∧ RepS X.K H' m' σ' a' ∧ Grow X.K H1 m1 H' m' ∧ I i a' h', ⟨items.length, rfl, Nat.zero_le _, m1, h1, a, rel1, rs.mono g1, .refl, i0⟩, ?_⟩
  rintro i k σ2 H2 ⟨rfl, hi, m2, h2, a2, rel2, rs2, g2, hI⟩
  by_cases hlt : i < items.length
  · have hx : items[i]? = some items[i] := List.getElem?_eq_getElem hlt
    obtain ⟨gd, stp⟩ := hst i _ a2 h2 hx hI
    obtain ⟨go, yl⟩ := good.go i _ H2 m2 h2 hx rel2 gd g2
    refine .inr ⟨go, fun σ' H' => ∃ m' h' a', Rel X.K H' m' h' ∧ RepS X.K H' m' σ' a' ∧ Grow X.K H1 m1 H' m' ∧ I (i + 1) a' h', fun σ' H' n => ⟨items.length - (i + 1), by omega, rfl, hlt, n⟩, fun v H' y => ?_⟩
    obtain ⟨rel3, rv, g3⟩ := yl v H' y
    refine ⟨m2, h2, a2, _, _, rel3, rs2.mono g3, rv, stp, fun H4 m4 h4 σ4 a4 q4 rel4 rs4 g4 => ⟨m4, h4, a4, _, rel4, rs4, q4, ?_⟩⟩
    have gg : Grow X.K H1 m1 H4 m4 := (g2.trans g3).trans g4
    exact ⟨fun H5 m5 h5 σ5 a5 q5 rel5 rs5 g5 => ⟨m5, h5, a5, rel5, rs5, gg.trans g5, q5⟩, Lk.on lk.rt (g1.trans gg), LkN.on lk.nx (g1.trans gg), fun H5 m5 h5 σ5 a5 q5 rel5 rs5 g5 => ⟨m5, h5, a5, rel5, rs5, gg.trans g5, q5⟩⟩
  · have e : i = items.length := by omega
    subst e
    obtain ⟨gd, nx⟩ := hd a2 h2 hI
    exact .inl ⟨good.stop H2 m2 h2 rel2 gd g2, lk.nx _ _ _ _ _ nx rel2 rs2 (g1.trans g2)⟩
theorem as_while {c : Expr} {body : List Stmt} (hp : PassesOwn (model X.prog X.w) X.A X.env X.xe) (hc : ATst X c tt) (hb : ASs X body tbd) : AS X (.While c body [] pos) (whileT tt tbd) := wkS (ps_while hp hc hb) fun D σ H ⟨m, h, a, DA, rel, rs, q, lk⟩ => by
  obtain ⟨W, ⟨k0, w0⟩, stp⟩ := q
  refine ⟨fun k σ' H' => ∃ m' h' a', Rel X.K H' m' h' ∧ RepS X.K H' m' σ' a' ∧ Grow X.K H m H' m' ∧ W k a' h', ⟨k0, m, h, a, rel, rs, .refl, w0⟩, ?_⟩
  rintro k σ2 H2 ⟨m2, h2, a2, rel2, rs2, g2, hW⟩
  refine ⟨m2, h2, a2, _, rel2, rs2, stp k a2 h2 hW, fun H3 m3 h3 b q3 rel3 g3 => ?_⟩
  cases b with
  | true =>
    rw [if_pos rfl] at q3 ⊢
    obtain ⟨N, hN, q3⟩ := q3
    refine ⟨fun σ' H' => ∃ m' h' a', Rel X.K H' m' h' ∧ RepS X.K H' m' σ' a' ∧ Grow X.K H m H' m' ∧ N a' h', fun σ' H' ⟨m', h', a', x1, x2, x3, x4⟩ => ?_, m3, h3, a2, _, rel3, rs2.mono g3, q3, ?_⟩
    · obtain ⟨k', hk, w'⟩ := hN a' h' x4
      exact ⟨k', hk, m', h', a', x1, x2, x3, w'⟩
    · have gg : Grow X.K H m H3 m3 := g2.trans g3
      exact ⟨fun H5 m5 h5 σ5 a5 q5 rel5 rs5 g5 => ⟨m5, h5, a5, rel5, rs5, gg.trans g5, q5⟩, Lk.on lk.rt gg, LkN.on lk.nx gg, fun H5 m5 h5 σ5 a5 q5 rel5 rs5 g5 => ⟨m5, h5, a5, rel5, rs5, gg.trans g5, q5⟩⟩
  | false =>
    rw [if_neg Bool.false_ne_true] at q3 ⊢
    exact lk.nx _ _ _ _ _ q3 rel3 (rs2.mono g3) (g2.trans g3)
/-! ### comprehensions -/
theorem wipe_in {σ : L2.St} {i : Nat} {x : Option V} : ∀ {vs : List Nat}, i ∈ vs → L2.wipe (σ.set i x) vs = L2.wipe σ vs
  | v :: vs, hm => by
    show (L2.wipe (σ.set i x) vs).set v none = (L2.wipe σ vs).set v none
    by_cases h : i ∈ vs
    · rw [wipe_in h]
    · have e : i = v := by
        rcases List.mem_cons.mp hm with e | e
        · exact e
        · exact absurd e h
      subst e
      have go : ∀ (ws : List Nat), i ∉ ws → L2.wipe (σ.set i x) ws = (L2.wipe σ ws).set i x := by
        intro ws
        induction ws with
        | nil => intro _; rfl
        | cons w ws ih =>
          intro hw
          simp only [List.mem_cons, not_or] at hw
          show (L2.wipe (σ.set i x) ws).set w none = ((L2.wipe σ ws).set w none).set i x
          rw [ih hw.2, List.set_comm _ _ hw.1]
      rw [go vs h, List.set_set]
theorem wipe_idem {σ : L2.St} : ∀ (vs ws : List Nat), (∀ v ∈ ws, v ∈ vs) → L2.wipe (L2.wipe σ ws) vs = L2.wipe σ vs
  | vs, [], _ => rfl
  | vs, w :: ws, h => by
    show L2.wipe ((L2.wipe σ ws).set w none) vs = _
    rw [wipe_in (h w List.mem_cons_self)]
    exact wipe_idem vs ws fun v hv => h v (List.mem_cons_of_mem _ hv)
/-- a comprehension's target: a real one beside the plain one, that turns its own slots alone -/
structure CG (K : PySem.W.Frag) (vs : List Nat) (t : TG) (g : ATG) : Prop where
  run : ∀ v σ H (Q : L2.St → Hp → Prop), upG K g v σ H Q → t v σ H fun σ2 H2 => L2.wipe σ2 vs = L2.wipe σ vs ∧ Q σ2 H2
structure CGs (K : PySem.W.Frag) (vs : List Nat) (t : TGs) (g : ATGs) : Prop where
  run : ∀ ws σ H (Q : L2.St → Hp → Prop), upGs K g ws σ H Q → t ws σ H fun σ2 H2 => L2.wipe σ2 vs = L2.wipe σ vs ∧ Q σ2 H2
theorem cg_name {K : PySem.W.Frag} {vs : List Nat} {i : Nat} (hi : i ∈ vs) : CG K vs (gName i) (gNameT i) := ⟨fun v σ H Q ⟨m, h, a, x, R, rel, rs, rv, q, lk⟩ => ⟨wipe_in hi, lk _ _ _ _ _ q rel (rs.set rv i) .refl⟩⟩
theorem cgs_nil {K : PySem.W.Frag} {vs : List Nat} : CGs K vs gNil gNilT := ⟨fun ws σ H Q ⟨m, h, a, xs, R, rel, rs, rv, q, lk⟩ => by
  cases xs with
  | nil => exact ⟨rv.nil_inv, rfl, lk _ _ _ _ _ q rel rs .refl⟩
  | cons x xs => exact q.elim⟩
theorem cgs_cons {K : PySem.W.Frag} {vs : List Nat} {t : TG} {ts : TGs} {g : ATG} {gs : ATGs} (h1 : CG K vs t g) (h2 : CGs K vs ts gs) (mono : ∀ v σ H (Q Q' : L2.St → Hp → Prop), (∀ s h, Q s h → Q' s h) → t v σ H Q → t v σ H Q') (mono2 : ∀ v σ H (Q Q' : L2.St → Hp → Prop), (∀ s h, Q s h → Q' s h) → ts v σ H Q → ts v σ H Q') : CGs K vs (gCons t ts) (gConsT g gs) := ⟨fun ws σ H Q ⟨m, h, a, xs, R, rel, rs, rv, q, lk⟩ => by
  cases xs with
  | nil => exact q.elim
  | cons x xs =>
    obtain ⟨v, ws, rfl, r1, r2⟩ := rv.cons_inv
    refine ⟨v, ws, rfl, mono _ _ _ _ _ (fun s1 h1 ⟨e1, k1⟩ => ?_) (h1.run v σ H (fun σ2 H2 => upGs K gs ws σ2 H2 Q) ⟨m, h, a, x, _, rel, rs, r1, q, fun H1 m1 h1 σ1 a1 q1 rel1 rs1 g1 => ⟨m1, h1, a1, xs, R, rel1, rs1, r2.mono g1, q1, LkN.on lk g1⟩⟩)⟩
    exact mono2 _ _ _ _ _ (fun s2 h2 ⟨e2, k2⟩ => ⟨e2.trans e1, k2⟩) (h2.run ws s1 h1 Q k1)⟩
theorem cg_tup {K : PySem.W.Frag} {vs : List Nat} {n : Nat} {ts : TGs} {gs : ATGs} (h2 : CGs K vs ts gs) : CG K vs (gTup K n ts) (gTupT n gs) := ⟨fun v σ H Q ⟨m, h, a, x, R, rel, rs, rv, q, lk⟩ => by
  cases x with
  | tup xs =>
    obtain ⟨q1, q2⟩ := q
    obtain ⟨p, ws, rfl, hp, rp⟩ := rv.tup_inv
    exact ⟨p, ws, rfl, hp, rp.len.trans q1, h2.run ws σ H Q ⟨m, h, a, xs, R, rel, rs, rp, q2, lk⟩⟩
  | _ => exact (show False from q).elim⟩
/-- the real side of a tuple of names -/
def rNms : List Nat → TGs
  | [] => gNil
  | i :: r => gCons (gName i) (rNms r)
theorem rNms_mono : ∀ (is : List Nat) v σ H (Q Q' : L2.St → Hp → Prop), (∀ s h, Q s h → Q' s h) → rNms is v σ H Q → rNms is v σ H Q'
  | [], v, σ, H, Q, Q', hq, ⟨e, q⟩ => ⟨e, hq _ _ q⟩
  | i :: r, v, σ, H, Q, Q', hq, ⟨w, ws, e, q⟩ => ⟨w, ws, e, rNms_mono r ws _ _ Q Q' hq q⟩
theorem cgs_nms {K : PySem.W.Frag} {vs : List Nat} : ∀ is : List Nat, (∀ i ∈ is, i ∈ vs) → CGs K vs (rNms is) (gNmsT is)
  | [], _ => cgs_nil
  | i :: r, h => cgs_cons (cg_name (h i List.mem_cons_self)) (cgs_nms r fun j hj => h j (List.mem_cons_of_mem _ hj)) (fun v σ H Q Q' hq q => hq _ _ q) (rNms_mono r)
abbrev ATs (X : Cx) (ifs : List Expr) (t : ATT) : Prop := PTs X ifs (upT X.K t)
theorem ats_nil : ATs X [] yesT := ⟨fun pins s σ H Q I ⟨m, h, a, R, rel, rs, q, lk⟩ => wpAny_tests_nil ⟨H, I, lk _ _ _ _ q rel .refl⟩⟩
theorem ats_one {c : Expr} (h : ATst X c tt) : ATs X [c] tt := pts_one h
theorem lift_lc {wi : TI} {gr : TG} {vs : List Nat} (hcg : CG X.K vs gr g) (mono : ∀ v σ H (Q Q' : L2.St → Hp → Prop), (∀ s h, Q s h → Q' s h) → gr v σ H Q → gr v σ H Q') {σ : L2.St} {H : Hp} {Q : VK} (q : upE X.K (lcT it g tt te vs) σ H Q) :
    tLc (upI X.K it) gr (upT X.K tt) (upE X.K te) vs σ H Q := by
  obtain ⟨m, h, a, R, rel, rs, q, lk⟩ := q
  refine ⟨m, h, a, _, rel, rs, q, fun H1 m1 h1 items guard q1 rel1 g1 J good D hD => ?_⟩
  obtain ⟨I, i0, hst, hd⟩ := q1
  have gD : Grow X.K H1 m1 (L2.upd H1 D (.lst [])) (m1 ++ [D]) := .new hD [D]
  have relD := rel1.pushL hD (vs := []) (xs := []) .nil
  have atD : (m1 ++ [D])[h1.length]? = some D := rel1.last
  refine ⟨fun i k H' => k = items.length - i ∧ i ≤ items.length ∧ ∃ m' h' acc, Rel X.K H' m' h' ∧ Grow X.K (L2.upd H1 D (.lst [])) (m1 ++ [D]) H' m' ∧ I i acc h', ⟨items.length, rfl, Nat.zero_le _, _, _, [], relD, .refl, i0⟩, ?_⟩
  rintro i k H2 ⟨rfl, hi, m2, h2, acc, rel2, g2, hI⟩
  by_cases hlt : i < items.length
  · have hx : items[i]? = some items[i] := List.getElem?_eq_getElem hlt
    obtain ⟨gd, stp⟩ := hst i _ acc h2 hx hI
    obtain ⟨go, yl⟩ := good.go i _ H2 m2 h2 hx rel2 gd (gD.trans g2)
    refine .inr ⟨go, fun H' => ∃ m' h' acc, Rel X.K H' m' h' ∧ Grow X.K (L2.upd H1 D (.lst [])) (m1 ++ [D]) H' m' ∧ I (i + 1) acc h', fun H' n => ⟨items.length - (i + 1), by omega, rfl, hlt, n⟩, fun v H' y => ?_⟩
    obtain ⟨rel3, rv, g3⟩ := yl v H' y
    have gA : Grow X.K H m H' m2 := ((g1.trans gD).trans g2).trans g3
    refine mono _ _ _ _ _ (fun σ4 H4 hq => ?_) (hcg.run v (L2.wipe σ vs) H' (fun σ4 H4 => upT X.K tt σ4 H4 fun b H5 => if b = true then upE X.K te σ4 H5 fun y H6 => ∃ acc, H6 D = some (.lst acc) ∧ acc.length < sizeLine ∧
      (∃ m' h' ac, Rel X.K (L2.upd H6 D (.lst (acc ++ [y]))) m' h' ∧ Grow X.K (L2.upd H1 D (.lst [])) (m1 ++ [D]) (L2.upd H6 D (.lst (acc ++ [y]))) m' ∧ I (i + 1) ac h') else ∃ m' h' ac, Rel X.K H5 m' h' ∧ Grow X.K (L2.upd H1 D (.lst [])) (m1 ++ [D]) H5 m' ∧ I (i + 1) ac h') ?_)
    · exact ⟨hq.1.trans (wipe_idem vs vs fun _ z => z), hq.2⟩
    · refine ⟨m2, h2, wipeA a vs, _, _, rel3, (rs.mono gA).wipe vs, rv, stp, fun H4 m4 h4 σ4 a4 q4 rel4 rs4 g4 => ⟨m4, h4, a4, _, rel4, rs4, q4, fun H5 m5 h5 b q5 rel5 g5 => ?_⟩⟩
      have gB : Grow X.K (L2.upd H1 D (.lst [])) (m1 ++ [D]) H5 m5 := ((g2.trans g3).trans g4).trans g5
      cases b with
      | false =>
        dsimp only
        rw [if_neg Bool.false_ne_true] at q5 ⊢
        exact ⟨m5, h5, acc, rel5, gB, q5⟩
      | true =>
        dsimp only
        rw [if_pos rfl] at q5 ⊢
        refine ⟨m5, h5, a4, _, rel5, rs4.mono g5, q5, fun H6 m6 h6 w y q6 rel6 rw g6 => ?_⟩
        obtain ⟨e6, hz, hI6⟩ := q6
        have gC := gB.trans g6
        have at6 : m6[h1.length]? = some D := gC.at atD
        obtain ⟨vs6, hp6, rp6⟩ := rel6.obj _ _ _ at6 e6
        refine ⟨vs6, hp6, by rw [rp6.len, line]; exact hz, m6, _, acc ++ [y], rel6.write (ao' := .lst (acc ++ [y])) at6 e6 (.lst hp6) ⟨_, upd_same, (rp6.append (.cons rw .nil)).mono (.lst hp6)⟩, gC.trans (.lst hp6), hI6⟩
  · have e : i = items.length := by omega
    subst e
    obtain ⟨gd, ea, nx⟩ := hd acc h2 hI
    have at2 : m2[h1.length]? = some D := g2.at atD
    exact .inl ⟨good.stop H2 m2 h2 rel2 gd (gD.trans g2), lk _ _ _ _ _ nx rel2 (.ref at2) ((g1.trans gD).trans g2)⟩
theorem ae_lc {iter elt : Expr} {ifs : List Expr} {scope : Scope} {own : List (Str × Nat)} {gr : TG} (hc : X.calm = true) (hN : X.N.Nodup) (hi : AI X tg iter it) (ok : BlkOk X.N X.env.scope scope own)
    (hcg : CG X.K (own.map (·.2)) gr g) (mono : ∀ v σ H (Q Q' : L2.St → Hp → Prop), (∀ s h, Q s h → Q' s h) → gr v σ H Q → gr v σ H Q')
    (hg : ∀ (s : Shared) (H : Hp) (C : Addr) (cl : List (Str × Addr)) (fp : List Addr), PG (X.blk s H scope (compEnvC scope cl C X.env) fp) tg gr) (ht : ∀ (s : Shared) (H : Hp) (C : Addr) (cl : List (Str × Addr)) (fp : List Addr), ATs (X.blk s H scope (compEnvC scope cl C X.env) fp) ifs tt)
    (he : ∀ (s : Shared) (H : Hp) (C : Addr) (cl : List (Str × Addr)) (fp : List Addr), AE (X.blk s H scope (compEnvC scope cl C X.env) fp) elt te) (hs : ∀ x, foldedSetIterable iter X.env x = pure x := by intro _; rfl) :
    AE X (.ListComp elt [⟨tg, iter, ifs, 0⟩] scope pos) (lcT it g tt te (own.map (·.2))) := wkE (pe_lc hc hN hi ok hg ht he hs) fun _ _ _ q => lift_lc (wi := upI X.K it) hcg mono q
theorem as_setLc {i : Nat} {y : Str} {py spos : Pos} {iter elt : Expr} {ifs : List Expr} {scope : Scope} {own : List (Str × Nat)} {gr : TG} (hc : X.calm = true) (hN : X.N.Nodup) (hy : X.N[i]? = some y) (hyl : X.env.scope.names.lookup y = some .local)
    (hsw : swapsWith (.ListComp elt [⟨tg, iter, ifs, 0⟩] scope pos) (some (.Name y py)) spos.line X.env = pure true) (hi : AI X tg iter it) (ok : BlkOk X.N X.env.scope scope own)
    (hcg : CG X.K (own.map (·.2)) gr g) (mono : ∀ v σ H (Q Q' : L2.St → Hp → Prop), (∀ s h, Q s h → Q' s h) → gr v σ H Q → gr v σ H Q')
    (hg : ∀ (s : Shared) (H : Hp) (C : Addr) (cl : List (Str × Addr)) (fp : List Addr), PG (X.blk s H scope (compEnvC scope cl C X.env) fp) tg gr) (ht : ∀ (s : Shared) (H : Hp) (C : Addr) (cl : List (Str × Addr)) (fp : List Addr), ATs (X.blk s H scope (compEnvC scope cl C X.env) fp) ifs tt)
    (he : ∀ (s : Shared) (H : Hp) (C : Addr) (cl : List (Str × Addr)) (fp : List Addr), AE (X.blk s H scope (compEnvC scope cl C X.env) fp) elt te) (hs : ∀ x, foldedSetIterable iter X.env x = pure x := by intro _; rfl) :
    AS X (.Assign [.Name y py] (.ListComp elt [⟨tg, iter, ifs, 0⟩] scope pos) spos) (asgT (lcT it g tt te (own.map (·.2))) (gNameT i)) := wkS (ps_setLc hc hN hy hyl hsw hi ok hg ht he hs) fun D σ H ⟨m, h, a, DA, rel, rs, q, lk⟩ =>
  lift_lc (wi := upI X.K it) hcg mono ⟨m, h, a, _, rel, rs, q, fun H1 m1 h1 v x q1 rel1 r1 g1 => lk.nx _ _ _ _ _ q1 rel1 ((rs.mono g1).set r1 i) g1⟩

/-! ### iterators -/
/-- a list or a tuple: an iterator of the kind that the value has -/
theorem pi_seq {l : Expr} {tl : TE} (hl : PE X l tl) : PI X tg l (fun σ H R => tl σ H fun x H1 => (∃ a, x = .ref a ∧ (∃ xs, SqL X.K H1 a xs) ∧ R (Itl X.K a) H1) ∨ ∃ a, x = .ref a ∧ (∃ xs, SqT X.K H1 a xs) ∧ R (Itt X.K a) H1) := by
  refine ⟨fun pins s σ H R I h => ?_⟩
  refine thn (hl.run pins s σ H _ I h) fun vv s1 ⟨x, H1, J1, rr, qq⟩ => ?_
  have isz : ∀ b ∈ [s1.heap.objs.size], FpOk X pins H1 b := fun b hb => by
    cases List.mem_singleton.mp hb
    exact J1.fpOk (Nat.le_refl _) (J1.hok.fresh (Nat.le_refl _))
  rcases qq with ⟨a, rfl, ⟨xs, hx⟩, hR⟩ | ⟨a, rfl, ⟨xs, hx⟩, hR⟩
  · cases (show vv = Value.ref a from rr)
    obtain ⟨ws, w1, w2, _⟩ := J1.list hx
    exact wpAny_pyIter_list w2.isList ⟨_, [_], _, _, H1, rfl, J1.kept (t' := s1.toks) fun b o z => Heap.get?_push_of_some _ z, turn_list a _, ⟨_, Heap.get?_push_size _ rfl, rfl, rfl⟩, isz, hR⟩
  · cases (show vv = Value.ref a from rr)
    obtain ⟨ws, w1, w2, _⟩ := J1.tuple hx
    exact wpAny_pyIter_tuple (show s1.heap.IsTuple a ws.toArray from w2) ⟨_, [_], _, _, H1, rfl, J1.kept (t' := s1.toks) fun b o z => Heap.get?_push_of_some _ z, turn_tuple a _, ⟨_, Heap.get?_push_size _ rfl, rfl, rfl⟩, isz, hR⟩
theorem good_list {K : PySem.W.Frag} {p : Addr} {xs : List AV} {guard : AH → Prop} {H0 : Hp} {m0 : List Addr} (hq : ∀ H m h, Rel K H m h → guard h → Grow K H0 m0 H m → ∃ vs, SqL K H p vs ∧ RepL K H m vs xs) : GoodIt K (Itl K p) xs guard H0 m0 :=
  ⟨fun i x H m h hx rel gd g => by
    obtain ⟨vs, s, r⟩ := hq H m h rel gd g
    obtain ⟨v, hv, rv⟩ := r.at hx
    refine ⟨⟨vs, v, s, hv⟩, fun w H' ⟨e, y⟩ => ?_⟩
    subst e
    have := y vs s
    rw [hv] at this
    cases this
    exact ⟨rel, rv, .refl⟩,
  fun H m h rel gd g => by
    obtain ⟨vs, s, r⟩ := hq H m h rel gd g
    exact ⟨vs, s, by rw [r.len]; exact Nat.le_refl _⟩⟩
theorem good_tup {K : PySem.W.Frag} {p : Addr} {vs : List V} {xs : List AV} {guard : AH → Prop} {H0 : Hp} {m0 : List Addr} (hs : SqT K H0 p vs) (hr : RepL K H0 m0 vs xs) : GoodIt K (Itt K p) xs guard H0 m0 :=
  ⟨fun i x H m h hx rel gd g => by
    have s := g.tup p vs hs
    have r := hr.mono g
    obtain ⟨v, hv, rv⟩ := r.at hx
    refine ⟨⟨vs, v, s, hv⟩, fun w H' ⟨e, y⟩ => ?_⟩
    subst e
    have := y vs s
    rw [hv] at this
    cases this
    exact ⟨rel, rv, .refl⟩,
  fun H m h rel gd g => ⟨vs, g.tup p vs hs, by rw [hr.len]; exact Nat.le_refl _⟩⟩
theorem iSeq_inv {n : Nat} {h1 : AH} {R : List AV → (AH → Prop) → AH → Prop} (q : (match h1[n]? with
    | some (.lst xs) => R xs (fun h => h[n]? = some (.lst xs)) h1
    | _ => False)) : ∃ xs, h1[n]? = some (.lst xs) ∧ R xs (fun h => h[n]? = some (.lst xs)) h1 := by
  split at q
  · rename_i xs e
    exact ⟨xs, e, q⟩
  · exact q.elim
theorem ai_seq {l : Expr} (hl : AE X l te) : AI X tg l (iSeqT te) := wkI (pi_seq hl) fun σ H R ⟨m, h, a, RA, rel, rs, q, lk⟩ => by
  refine ⟨m, h, a, _, rel, rs, q, fun H1 m1 h1 v x q1 rel1 r1 g1 => ?_⟩
  cases x with
  | tup xs =>
    obtain ⟨p, vs, rfl, hp, rp⟩ := r1.tup_inv
    exact .inr ⟨p, rfl, ⟨vs, hp⟩, lk _ _ _ _ _ q1 rel1 g1 _ (good_tup hp rp)⟩
  | rol xs =>
    obtain ⟨p, vs, rfl, hp, rp⟩ := r1.rol_inv
    exact .inl ⟨p, rfl, ⟨vs, hp.sq⟩, lk _ _ _ _ _ q1 rel1 g1 _ (good_list fun H m h _ _ g => ⟨vs, (g.rol p vs hp).sq, rp.mono g⟩)⟩
  | ref n =>
    obtain ⟨xs, e, q2⟩ := iSeq_inv q1
    obtain ⟨p, vs, rfl, hn, hp, rp⟩ := rel1.lst r1 e
    refine .inl ⟨p, rfl, ⟨vs, SqL.of hp⟩, lk _ _ _ _ _ q2 rel1 g1 _ (good_list fun H m h rel gd g => ?_)⟩
    obtain ⟨ws, e1, e2⟩ := rel.obj _ _ _ (g.at hn) gd
    exact ⟨ws, SqL.of e1, e2⟩
  | _ => exact (show False from q1).elim
theorem zrange_get {lo : Int} {n i : Nat} {x : AV} (h : (zrange lo n)[i]? = some x) : i < n ∧ x = .int (lo + i) := by
  unfold zrange at h
  rw [List.getElem?_map] at h
  by_cases hi : i < n
  · rw [List.getElem?_range hi] at h
    cases h
    exact ⟨hi, rfl⟩
  · rw [List.getElem?_eq_none (by simp; omega)] at h
    cases h
theorem zrange_len {lo : Int} {n : Nat} : (zrange lo n).length = n := by
  unfold zrange
  simp
theorem good_rng {K : PySem.W.Frag} {lo : Int} {n : Nat} {guard : AH → Prop} {H0 : Hp} {m0 : List Addr} : GoodIt K (Itr lo n) (zrange lo n) guard H0 m0 :=
  ⟨fun i x H m h hx rel gd g => by
    obtain ⟨hi, rfl⟩ := zrange_get hx
    refine ⟨hi, fun w H' ⟨e, y⟩ => ?_⟩
    subst e y
    exact ⟨rel, .int _, .refl⟩,
  fun H m h rel gd g => by
    rw [zrange_len]
    exact Nat.le_refl _⟩
theorem ai_range1 {b : Expr} {p : Pos} (hg : Gl X "range") (hm : X.mg "range" = none) (ha : AA X [b] tl) (hs : starEach [b] X.env = [(false, eval b X.env)] := by rfl) : AI X tg (.Call (.Name "range" p) [b] [] pos) (iRng1T tl) :=
  wkI (pi_range1 hg hm ha hs) fun σ H R ⟨m, h, a, RA, rel, rs, q, lk⟩ => by
  refine ⟨m, h, a, _, rel, rs, q, fun H1 m1 h1 vs xs q1 rel1 r1 g1 => ?_⟩
  split at q1
  · rename_i n
    obtain ⟨v, ws, rfl, rv, rn⟩ := r1.cons_inv
    obtain rfl := rn.nil_inv
    cases rv
    obtain ⟨z1, z2, q2⟩ := q1
    exact ⟨n, rfl, z2, z1, lk _ _ _ _ _ q2 rel1 g1 _ good_rng⟩
  · exact q1.elim
theorem ai_range2 {b c : Expr} {p : Pos} (hg : Gl X "range") (hm : X.mg "range" = none) (ha : AA X [b, c] tl) (hs : starEach [b, c] X.env = [(false, eval b X.env), (false, eval c X.env)] := by rfl) (hs2 : starEach [c] X.env = [(false, eval c X.env)] := by rfl) :
    AI X tg (.Call (.Name "range" p) [b, c] [] pos) (iRng2T tl) :=
  wkI (pi_range2 hg hm ha hs hs2) fun σ H R ⟨m, h, a, RA, rel, rs, q, lk⟩ => by
  refine ⟨m, h, a, _, rel, rs, q, fun H1 m1 h1 vs xs q1 rel1 r1 g1 => ?_⟩
  split at q1
  · rename_i i n
    obtain ⟨v, ws, rfl, rv, rn⟩ := r1.cons_inv
    obtain ⟨v2, ws2, rfl, rv2, rn2⟩ := rn.cons_inv
    obtain rfl := rn2.nil_inv
    cases rv
    cases rv2
    obtain ⟨z1, q2⟩ := q1
    exact ⟨i, n, rfl, z1, lk _ _ _ _ _ q2 rel1 g1 _ good_rng⟩
  · exact q1.elim
end
end AL

/-! AL4: zip, enumerate, a text's signs; a def by its body; the law's end. -/
namespace AL
open PySem PySem.Spec PyProof.Rows L2
/-! ### enumerate over a tuple -/
set_option maxHeartbeats 4000000 in
theorem meets_enum1 {v : Value} {o : Obj} {Z : Heap → Prop} (B : Begins v o Z) :
    Meets (Builtin.«enumerate.__new__» ⟨[.type "enumerate", v], []⟩) (fun _ C z => Z z.heap ∧
      C (.ok (.ret (.ref (z.heap.push o).objs.size))) { z with heap := (z.heap.push o).push { cls := .type "enumerate", data := .fields #[.none, .bool false, .ref z.heap.objs.size, rawInt 0, .none, .none] } }) :=
  .of_wp fun pr ww AA C z hz => by
    obtain ⟨z1, z2, z3, z4, z5⟩ := z
    obtain ⟨k1, k2⟩ := hz
    have hsub := sub_enumerate
    have st1 : ∀ {A1 : Around} {E1 : Value → Shared → Prop} {Q1 : Value → Shared → Prop}, Q1 (.ref z1.objs.size) ⟨z1.push o, z2, z3, z4, z5⟩ → wpAny (model pr ww) A1 (pyIter v) Q1 E1 ⟨z1, z2, z3, z4, z5⟩ :=
      fun hh => B.iter pr ww _ _ ⟨z1, z2, z3, z4, z5⟩ _ k1 hh
    wp_walk using st1
    refine wpAny_stack_any fun sk => wpAny_pure ?_
    split
    · rename_i cc _ _ _ _ _
      cases (cc == Value.type "enumerate")
      · wp_walk using st1
        exact ⟨_, rfl, k2⟩
      · wp_walk using st1
        exact ⟨_, rfl, k2⟩
    · wp_walk using st1
      exact ⟨_, rfl, k2⟩
def Itet (K : PySem.W.Frag) (a : Addr) : It where
  go := fun i H => ∃ (xs : List V) (x : V), SqT K H a xs ∧ xs[i]? = some x
  yld := fun i H v H' => ∃ T x, v = .ref T ∧ H T = none ∧ H' = L2.upd H T (.tup [.int (i : Nat), x]) ∧ ∀ xs, SqT K H a xs → xs[i]? = some x
  stop := fun i H => ∃ xs : List V, SqT K H a xs ∧ xs.length = i
theorem turn_enumT {P : Program} {w : World} {K : PySem.W.Frag} {elts : List Expr} {kk : Nat} {tpos : Pos} (a e it : Addr) (hne : e ≠ it) :
    Turn P w K (.Tuple elts kk tpos) (Itet K a) [e, it] e (fun i h => (∃ old, IsEnum h e it (0 + (i : Int)) old) ∧ h.IsTupleIter it a i) where
  mem := by simp
  obj := fun i h ⟨⟨old, he⟩, ⟨o, ho, hc, hd⟩⟩ b hb => by
    rcases List.mem_cons.mp hb with z | z
    · subst z
      exact ⟨_, he, fun v q => nomatch q⟩
    · cases List.mem_singleton.mp z
      exact ⟨o, ho, fun v q => by rw [hd] at q; cases q⟩
  keep := fun i h h' ⟨⟨old, he⟩, hi⟩ k => ⟨⟨old, k e (by simp) _ he⟩, hi.at fun o q => k it (by simp) o q⟩
  item := by
    intro X hP hw hK hc i pins s σ H E I hf ⟨⟨old, he⟩, hit⟩ ⟨xs, x, hq, hx⟩
    subst hP hw hK
    obtain ⟨its, rv, p, hz⟩ := I.tuple hq
    obtain ⟨u, hu, ru⟩ := rv.get hx
    have hai : a ≠ it := by
      rintro rfl
      obtain ⟨o1, h1, c1, _⟩ := p
      obtain ⟨o2, h2, c2, _⟩ := hit
      rw [h1] at h2
      cases h2
      rw [c1] at c2
      exact absurd c2 (by decide)
    have hae : e ≠ a := by
      rintro rfl
      obtain ⟨o1, h1, c1, _⟩ := p
      have he' : s.heap.get? e = some _ := he
      rw [h1] at he'
      cases he'
      exact absurd (show Value.type "enumerate" = Value.type "tuple" from c1) (by decide)
    have hh : X.A.in1.handled = none := I.ok.hd hc
    have D := Draws.tuple (prog := X.prog) (w := X.w) hh it a hai its.toArray
    have W := WalksT.enumFrom 0 D e hne (by simp [hne, hae]) (by simp)
    have hlt : i < its.toArray.size := by
      have := (List.getElem?_eq_some_iff.mp hu).1
      simpa using this
    refine W.item i s _ E hlt ⟨⟨old, he⟩, hit, p⟩ fun T vals h' tk ⟨t, y, hy, ev⟩ hT hTup hMid hk => ?_
    subst ev
    have hyu : y = u := by
      have h2 : its[i]? = some y := by simpa using hy
      rw [hu] at h2
      exact (Option.some.inj h2).symm
    subst hyu
    have hap := W.apart i T h' hMid
    refine ⟨_, rfl, W.go elts kk tpos i T _ _ E hMid fun h'' hSt hk2 => ?_⟩
    have new : ObjOk X.prog X.w (L2.upd H T (.tup [.int (i : Nat), x])) h'' T (.tup [.int (i : Nat), x]) := by
      obtain ⟨o, ho, hc2, n, hd⟩ := hTup
      refine ⟨by show 2 ≤ sizeLine; rw [sizeLine_eq]; decide, [.int (0 + (i : Int)) t, y], .cons ⟨t, ?_⟩ (.cons ru .nil), ⟨o, hk2 T o hap ho, hc2, n, hd⟩⟩
      rw [Int.zero_add]
    have I1 : Inv X pins σ (L2.upd H T (.tup [.int (i : Nat), x])) { s with heap := h'', toks := tk } :=
      I.turnedNew (ch := [e, it]) (fun b ob hb q => hk2 b ob hb (hk b ob hb q)) hf hT new
    refine ⟨.ref T, _, I1, rfl, ⟨T, x, rfl, I.hok.fresh hT, rfl, fun ys hy => by rw [I.tuple_inj hy hq]; exact hx⟩, ⟨hSt.1, hSt.2.1⟩, fun b hb => ?_⟩
    have hb' : b ≠ T := fun z => hap (z ▸ hb)
    rw [upd_ne hb']
    exact (hf b hb).1
  done := by
    intro X hP hw hK hc i pins s σ H E I hf ⟨⟨old, he⟩, hit⟩ ⟨xs, hq, hx⟩
    subst hP hw hK
    obtain ⟨its, rv, p, hz⟩ := I.tuple hq
    have hai : a ≠ it := by
      rintro rfl
      obtain ⟨o1, h1, c1, _⟩ := p
      obtain ⟨o2, h2, c2, _⟩ := hit
      rw [h1] at h2
      cases h2
      rw [c1] at c2
      exact absurd c2 (by decide)
    have hh : X.A.in1.handled = none := I.ok.hd hc
    have hae : e ≠ a := by
      rintro rfl
      obtain ⟨o1, h1, c1, _⟩ := p
      have he' : s.heap.get? e = some _ := he
      rw [h1] at he'
      cases he'
      exact absurd (show Value.type "enumerate" = Value.type "tuple" from c1) (by decide)
    have D := Draws.tuple (prog := X.prog) (w := X.w) hh it a hai its.toArray
    have W := WalksT.enumFrom 0 D e hne (by simp [hne, hae]) (by simp)
    have hlen : i = its.toArray.size := by
      have := rv.length
      simp
      omega
    subst hlen
    refine W.done s _ E ⟨⟨old, he⟩, hit, p⟩ fun h' tk hk => ⟨rfl, I.turnedL (t' := tk) (ch := [e, it]) (fun b o hb q => hk b o hb q) hf⟩
  self := fun A i s Q E ⟨⟨_, he⟩, _⟩ h => wpAny_pyIter_enum he h

section
variable {X : Cx} {e tg : Expr} {es : List Expr} {pos : Pos} {te : ATE} {tl : ATA}
/-- enumerate of a list or a tuple -/
theorem pi_enumA {ta : TA} {p tpos : Pos} {elts : List Expr} {kk : Nat} (hg : Gl X "enumerate") (hm : X.mg "enumerate" = none) (ha : PA X [e] ta) (hs : starEach [e] X.env = [(false, eval e X.env)] := by rfl) :
    PI X (.Tuple elts kk tpos) (.Call (.Name "enumerate" p) [e] [] pos) (fun σ H R => ta σ H fun vs H1 => ∃ a, vs = [.ref a] ∧ ((∃ xs, SqL X.K H1 a xs ∧ R (Ite X.K a) H1) ∨ ∃ xs, SqT X.K H1 a xs ∧ R (Itet X.K a) H1)) := by
  refine ⟨fun pins s σ H R I h => ?_⟩
  refine Call_ (ld_blt I hg hm boot_enumerate (PyProof.Rows.callWith_type1 (thn (ha.run pos pins s σ H _ I h) fun us s1 ⟨vs, H1, J, rr, qq⟩ => ?_) hs rfl))
  obtain ⟨a, ex, qq⟩ := qq
  subst ex
  obtain ⟨u1, rfl, ru⟩ := vals1 rr
  cases (show u1 = Value.ref a from ru)
  have two : ∀ b ∈ [s1.heap.objs.size + 1, s1.heap.objs.size], FpOk X pins H1 b := fun b hb => by
    have hle : s1.heap.objs.size ≤ b := by
      rcases List.mem_cons.mp hb with z | z
      · omega
      · have := List.mem_singleton.mp z
        omega
    exact J.fpOk hle (J.hok.fresh hle)
  rcases qq with ⟨xs, hx, hR⟩ | ⟨xs, hx, hR⟩
  · obtain ⟨ws, w1, w2, _⟩ := J.list hx
    refine call_enumerate_list w2.isList fun h' he hit hsz hk => wpAny_pyIter_enum he ?_
    exact ⟨s1.heap.objs.size + 1, [s1.heap.objs.size + 1, s1.heap.objs.size], _, _, H1, rfl, J.kept (t' := s1.toks) hk, turn_enum a (s1.heap.objs.size + 1) s1.heap.objs.size, ⟨⟨.none, he⟩, hit, Nat.succ_ne_self _⟩, two, hR⟩
  · obtain ⟨ws, w1, w2, _⟩ := J.tuple hx
    refine callType_new F.called_enumerate (by decide) (F.typeCall_enumerate_1 _) (F.newCall_enumerate_1 _) (fun obj => F.args_object_init_2 obj _) F.entry_enumerate_new
      (meets_enum1 (begins_tuple a ws.toArray)) ⟨w2, ?_⟩
    have B := begins_tuple a ws.toArray
    have hz : (s1.heap.push { cls := .type "tuple_iterator", data := .fields #[.ref a, .int 0 0] }).objs.size = s1.heap.objs.size + 1 := Heap.size_push ..
    show _ ∧ _
    rw [hz]
    have he := Heap.get?_push_size (s1.heap.push { cls := .type "tuple_iterator", data := .fields #[.ref a, .int 0 0] }) (o := { cls := .type "enumerate", data := .fields #[.none, .bool false, .ref s1.heap.objs.size, rawInt 0, .none, .none] }) rfl
    rw [hz] at he
    refine ⟨⟨_, he, rfl⟩, wpAny_pyIter_enum (i := 0) (old := .none) (it := s1.heap.objs.size) he ?_⟩
    have kp : ∀ b o, s1.heap.get? b = some o → _ := fun b o z => Heap.get?_push_of_some { cls := .type "enumerate", data := .fields #[.none, .bool false, .ref s1.heap.objs.size, rawInt 0, .none, .none] } (Heap.get?_push_of_some { cls := .type "tuple_iterator", data := .fields #[.ref a, .int 0 0] } z)
    exact ⟨s1.heap.objs.size + 1, [s1.heap.objs.size + 1, s1.heap.objs.size], _, _, H1, rfl, J.kept (t' := s1.toks) kp, turn_enumT a (s1.heap.objs.size + 1) s1.heap.objs.size (Nat.succ_ne_self _),
      ⟨⟨.none, he⟩, ⟨_, Heap.get?_push_of_some _ (Heap.get?_push_size _ rfl), rfl, rfl⟩⟩, two, hR⟩
/-! ### the plain side -/
theorem enumV_get : ∀ {xs : List AV} {k i : Nat} {y : AV}, (enumV k xs)[i]? = some y → ∃ x, xs[i]? = some x ∧ y = .tup [.int ((k + i : Nat) : Int), x]
  | [], k, i, y, h => by simp [enumV] at h
  | x :: xs, k, 0, y, h => by
    simp [enumV] at h
    exact ⟨x, rfl, h.symm⟩
  | x :: xs, k, i + 1, y, h => by
    have h : (enumV (k + 1) xs)[i]? = some y := by simpa [enumV] using h
    obtain ⟨z, e1, e2⟩ := enumV_get h
    refine ⟨z, by simpa using e1, ?_⟩
    rw [e2]
    congr 4
    omega
theorem enumV_len : ∀ {xs : List AV} {k : Nat}, (enumV k xs).length = xs.length
  | [], _ => rfl
  | _ :: xs, k => by
    show (enumV (k + 1) xs).length + 1 = xs.length + 1
    rw [enumV_len]
theorem good_enumT {K : PySem.W.Frag} {p : Addr} {vs : List V} {xs : List AV} {guard : AH → Prop} {H0 : Hp} {m0 : List Addr} (hs : SqT K H0 p vs) (hr : RepL K H0 m0 vs xs) : GoodIt K (Itet K p) (enumV 0 xs) guard H0 m0 :=
  ⟨fun i x H m h hx rel gd g => by
    obtain ⟨z, hz, rfl⟩ := enumV_get hx
    have s := g.tup p vs hs
    obtain ⟨v, hv, rv⟩ := (hr.mono g).at hz
    refine ⟨⟨vs, v, s, hv⟩, fun w H' ⟨T, y, e1, hT, e2, hy⟩ => ?_⟩
    subst e1 e2
    have := hy vs s
    rw [hv] at this
    cases this
    rw [Nat.zero_add]
    exact ⟨rel.off hT, RepL.tup (SqT.of upd_same) (.cons (.int _) (.cons (rv.mono (.off hT)) .nil)), .off hT⟩,
  fun H m h rel gd g => ⟨vs, g.tup p vs hs, by rw [hr.len, enumV_len]⟩⟩
theorem good_enumL {K : PySem.W.Frag} {p : Addr} {xs : List AV} {guard : AH → Prop} {H0 : Hp} {m0 : List Addr} (hq : ∀ H m h, Rel K H m h → guard h → Grow K H0 m0 H m → ∃ vs, SqL K H p vs ∧ RepL K H m vs xs) : GoodIt K (Ite K p) (enumV 0 xs) guard H0 m0 :=
  ⟨fun i x H m h hx rel gd g => by
    obtain ⟨z, hz, rfl⟩ := enumV_get hx
    obtain ⟨vs, s, r⟩ := hq H m h rel gd g
    obtain ⟨v, hv, rv⟩ := r.at hz
    refine ⟨⟨vs, v, s, hv⟩, fun w H' ⟨T, y, e1, hT, e2, hy⟩ => ?_⟩
    subst e1 e2
    have := hy vs s
    rw [hv] at this
    cases this
    rw [Nat.zero_add]
    exact ⟨rel.off hT, RepL.tup (SqT.of upd_same) (.cons (.int _) (.cons (rv.mono (.off hT)) .nil)), .off hT⟩,
  fun H m h rel gd g => by
    obtain ⟨vs, s, r⟩ := hq H m h rel gd g
    exact ⟨vs, s, by rw [r.len, enumV_len]; exact Nat.le_refl _⟩⟩
/-- a list by its kind, for ever -/
theorem lst_at {K : PySem.W.Frag} {H : Hp} {m : List Addr} {h : AH} {v : V} {x : AV} {xs : List AV} (rel : Rel K H m h) (r : Rep K H m v x) (e : lstOf x h = some xs) :
    ∃ p vs, v = .ref p ∧ SqL K H p vs ∧ RepL K H m vs xs ∧ ∀ H' m' h', Rel K H' m' h' → lstOf x h' = some xs → Grow K H m H' m' → ∃ ws, SqL K H' p ws ∧ RepL K H' m' ws xs := by
  cases x with
  | ref n =>
    simp only [lstOf] at e
    split at e
    · rename_i ys e1
      cases e
      obtain ⟨p, vs, rfl, hn, hp, rp⟩ := rel.lst r e1
      refine ⟨p, vs, rfl, SqL.of hp, rp, fun H' m' h' rel' e' g => ?_⟩
      simp only [lstOf] at e'
      split at e'
      · rename_i zs e2
        cases e'
        obtain ⟨ws, w1, w2⟩ := rel'.obj _ _ _ (g.at hn) e2
        exact ⟨ws, SqL.of w1, w2⟩
      · cases e'
    · cases e
  | rol ys =>
    cases e
    obtain ⟨p, vs, rfl, hp, rp⟩ := r.rol_inv
    exact ⟨p, vs, rfl, hp.sq, rp, fun H' m' h' rel' e' g => ⟨vs, (g.rol p vs hp).sq, rp.mono g⟩⟩
  | _ => cases e
theorem ai_enum {p tpos : Pos} {elts : List Expr} {kk : Nat} (hg : Gl X "enumerate") (hm : X.mg "enumerate" = none) (ha : AA X [e] tl) (hs : starEach [e] X.env = [(false, eval e X.env)] := by rfl) :
    AI X (.Tuple elts kk tpos) (.Call (.Name "enumerate" p) [e] [] pos) (iEnumT tl) := wkI (pi_enumA hg hm ha hs) fun σ H R ⟨m, h, a, RA, rel, rs, q, lk⟩ => by
  refine ⟨m, h, a, _, rel, rs, q, fun H1 m1 h1 vs xs q1 rel1 r1 g1 => ?_⟩
  split at q1
  · rename_i ys
    obtain ⟨v, ws, rfl, rv, rn⟩ := r1.cons_inv
    obtain rfl := rn.nil_inv
    obtain ⟨p, vs, rfl, hp, rp⟩ := rv.tup_inv
    exact ⟨p, rfl, .inr ⟨vs, hp, lk _ _ _ _ _ q1 rel1 g1 _ (good_enumT hp rp)⟩⟩
  · rename_i y _
    obtain ⟨v, ws, rfl, rv, rn⟩ := r1.cons_inv
    obtain rfl := rn.nil_inv
    split at q1
    · rename_i ys e
      obtain ⟨p, vs, rfl, hp, rp, al⟩ := lst_at rel1 rv e
      exact ⟨p, rfl, .inl ⟨vs, hp, lk _ _ _ _ _ q1 rel1 g1 _ (good_enumL al)⟩⟩
    · exact q1.elim
  · exact q1.elim
theorem zip2_get : ∀ {xs ys : List AV} {i : Nat} {z : AV}, (zip2 xs ys)[i]? = some z → ∃ x y, xs[i]? = some x ∧ ys[i]? = some y ∧ z = .tup [x, y]
  | [], ys, i, z, h => by simp [zip2] at h
  | _ :: _, [], i, z, h => by simp [zip2] at h
  | x :: xs, y :: ys, 0, z, h => by
    simp [zip2] at h
    exact ⟨x, y, rfl, rfl, h.symm⟩
  | x :: xs, y :: ys, i + 1, z, h => by
    have h : (zip2 xs ys)[i]? = some z := by simpa [zip2] using h
    obtain ⟨a, b, h1, h2, h3⟩ := zip2_get h
    exact ⟨a, b, by simpa using h1, by simpa using h2, h3⟩
theorem zip2_len : ∀ {xs ys : List AV}, (zip2 xs ys).length = min xs.length ys.length
  | [], ys => by simp [zip2]
  | _ :: _, [] => by simp [zip2]
  | x :: xs, y :: ys => by
    simp only [zip2, List.length_cons]
    rw [zip2_len]
    omega
theorem ai_zip {e2 : Expr} {p tpos : Pos} {elts : List Expr} {kk : Nat} (hg : Gl X "zip") (hm : X.mg "zip" = none) (ha : AA X [e, e2] tl)
    (hs : starEach [e, e2] X.env = (false, eval e X.env) :: starEach [e2] X.env := by rfl) (hpl : (backTo pos (starEach [e2] X.env)).any (·.1) = false := by rfl) :
    AI X (.Tuple elts kk tpos) (.Call (.Name "zip" p) [e, e2] [] pos) (iZipT tl) := wkI (RZ.pi_zipA hg hm ha hs hpl) fun σ H R ⟨m, h, a, RA, rel, rs, q, lk⟩ => by
  refine ⟨m, h, a, _, rel, rs, q, fun H1 m1 h1 vs xs q1 rel1 r1 g1 => ?_⟩
  split at q1
  · rename_i xs ys
    obtain ⟨v, ws, rfl, rv, rn⟩ := r1.cons_inv
    obtain ⟨v2, ws2, rfl, rv2, rn2⟩ := rn.cons_inv
    obtain rfl := rn2.nil_inv
    obtain ⟨p, vs, rfl, hp, rp⟩ := rv.tup_inv
    obtain ⟨p2, vs2, rfl, hp2, rp2⟩ := rv2.tup_inv
    refine ⟨p, p2, vs, vs2, rfl, .inr ⟨hp, hp2, lk _ _ _ _ _ q1 rel1 g1 _ ⟨fun i x H m h hx rel gd g => ?_, fun H m h rel gd g => ?_⟩⟩⟩
    · obtain ⟨x1, y1, e1, e2, rfl⟩ := zip2_get hx
      obtain ⟨w1, k1, k2⟩ := (rp.mono g).at e1
      obtain ⟨w2, k3, k4⟩ := (rp2.mono g).at e2
      have s1 := g.tup _ _ hp
      have s2 := g.tup _ _ hp2
      refine ⟨⟨vs, vs2, w1, w2, s1, s2, k1, k3⟩, fun w H' ⟨T, y, z, z1, hT, z2, z3, z4⟩ => ?_⟩
      subst z1 z2
      have a1 := z3 vs s1
      have a2 := z4 vs2 s2
      rw [k1] at a1
      rw [k3] at a2
      cases a1
      cases a2
      exact ⟨rel.off hT, RepL.tup (SqT.of upd_same) (.cons (k2.mono (.off hT)) (.cons (k4.mono (.off hT)) .nil)), .off hT⟩
    · refine ⟨vs, vs2, g.tup _ _ hp, g.tup _ _ hp2, ?_⟩
      have l1 := rp.len
      have l2 := rp2.len
      rw [zip2_len]
      omega
  · rename_i x y _
    split at q1
    · rename_i xs ys e1 e2
      obtain ⟨v, ws, rfl, rv, rn⟩ := r1.cons_inv
      obtain ⟨v2, ws2, rfl, rv2, rn2⟩ := rn.cons_inv
      obtain rfl := rn2.nil_inv
      obtain ⟨p, vs, rfl, hp, rp, al⟩ := lst_at rel1 rv e1
      obtain ⟨p2, vs2, rfl, hp2, rp2, al2⟩ := lst_at rel1 rv2 e2
      refine ⟨p, p2, vs, vs2, rfl, .inl ⟨hp, hp2, lk _ _ _ _ _ q1 rel1 g1 _ ⟨fun i x H m h hx rel gd g => ?_, fun H m h rel gd g => ?_⟩⟩⟩
      · obtain ⟨x1, y1, e1, e2, rfl⟩ := zip2_get hx
        obtain ⟨us, s1, t1⟩ := al H m h rel gd.1 g
        obtain ⟨us2, s2, t2⟩ := al2 H m h rel gd.2 g
        obtain ⟨w1, k1, k2⟩ := t1.at e1
        obtain ⟨w2, k3, k4⟩ := t2.at e2
        refine ⟨⟨us, us2, w1, w2, s1, s2, k1, k3⟩, fun w H' ⟨T, y, z, z1, hT, z2, z3, z4⟩ => ?_⟩
        subst z1 z2
        have a1 := z3 us s1
        have a2 := z4 us2 s2
        rw [k1] at a1
        rw [k3] at a2
        cases a1
        cases a2
        exact ⟨rel.off hT, RepL.tup (SqT.of upd_same) (.cons (k2.mono (.off hT)) (.cons (k4.mono (.off hT)) .nil)), .off hT⟩
      · obtain ⟨us, s1, t1⟩ := al H m h rel gd.1 g
        obtain ⟨us2, s2, t2⟩ := al2 H m h rel gd.2 g
        refine ⟨us, us2, s1, s2, ?_⟩
        have l1 := t1.len
        have l2 := t2.len
        rw [zip2_len]
        omega
    · exact q1.elim
  · exact q1.elim
theorem ai_str {l : Expr} (hl : AE X l te) : AI X tg l (iStrT te) := wkI (pi_str hl) fun σ H R ⟨m, h, a, RA, rel, rs, q, lk⟩ => by
  refine ⟨m, h, a, _, rel, rs, q, fun H1 m1 h1 v x q1 rel1 r1 g1 => ?_⟩
  cases x with
  | str z =>
    cases r1
    refine ⟨z, rfl, lk _ _ _ _ _ q1 rel1 g1 _ ⟨fun i x H m h hx rel gd g => ?_, fun H m h rel gd g => ?_⟩⟩
    · unfold signs at hx
      rw [List.getElem?_map] at hx
      cases hc : z.cps.toList[i]? with
      | none =>
        rw [hc] at hx
        cases hx
      | some c =>
        rw [hc] at hx
        cases hx
        have hi : i < z.cps.size := by
          have := (List.getElem?_eq_some_iff.mp hc).1
          simpa using this
        refine ⟨hi, fun w H' ⟨e1, d, e2, e3⟩ => ?_⟩
        subst e1 e3
        have e4 : z.cps.toList[i]? = some d := by simpa using e2
        rw [hc] at e4
        cases e4
        exact ⟨rel, .str _, .refl⟩
    · show z.cps.size ≤ (signs z).length
      unfold signs
      simp
  | _ => exact (show False from q1).elim
end

/-! ### numbers within a bound -/
section
variable {K : PySem.W.Frag} {H : Hp} {m : List Addr} {h : AH} {v : V} {x : AV} {vs : List V} {xs : List AV}
theorem clBs_all {n : Nat} : ∀ {xs : List AV}, clBs n xs = true ↔ ∀ x ∈ xs, clB n x = true
  | [] => by simp [clBs]
  | x :: xs => by
    simp only [clBs, Bool.and_eq_true, List.mem_cons, forall_eq_or_imp]
    rw [clBs_all]
theorem Rep.cl (r : Rep K H m v x) : clB m.length x = true := by
  induction r with
  | ref hn => exact decide_eq_true (List.getElem?_eq_some_iff.mp hn).1
  | @tup p vs xs hs hl hg ih =>
    show clBs m.length xs = true
    rw [clBs_all]
    intro y hy
    obtain ⟨i, hi, rfl⟩ := List.getElem_of_mem hy
    exact ih i vs[i] xs[i] (List.getElem?_eq_getElem (by omega)) (List.getElem?_eq_getElem hi)
  | @rol p vs xs hs hl hg ih =>
    show clBs m.length xs = true
    rw [clBs_all]
    intro y hy
    obtain ⟨i, hi, rfl⟩ := List.getElem_of_mem hy
    exact ih i vs[i] xs[i] (List.getElem?_eq_getElem (by omega)) (List.getElem?_eq_getElem hi)
  | _ => rfl
theorem RepL.cl (r : RepL K H m vs xs) : clBs m.length xs = true := by
  rw [clBs_all]
  intro y hy
  obtain ⟨i, hi, rfl⟩ := List.getElem_of_mem hy
  have hl := r.len
  exact (r.get i vs[i] xs[i] (List.getElem?_eq_getElem (by omega)) (List.getElem?_eq_getElem hi)).cl
theorem Rel.cl (r : Rel K H m h) : clH h := fun o ho => by
  obtain ⟨i, hi, rfl⟩ := List.getElem_of_mem ho
  have hl := r.len
  have q := r.obj i m[i] h[i] (List.getElem?_eq_getElem (by omega)) (List.getElem?_eq_getElem hi)
  rw [← hl]
  cases he : h[i] with
  | lst xs =>
    rw [he] at q
    obtain ⟨ws, _, q⟩ := q
    exact q.cl
  | dct kvs =>
    rw [he] at q
    obtain ⟨ws, _, _, q⟩ := q
    exact q.cl
/-- fewer numbers -/
theorem Rep.cut {e : List Addr} (r : Rep K H (m ++ e) v x) (hc : clB m.length x = true) : Rep K H m v x := by
  generalize hm : m ++ e = m' at r
  induction r with
  | non => exact .non
  | bl b => exact .bl b
  | int b => exact .int b
  | str b => exact .str b
  | ty b => exact .ty b
  | @ref n p hn =>
    subst hm
    have h1 : n < m.length := of_decide_eq_true hc
    rw [List.getElem?_append_left h1] at hn
    exact .ref hn
  | @tup p vs xs hs hl hg ih =>
    have hc : clBs m.length xs = true := hc
    rw [clBs_all] at hc
    exact .tup hs hl fun i w y h1 h2 => ih i w y h1 h2 (hc y (List.mem_of_getElem? h2))
  | @rol p vs xs hs hl hg ih =>
    have hc : clBs m.length xs = true := hc
    rw [clBs_all] at hc
    exact .rol hs hl fun i w y h1 h2 => ih i w y h1 h2 (hc y (List.mem_of_getElem? h2))
theorem RepL.cut {e : List Addr} (r : RepL K H (m ++ e) vs xs) (hc : clBs m.length xs = true) : RepL K H m vs xs :=
  ⟨r.len, fun i w y h1 h2 => (r.get i w y h1 h2).cut (clBs_all.mp hc y (List.mem_of_getElem? h2))⟩
theorem ORep.cut {e : List Addr} {p : Addr} {o : AO} (r : ORep K H (m ++ e) p o) (hc : clO m.length o = true) : ORep K H m p o := by
  cases o with
  | lst xs =>
    obtain ⟨ws, h1, h2⟩ := r
    exact ⟨ws, h1, h2.cut hc⟩
  | dct kvs =>
    obtain ⟨ws, h1, h2, h3⟩ := r
    exact ⟨ws, h1, h2, h3.cut hc⟩
theorem Rel.cut {e : List Addr} {h1 j : AH} (r : Rel K H (m ++ e) (h1 ++ j)) (hl : m.length = h1.length) (hc : clH h1) : Rel K H m h1 := by
  refine ⟨(List.nodup_append.mp r.nd).1, hl, fun n p o a b => ?_⟩
  have hn : n < m.length := (List.getElem?_eq_some_iff.mp a).1
  have q := r.obj n p o (by rw [List.getElem?_append_left hn]; exact a) (by rw [List.getElem?_append_left (by omega)]; exact b)
  exact q.cut (by rw [hl]; exact hc o (List.mem_of_getElem? b))
/-- what a def's end gives its caller -/
theorem Lk.ret {R : AK} {Q : VK} (rel : Rel K H m h) (lk : Lk K H m R Q) : Lk K H m (retG h R) Q := by
  intro H' m' h' v x q rel' rv g
  rcases q with q | ⟨h1, j, rfl, hl, hc, cx, q⟩ | ⟨h1, j1, ys, j2, rfl, rfl, hl, hc, cx, q⟩
  · exact lk _ _ _ _ _ q rel' rv g
  · obtain ⟨e, rfl⟩ := g.pre
    have hm : m.length = h1.length := by rw [rel.len, hl]
    exact lk H' m h1 v x q (rel'.cut hm hc) (rv.cut (by rw [hm]; exact cx)) ⟨g.tup, g.rol, [], (List.append_nil m).symm⟩
  · obtain ⟨e, rfl⟩ := g.pre
    have hm : m.length = h1.length := by rw [rel.len, hl]
    cases rv with
    | @ref _ p hn =>
      have hx : (h1 ++ (j1 ++ AO.lst ys :: j2))[h1.length + j1.length]? = some (.lst ys) := by
        rw [List.getElem?_append_right (by omega), Nat.add_sub_cancel_left, List.getElem?_append_right (Nat.le_refl _), Nat.sub_self]
        rfl
      obtain ⟨ws, e1, e2⟩ := rel'.obj _ _ _ hn hx
      have r0 : Rel K H' m h1 := rel'.cut hm hc
      have hp : p ∉ m := fun hmem => by
        obtain ⟨i, hi, rfl⟩ := List.getElem_of_mem hmem
        have := Rel.write.nodup_at rel'.nd hn (show (m ++ e)[i]? = some m[i] by rw [List.getElem?_append_left hi]; exact List.getElem?_eq_getElem hi)
        omega
      have gg : Grow K H' m H' (m ++ [p]) := ⟨fun _ _ z => z, fun _ _ z => z, [p], rfl⟩
      refine lk H' (m ++ [p]) _ (.ref p) (.ref h1.length) q ⟨?_, by simp [hm], fun i a o q1 q2 => ?_⟩ (.ref ?_) ⟨g.tup, g.rol, [p], rfl⟩
      · rw [List.nodup_append]
        refine ⟨r0.nd, by simp, fun b hb c hc => ?_⟩
        have : c = p := by simpa using hc
        subst this
        rintro rfl
        exact hp hb
      · by_cases hi : i < m.length
        · rw [List.getElem?_append_left hi] at q1
          rw [List.getElem?_append_left (by omega)] at q2
          exact (r0.obj i a o q1 q2).mono gg rfl
        · rw [List.getElem?_append_right (by omega)] at q1
          rw [List.getElem?_append_right (by omega), ← hm] at q2
          cases hk : i - m.length with
          | zero =>
            rw [hk] at q1 q2
            simp at q1 q2
            subst q1 q2
            exact ⟨ws, e1, (e2.cut (by rw [hm]; exact cx)).mono gg⟩
          | succ k =>
            rw [hk] at q1
            simp at q1
      · rw [← hm, List.getElem?_append_right (Nat.le_refl _), Nat.sub_self]
        rfl
end
/-! ### a def -/
theorem gv_start : ∀ {n : Nat} {xs : List AV} {i : Nat} {x : AV}, gv (startA n xs) i = some x → xs[i]? = some x := by
  have rep : ∀ (k i : Nat), gv (List.replicate k none) i = none := by
    intro k
    induction k with
    | zero => intro i; rfl
    | succ k ih => intro i; cases i with
      | zero => rfl
      | succ i => exact ih i
  have go : ∀ (xs : List AV) (k i : Nat) (x : AV), gv (xs.map some ++ List.replicate k none) i = some x → xs[i]? = some x := by
    intro xs
    induction xs with
    | nil =>
      intro k i x h
      have h : gv (List.replicate k none) i = some x := h
      rw [rep] at h
      cases h
    | cons y ys ih =>
      intro k i x h
      cases i with
      | zero =>
        have h : some y = some x := h
        cases h
        rfl
      | succ i => exact ih k i x h
  exact fun {n xs i x} h => go xs _ i x h
theorem RepS.start {K : PySem.W.Frag} {H : Hp} {m : List Addr} {N : List Str} {vs : List V} {xs : List AV} (r : RepL K H m vs xs) : RepS K H m (L2.start N vs) (startA N.length xs) := by
  refine ⟨?_, fun i x h => ?_⟩
  · unfold L2.start startA
    simp [r.len]
  · obtain ⟨v, h1, h2⟩ := r.at (gv_start h)
    refine ⟨v, ?_, h2⟩
    unfold L2.start
    rw [List.getElem?_append_left (by rw [List.length_map]; exact (List.getElem?_eq_some_iff.mp h1).1), List.getElem?_map, h1]
    rfl
section
variable {P : Program} {w : World} {K : PySem.W.Frag} {mg : Str → Option Value} {base : Heap}
/-- A DEF: its body as a term of rules; on the plain side, that the contract gives what the body asks -/
theorem okA {x qual : Str} {st : Stmt} {f : Addr} {fd : FuncData} {N ps : List Str} {k : Nat} {sp : ASp} {body : ATS} (F : Fun K x qual st f fd) (S : FnScope N ps (defScope st)) (hlen : ∀ xs h R E, sp xs h R E → xs.length = ps.length)
    (hb : ∀ (cdv : Value) (A : Around) (outer : List Env) (s : Shared) (H : Hp) (E : XK), Room k (A.deeper (envOfC qual (defScope st) s.heap.objs.size f cdv)) → ASs (cxOf CX0 P w K mg base N qual (defScope st) f cdv A outer s H E).nox (defBody st) body)
    (hp : ∀ xs h R, clH h → clBs h.length xs = true → sp xs h R (fun _ _ => False) → body (ends (retG h R)) (startA N.length xs) h) : FnOk P w K mg base CX0 (k + 1) f fd ps (upSp K sp) := by
  refine F.ok S (fun vs H Q E ⟨m, h, xs, R, rel, r, q, lk⟩ => by rw [r.len]; exact hlen _ _ _ _ q) fun cdv A outer s H vs Q E hr ⟨m, h, xs, R, rel, r, q, lk⟩ => ⟨_, hb cdv A outer s H E hr, ?_⟩
  have hc : clBs h.length xs = true := by
    rw [← rel.len]
    exact r.cl
  refine ⟨m, h, startA N.length xs, ends (retG h R), rel, .start r, hp xs h R rel.cl hc q, ?_⟩
  have lr := Lk.ret rel lk
  exact ⟨fun H' m' h' σ' a' q1 rel' rs g => lr _ _ _ _ _ q1 rel' .non g, lr, fun _ _ _ _ _ z => z.elim, fun _ _ _ _ _ z => z.elim⟩
/-- the law's own -/
theorem law_up {H : Hp} {a : Addr} {ns : List Int} (hl : ns.length ≤ 63) (hO : Only H) (hS : SqL K H a (ns.map V.int)) : upSp K lawSp [.ref a] H (fun v _ => v = .bl true) (fun _ _ _ => False) := by
  have hR : SqR K H a (ns.map V.int) := by
    rcases hS with (h | ⟨o, h⟩) | h
    · rcases hO a with z | ⟨o, xs, z⟩
      · rw [h] at z
        cases z
      · rw [h] at z
        cases z
    · exact .inl ⟨o, h⟩
    · exact .inr (.inr h)
  have rp : RepL K H [] (ns.map V.int) (ns.map AV.int) := by
    refine ⟨by simp, fun i v x h1 h2 => ?_⟩
    rw [List.getElem?_map] at h1 h2
    cases hn : ns[i]? with
    | none =>
      rw [hn] at h1
      cases h1
    | some z =>
      rw [hn] at h1 h2
      cases h1
      cases h2
      exact .int z
  refine ⟨[], [], [.rol (ns.map AV.int)], fun x _ => x = .bl true, ⟨.nil, rfl, fun n p o h => by simp at h⟩, .cons (.rol hR rp.len rp.get) .nil, ⟨ns, rfl, hl, fun _ => rfl⟩, fun H' m' h' v x q _ r _ => ?_⟩
  subst q
  cases r
  rfl
end
end AL

/-! AL5: defs as facts of the text, calls of them; chains, and more. -/
namespace AL
open PySem PySem.Spec PyProof.Rows L2
/-- a def of the text as it stands behind the top -/
structure DefIs (K : PySem.W.Frag) (mg : Str → Option Value) (x : Str) (st : Stmt) : Prop where
  ex : ∃ f fd, Fun K x x st f fd ∧ mg x = some (.ref f)
/-- a def that keeps a contract -/
structure Cal (P : Program) (w : World) (K : PySem.W.Frag) (mg : Str → Option Value) (base : Heap) (k : Nat) (x : Str) (ps : List Str) (sp : ASp) : Prop where
  ex : ∃ f fd, FnOk P w K mg base CX0 k f fd ps (upSp K sp) ∧ PySem.W.keepIn K (.ref f) = true ∧ Binds K fd ps [] ∧ mg x = some (.ref f)
section
variable {P : Program} {w : World} {K : PySem.W.Frag} {mg : Str → Option Value} {base : Heap}
theorem Cal.mk_ {k : Nat} {x : Str} {st : Stmt} {ps : List Str} {sp : ASp} (F : DefIs K mg x st) (hb : ∀ {f : Addr} {fd : FuncData}, Fun K x x st f fd → Binds K fd ps []) (h : ∀ {f : Addr} {fd : FuncData}, Fun K x x st f fd → FnOk P w K mg base CX0 k f fd ps (upSp K sp)) : Cal P w K mg base k x ps sp := by
  obtain ⟨f, fd, F, g⟩ := F.ex
  exact ⟨f, fd, h F, F.kp, hb F, g⟩
theorem none_ok {k : Nat} {f : Addr} {fd : FuncData} {ps : List Str} {sp : ASp} (h : ∀ xs h R E, sp xs h R E → False) : FnOk P w K mg base CX0 k f fd ps (upSp K sp) :=
  ⟨fun vs H Q E ⟨m, hh, xs, R, rel, r, q, lk⟩ => (h _ _ _ _ q).elim, fun A outer s H args us vs Q E hr he hb hv ⟨m, hh, xs, R, rel, r, q, lk⟩ => (h _ _ _ _ q).elim⟩
end
section
variable {X : Cx} {a b c e : Expr} {es : List Expr} {pos : Pos} {ta tb tc te : ATE} {tl : ATA}
theorem ae_cal {k : Nat} {x : Str} {ps : List Str} {s : ASp} {p : Pos} (C : Cal X.prog X.w X.K X.mg X.base k x ps s) (hr : Room k X.A) (hg : Gl X x) (ha : AA X (e :: es) tl) (hdb : (x == ("__debug__" : Str)) = false := by decide)
    (he : starEach (e :: es) X.env = (false, eval e X.env) :: starEach es X.env := by rfl) (hpl : (backTo pos (starEach es X.env)).any (·.1) = false := by rfl) : AE X (.Call (.Name x p) (e :: es) [] pos) (callT s (fun _ _ => False) tl) := by
  obtain ⟨f, fd, F, kp, b, g⟩ := C.ex
  exact ae_call F hr hg g kp b (E := E0) pass0 ha hdb he hpl
theorem ae_cal0 {k : Nat} {x : Str} {ps : List Str} {s : ASp} {p : Pos} (C : Cal X.prog X.w X.K X.mg X.base k x ps s) (hr : Room k X.A) (hg : Gl X x) (hdb : (x == ("__debug__" : Str)) = false := by decide) :
    AE X (.Call (.Name x p) [] [] pos) (callT s (fun _ _ => False) nilT) := by
  obtain ⟨f, fd, F, kp, b, g⟩ := C.ex
  exact ae_call0 F hr hg g kp b (E := E0) pass0 hdb
/-- a module's constant -/
structure ConIs (K : PySem.W.Frag) (mg : Str → Option Value) (x : Str) (k : AV) : Prop where
  ex : ∃ v u, mg x = some u ∧ RelV v u ∧ ∀ H m, Rep K H m v k
theorem ae_const {x : Str} {k : AV} (hg : Gl X x) (C : ConIs X.K X.mg x k) (hd : (x == ("__debug__" : Str)) = false := by decide) : AE X (.Name x pos) (cT k) := by
  obtain ⟨v, u, g, r, rp⟩ := C.ex
  exact ae_c (pe_glob hg g r hd) rp
theorem as_doc {x j pos'} : AS X (.Expr (.Constant (.str x) j pos) pos') nextT := wkS ps_doc fun D σ H ⟨m, h, a, DA, rel, rs, q, lk⟩ => lk.nx _ _ _ _ _ q rel rs .refl
theorem gTup_mono {K : PySem.W.Frag} {n : Nat} (is : List Nat) : ∀ v σ H (Q Q' : L2.St → Hp → Prop), (∀ s h, Q s h → Q' s h) → gTup K n (rNms is) v σ H Q → gTup K n (rNms is) v σ H Q' :=
  fun v σ H Q Q' hq ⟨a, xs, e1, e2, e3, q⟩ => ⟨a, xs, e1, e2, e3, rNms_mono is _ _ _ _ _ hq q⟩
/-! ### a < b < c -/
theorem lift_chain {r r' : AR2} {σ : L2.St} {H : Hp} {Q : VK} (q : upE X.K (chainT r r' ta tb tc) σ H Q) : tChain (up2 X.K r) (up2 X.K r') (upE X.K ta) (upE X.K tb) (upE X.K tc) σ H Q := by
  obtain ⟨m, h, a, R, rel, rs, q, lk⟩ := q
  refine ⟨m, h, a, _, rel, rs, q, fun H1 m1 h1 v x q1 rel1 r1 g1 => ⟨m1, h1, a, _, rel1, rs.mono g1, q1, fun H2 m2 h2 w y q2 rel2 r2 g2 => ⟨m2, h2, x, y, _, rel2, r1.mono g2, r2, q2, fun H3 m3 h3 z zz q3 rel3 r3 g3 => ?_⟩⟩⟩
  obtain ⟨c, rfl, rfl, q4⟩ := bl_inv r3 q3
  refine ⟨c, rfl, ?_⟩
  cases c with
  | true =>
    rw [if_pos rfl] at q4 ⊢
    exact ⟨m3, h3, a, _, rel3, rs.mono ((g1.trans g2).trans g3), q4, fun H5 m5 h5 u uu q5 rel5 r5 g5 => ⟨m5, h5, y, uu, R, rel5, (r2.mono g3).mono g5, r5, q5, Lk.on lk (((g1.trans g2).trans g3).trans g5)⟩⟩
  | false =>
    rw [if_neg Bool.false_ne_true] at q4 ⊢
    exact lk _ _ _ _ _ q4 rel3 (.bl false) ((g1.trans g2).trans g3)
theorem ae_chain {op op' : CmpOp} {r r' : AR2} (ho : OpR X (compareOp op) (up2 X.K r)) (ho' : OpR X (compareOp op') (up2 X.K r')) (ha : AE X a ta) (hb : AE X b tb) (hc : AE X c tc) (hm : lastMarks [op, op'] [b, c] = false := by with_unfolding_all rfl) : AE X (.Compare a [op, op'] [b, c] pos) (chainT r r' ta tb tc) := wkE (pe_chain ho ho' ha hb hc hm) fun _ _ _ q => lift_chain q
theorem at_chain {op op' : CmpOp} {r r' : AR2} (ho : OpR X (compareOp op) (up2 X.K r)) (ho' : OpR X (compareOp op') (up2 X.K r')) (ha : AE X a ta) (hb : AE X b tb) (hc : AE X c tc) (hm : lastMarks [op, op'] [b, c] = false := by with_unfolding_all rfl) : ATst X (.Compare a [op, op'] [b, c] pos) (cmpT (chainT r r' ta tb tc)) := wkT (pt_chain ho ho' ha hb hc hm) fun σ H Q q => by
  obtain ⟨m, h, a, R, rel, rs, q, lk⟩ := q
  refine lift_chain ⟨m, h, a, _, rel, rs, q, fun H1 m1 h1 v x q1 rel1 r1 g1 => ?_⟩
  obtain ⟨k, rfl, rfl, q2⟩ := bl_inv r1 q1
  exact ⟨k, rfl, lk _ _ _ _ q2 rel1 g1⟩
end
end AL

/-! AL6: the law's own contract at the start. -/
namespace AL
open PySem PySem.Spec PyProof.Rows L2
theorem law_up1 {K : PySem.W.Frag} {H : Hp} {a : Addr} {ns : List Int} (hl : ns.length ≤ 63) (hO : Only H) (hS : SqL K H a (ns.map V.int)) : upSp K sp_law [.ref a] H (fun v _ => v = .bl true) (fun _ _ _ => False) := by
  obtain ⟨m, hh, xs, R, rel, r, ⟨ns, rfl, hl, q⟩, lk⟩ := law_up (K := K) hl hO hS
  exact ⟨m, hh, _, R, rel, r, ⟨ns, rfl, hl, q⟩, lk⟩
end AL

/-! AL7: more rules: constants of the text, slices, more methods and built-ins. -/
namespace AL
open PySem PySem.Spec PyProof.Rows L2
/-! ### tuples of the top -/
def toV : AV → V
  | .int i => .int i
  | .str x => .str x
  | .bl b => .bl b
  | _ => .non
def leafA : AV → Bool
  | .int _ => true
  | .str _ => true
  | .bl _ => true
  | .non => true
  | _ => false
theorem con_tup {K : PySem.W.Frag} {mg : Str → Option Value} {x : Str} {p : Addr} (xs : List AV) {od : Option Addr} {its : Array Value} {n : Nat} {sl : Array (Option Value)} (g : mg x = some (.ref p)) (l : K.lookup p = some ⟨.type "tuple", od, .seq its n, sl⟩) (hs : its.size ≤ sizeLine) (hx : xs.all leafA = true) (hv : Vals (xs.map toV) its.toList) : ConIs K mg x (.tup xs) := by
  refine ⟨.ref p, .ref p, g, rfl, fun H m => .tup (vs := xs.map toV) (.inr ⟨_, its, n, l, rfl, rfl, hs, hv⟩) (List.length_map ..) fun i v y h1 h2 => ?_⟩
  rw [List.getElem?_map, h2] at h1
  cases h1
  have := List.all_eq_true.mp hx y (List.mem_of_getElem? h2)
  cases y with
  | int i => exact .int i
  | str x => exact .str x
  | bl b => exact .bl b
  | non => exact .non
  | _ => cases this
/-! ### parts of rows -/
section
variable {K : PySem.W.Frag} {H : Hp} {m : List Addr} {vs : List V} {xs : List AV}
theorem RepL.take (r : RepL K H m vs xs) (n : Nat) : RepL K H m (vs.take n) (xs.take n) := ⟨by simp [r.len], fun i v x h1 h2 => by
  by_cases hi : i < n
  · rw [List.getElem?_take_of_lt hi] at h1 h2
    exact r.get i v x h1 h2
  · rw [List.getElem?_take_eq_none (by omega)] at h1
    cases h1⟩
theorem RepL.drop (r : RepL K H m vs xs) (n : Nat) : RepL K H m (vs.drop n) (xs.drop n) := ⟨by simp [r.len], fun i v x h1 h2 => by
  rw [List.getElem?_drop] at h1 h2
  exact r.get _ v x h1 h2⟩
theorem RepL.rev (r : RepL K H m vs xs) : RepL K H m vs.reverse xs.reverse := ⟨by simp [r.len], fun i v x h1 h2 => by
  have hi : i < vs.length := by
    have := (List.getElem?_eq_some_iff.mp h1).1
    rwa [List.length_reverse] at this
  rw [List.getElem?_reverse hi] at h1
  rw [List.getElem?_reverse (by rw [← r.len]; exact hi), ← r.len] at h2
  exact r.get _ v x h1 h2⟩
theorem RepL.cutS (r : RepL K H m vs xs) (lo hi : Option Int) : RepL K H m (cutV vs lo hi) (cutA xs lo hi) := by
  have e : ∀ (n d : Nat) (o : Option Int), sixA n d o = HT.sIx n d o := fun n d o => by cases o <;> rfl
  unfold cutV cutA
  rw [e, e, ← r.len]
  exact (r.drop _).take _
theorem RepL.last (r : RepL K H m vs xs) : RepL K H m vs.dropLast xs.dropLast := by
  rw [List.dropLast_eq_take, List.dropLast_eq_take, ← r.len]
  exact r.take _
end
section
variable {X : Cx} {e e1 e2 : Expr} {pos p2 : Pos} {te : ATE} {tl th : ATO} {lo hi : Option Expr}
/-! ### slices -/
def upO (K : PySem.W.Frag) (t : ATO) : TO := fun σ H Q => ∃ m h a R, Rel K H m h ∧ RepS K H m σ a ∧ t a h R ∧ ∀ H' m' h' o, R o h' → Rel K H' m' h' → Grow K H m H' m' → Q o H'
abbrev AO' (X : Cx) (e : Option Expr) (t : ATO) : Prop := PO X e (upO X.K t)
theorem ao_none : AO' X none noneT := ⟨fun pins s σ H Q I ⟨m, h, a, R, rel, rs, q, lk⟩ => po_none.run pins s σ H Q I (lk _ _ _ _ q rel .refl)⟩
theorem ao_some (he : AE X e te) : AO' X (some e) (someT te) := ⟨fun pins s σ H Q I ⟨m, h, a, R, rel, rs, q, lk⟩ => (po_some he).run pins s σ H Q I ⟨m, h, a, _, rel, rs, q, fun H1 m1 h1 v x q1 rel1 r1 g1 => by
  cases r1 with
  | int i => exact ⟨i, rfl, lk _ _ _ _ q1 rel1 g1⟩
  | _ => exact (show False from q1).elim⟩⟩
def upSl (K : PySem.W.Frag) : V → Option Int → Option Int → Hp → VK → Prop := fun x lo hi H Q => ∃ m h ax R, Rel K H m h ∧ Rep K H m x ax ∧ sliceR ax lo hi h R ∧ Lk K H m R Q
theorem slR_inv {n : Nat} {lo hi : Option Int} {h : AH} {R : AK} (q : sliceR (.ref n) lo hi h R) : ∃ xs, h[n]? = some (.lst xs) ∧ R (.ref h.length) (h ++ [.lst (cutA xs lo hi)]) := by
  simp only [sliceR] at q
  split at q
  · rename_i xs e
    exact ⟨xs, e, q⟩
  · exact q.elim
theorem sl_A : L2.SlR X (upSl X.K) := by
  intro pins s σ H x v vl vu lo hi sl Q I rx hs pl pu ⟨m, h, ax, R, rel, r1, q, lk⟩
  cases ax with
  | tup xs =>
    obtain ⟨p, vs, rfl, hp, rp⟩ := r1.tup_inv
    refine sl_tupA pins s σ H _ v vl vu lo hi sl Q I rx hs pl pu ⟨p, vs, rfl, hp, fun ⟨w1, w2⟩ => ?_, fun _ t ht => ?_⟩
    · have e : cutA xs lo hi = xs := by
        have e : ∀ (n d : Nat) (o : Option Int), sixA n d o = HT.sIx n d o := fun n d o => by cases o <;> rfl
        unfold cutA
        rw [e, e, ← rp.len, w1, w2, List.drop_zero, Nat.sub_zero, rp.len, List.take_length]
      have q : R (.tup (cutA xs lo hi)) h := q
      rw [e] at q
      exact lk _ _ _ _ _ q rel r1 .refl
    · exact lk _ _ _ _ _ q (rel.off ht) (.tup (SqT.of upd_same) (rp.cutS lo hi).len ((rp.cutS lo hi).mono (.off ht)).get) (.off ht)
  | rol xs =>
    obtain ⟨p, vs, rfl, hp, rp⟩ := r1.rol_inv
    exact sl_list pins s σ H _ v vl vu lo hi sl Q I rx hs pl pu ⟨p, vs, rfl, hp.sq, fun l hl => lk _ _ _ _ _ q (rel.pushL hl (rp.cutS lo hi)) (.ref rel.last) (.new hl [l])⟩
  | ref n =>
    obtain ⟨ys, e, q⟩ := slR_inv q
    obtain ⟨p, vs, rfl, _, hp, rp⟩ := rel.lst r1 e
    exact sl_list pins s σ H _ v vl vu lo hi sl Q I rx hs pl pu ⟨p, vs, rfl, SqL.of hp, fun l hl => lk _ _ _ _ _ q (rel.pushL hl (rp.cutS lo hi)) (.ref rel.last) (.new hl [l])⟩
  | _ => exact (show False from q).elim
theorem ae_slice (hr : L2.SlR X (upSl X.K)) (he : AE X e te) (hl : AO' X lo tl) (hu : AO' X hi th) : AE X (.Subscript e (.Slice lo hi none p2) pos) (sliceT te tl th) := wkE (pe_slice hr he hl hu) fun σ H Q ⟨m, h, a, R, rel, rs, q, lk⟩ =>
  ⟨m, h, a, _, rel, rs, q, fun H1 m1 h1 v x q1 rel1 r1 g1 => ⟨m1, h1, a, _, rel1, rs.mono g1, q1, fun H2 m2 h2 o2 q2 rel2 g2 => ⟨m2, h2, a, _, rel2, rs.mono (g1.trans g2), q2, fun H3 m3 h3 o3 q3 rel3 g3 => ⟨m3, h3, x, R, rel3, r1.mono (g2.trans g3), q3, Lk.on lk ((g1.trans g2).trans g3)⟩⟩⟩⟩
/-! ### methods -/
theorem ae_bm0 {ok : AV → AH → Prop} {r : ARM} {T : String} {name : Str} {o : Expr} {apos : Pos} {to : ATE} (hok : upOk X.K ok T) (h : PE X (.Call (.Attribute o name apos) [] [] pos) (tBM0 X.K T (upM X.K r) (upE X.K to))) : AE X (.Call (.Attribute o name apos) [] [] pos) (mtT ok r to nilT) := wkE h fun σ H Q ⟨m, h, a, R, rel, rs, q, lk⟩ =>
  ⟨m, h, a, _, rel, rs, q, fun H1 m1 h1 v x q1 rel1 r1 g1 => ⟨hok _ _ _ _ _ rel1 r1 q1.1, m1, h1, x, [], R, rel1, r1, .nil, q1.2, Lk.on lk g1⟩⟩
theorem mt_reverseA : MtM X "list.reverse" (upM X.K reverseR) := by
  intro pins s σ H x xs v us Q I rx rs ⟨m, h, ax, as, R, rel, r1, ra, q, lk⟩
  cases ax with
  | ref n =>
    match as, q, ra with
    | [], q, ra =>
      obtain rfl := ra.nil_inv
      simp only [reverseR] at q
      split at q
      · rename_i ys e
        obtain ⟨p, vs, rfl, hn, hp, rp⟩ := rel.lst r1 e
        refine mt_reverse pins s σ H _ _ v us Q I rx rs ⟨p, vs, rfl, rfl, hp, ?_⟩
        exact lk _ _ _ _ _ q (rel.write hn e (.lst hp) ⟨_, upd_same, rp.rev.mono (.lst hp)⟩) .non (.lst hp)
      · exact q.elim
    | _ :: _, q, _ => exact (show False from q).elim
  | _ => exact (show False by cases as <;> exact q).elim
theorem mt_popA : MtM X "list.pop" (upM X.K popR) := by
  intro pins s σ H x xs v us Q I rx rs ⟨m, h, ax, as, R, rel, r1, ra, q, lk⟩
  cases ax with
  | ref n =>
    match as, q, ra with
    | [], q, ra =>
      obtain rfl := ra.nil_inv
      simp only [popR] at q
      split at q
      · rename_i ys e
        split at q
        · rename_i y ey
          obtain ⟨p, vs, rfl, hn, hp, rp⟩ := rel.lst r1 e
          obtain ⟨w, hw, rw⟩ := rp.at ey
          rw [← rp.len] at hw
          refine mt_pop pins s σ H _ _ v us Q I rx rs ⟨p, vs, w, rfl, rfl, hp, hw, ?_⟩
          exact lk _ _ _ _ _ q (rel.write hn e (.lst hp) ⟨_, upd_same, rp.last.mono (.lst hp)⟩) (rw.mono (.lst hp)) (.lst hp)
        · exact q.elim
      · exact q.elim
    | _ :: _, q, _ => exact (show False from q).elim
  | _ => exact (show False by cases as <;> exact q).elim
theorem insertR_inv {n : Nat} {i y : AV} {h : AH} {R : AK} (q : insertR (.ref n) [i, y] h R) : ∃ xs j, i = .int j ∧ h[n]? = some (.lst xs) ∧ xs.length < 16777216 ∧ 0 ≤ j ∧ j < 2 ^ 63 ∧ R .non (h.set n (.lst (xs.take j.toNat ++ [y] ++ xs.drop j.toNat))) := by
  cases i with
  | int j =>
    simp only [insertR] at q
    split at q
    · rename_i xs e
      exact ⟨xs, j, rfl, e, q⟩
    · exact q.elim
  | _ => exact q.elim
theorem mt_insertA : MtM X "list.insert" (upM X.K insertR) := by
  intro pins s σ H x xs v us Q I rx rs ⟨m, h, ax, as, R, rel, r1, ra, q, lk⟩
  cases ax with
  | ref n =>
    match as, q, ra with
    | [i, y], q, ra =>
      obtain ⟨w0, ws0, rfl, rw0, rn0⟩ := ra.cons_inv
      obtain ⟨w, ws, rfl, rw, rn⟩ := rn0.cons_inv
      obtain rfl := rn.nil_inv
      obtain ⟨ys, j, rfl, e, hz, h0, h1, q⟩ := insertR_inv q
      cases rw0
      obtain ⟨p, vs, rfl, hn, hp, rp⟩ := rel.lst r1 e
      refine mt_insert pins s σ H _ _ v us Q I rx rs ⟨p, vs, j, w, rfl, rfl, hp, by rw [rp.len, line]; exact hz, h0, h1, ?_⟩
      exact lk _ _ _ _ _ q (rel.write hn e (.lst hp) ⟨_, upd_same, (((rp.take _).append (.cons rw .nil)).append (rp.drop _)).mono (.lst hp)⟩) .non (.lst hp)
    | [], q, _ => exact (show False from q).elim
    | [z], q, _ => exact (show False by cases z <;> exact q).elim
    | _ :: _ :: _ :: _, q, _ => exact (show False by
      rename_i a b c d _
      cases a <;> exact q).elim
  | _ => exact (show False by (match as, q with
    | [], q => exact q
    | [_], q => exact q
    | [_, _], q => exact q
    | _ :: _ :: _ :: _, q => exact q)).elim
/-! ### max, min -/
theorem call_max2A (hc : X.calm = true) : CallR X (.builtin "max") (upL X.K max2R) := by
  intro pins s σ H xs us Q I rs ⟨m, h, as, R, rel, ra, q, lk⟩
  obtain ⟨x, y, rfl⟩ := two_inv q (fun z => z) (fun x z => by cases x <;> exact z) (fun x y z t w => by cases x <;> cases y <;> exact w)
  obtain ⟨v, ws, rfl, rv, rw⟩ := ra.cons_inv
  obtain ⟨v2, ws2, rfl, rv2, rw2⟩ := rw.cons_inv
  obtain rfl := rw2.nil_inv
  cases x with
  | int i =>
    cases y with
    | int j =>
      cases rv
      cases rv2
      exact call_max2 hc pins s σ H _ us Q I rs ⟨i, j, rfl, lk _ _ _ _ _ q rel (.int _) .refl⟩
    | _ => exact (show False from q).elim
  | _ => exact (show False by cases y <;> exact q).elim
theorem call_min2A (hc : X.calm = true) : CallR X (.builtin "min") (upL X.K min2R) := by
  intro pins s σ H xs us Q I rs ⟨m, h, as, R, rel, ra, q, lk⟩
  obtain ⟨x, y, rfl⟩ := two_inv q (fun z => z) (fun x z => by cases x <;> exact z) (fun x y z t w => by cases x <;> cases y <;> exact w)
  obtain ⟨v, ws, rfl, rv, rw⟩ := ra.cons_inv
  obtain ⟨v2, ws2, rfl, rv2, rw2⟩ := rw.cons_inv
  obtain rfl := rw2.nil_inv
  cases x with
  | int i =>
    cases y with
    | int j =>
      cases rv
      cases rv2
      exact call_min2 hc pins s σ H _ us Q I rs ⟨i, j, rfl, lk _ _ _ _ _ q rel (.int _) .refl⟩
    | _ => exact (show False from q).elim
  | _ => exact (show False by cases y <;> exact q).elim
end
end AL

/-! AL8: zip of two, each a list or a tuple. -/
namespace AL
open PySem PySem.Spec PyProof.Rows L2
/-- true: a tuple, false: a list -/
def SqM (k : Bool) (K : PySem.W.Frag) (H : Hp) (a : Addr) (xs : List V) : Prop := match k with
  | true => SqT K H a xs
  | false => SqL K H a xs
def IterM (k : Bool) (h : Heap) (it a : Addr) (i : Nat) : Prop := match k with
  | true => h.IsTupleIter it a i
  | false => h.IsListIter it a i
def IsM (k : Bool) (h : Heap) (a : Addr) (its : Array Value) : Prop := match k with
  | true => h.IsTuple a its
  | false => h.IsList a its
theorem IterM.live {k : Bool} {h : Heap} {it a : Addr} {i : Nat} (st : IterM k h it a i) : ∃ o, h.get? it = some o ∧ ∀ v, o.data ≠ .cell v := by
  cases k with
  | true =>
    obtain ⟨o, e, _, d⟩ := st
    exact ⟨o, e, fun v z => by rw [d] at z; cases z⟩
  | false =>
    obtain ⟨o, e, _, d⟩ := st
    exact ⟨o, e, fun v z => by rw [d] at z; cases z⟩
theorem IterM.keep {k : Bool} {h h' : Heap} {it a : Addr} {i : Nat} (st : IterM k h it a i) (kp : ∀ o, h.get? it = some o → h'.get? it = some o) : IterM k h' it a i := by
  cases k with
  | true => exact Heap.IsTupleIter.at st kp
  | false => exact Heap.IsListIter.at st kp
theorem drawsM {prog : Program} {w : World} {A : Around} (k : Bool) (hh : A.handled = none) (it a : Addr) (hne : a ≠ it) (its : Array Value) : Draws prog w A it [it, a] its.size (fun i v => its[i]? = some v) (fun i h => IterM k h it a i ∧ IsM k h a its) := by
  cases k with
  | true => exact Draws.tuple hh it a hne its
  | false => exact Draws.list hh it a hne its
theorem inv_seqM {X : Cx} {pins : List (Addr × Obj)} {σ : L2.St} {H : Hp} {s : Shared} {k : Bool} {a : Addr} {xs : List V} (I : Inv X pins σ H s) (hq : SqM k X.K H a xs) : ∃ its, Vals xs its ∧ IsM k s.heap a its.toArray ∧ a < s.heap.objs.size := by
  cases k with
  | true =>
    obtain ⟨its, rv, p, _⟩ := I.tuple hq
    obtain ⟨o, ho, _⟩ := id p
    exact ⟨its, rv, p, Heap.lt_size ho⟩
  | false =>
    obtain ⟨its, rv, p, _⟩ := I.list hq
    exact ⟨its, rv, p.isList, p.lt⟩
theorem inv_injM {X : Cx} {pins : List (Addr × Obj)} {σ : L2.St} {H : Hp} {s : Shared} {k : Bool} {a : Addr} {xs ys : List V} (I : Inv X pins σ H s) (h1 : SqM k X.K H a xs) (h2 : SqM k X.K H a ys) : xs = ys := by
  cases k with
  | true => exact I.tuple_inj h1 h2
  | false => exact I.list_inj h1 h2
def ItM (k1 k2 : Bool) (K : PySem.W.Frag) (a b : Addr) : It where
  go := fun i H => ∃ (xs ys : List V) (x y : V), SqM k1 K H a xs ∧ SqM k2 K H b ys ∧ xs[i]? = some x ∧ ys[i]? = some y
  yld := fun i H v H' => ∃ T x y, v = .ref T ∧ H T = none ∧ H' = L2.upd H T (.tup [x, y]) ∧ (∀ xs, SqM k1 K H a xs → xs[i]? = some x) ∧ ∀ ys, SqM k2 K H b ys → ys[i]? = some y
  stop := fun i H => ∃ xs ys : List V, SqM k1 K H a xs ∧ SqM k2 K H b ys ∧ i = min xs.length ys.length
theorem turn_zipM {P : Program} {w : World} {K : PySem.W.Frag} {elts : List Expr} {kk : Nat} {tpos : Pos} (k1 k2 : Bool) {a b z TI TO i1 i2 : Addr} (S : ZipSep2 z TI TO i1 i2 [i1, a] [i2, b]) (n1 : a ≠ i1) (n2 : b ≠ i2) :
    Turn P w K (.Tuple elts kk tpos) (ItM k1 k2 K a b) [z, TI, TO, i1, i2] z (fun i h => IsZip h z TI TO .none ∧ IsTupOf2 h TI (.ref i1) (.ref i2) ∧ (∃ u v, IsTupOf2 h TO u v) ∧ IterM k1 h i1 a i ∧ IterM k2 h i2 b i) where
  mem := by simp
  obj := fun i h ⟨hz, hI, ⟨u, v, hO⟩, t1, t2⟩ c hc => by
    have e : c = z ∨ c = TI ∨ c = TO ∨ c = i1 ∨ c = i2 := by simpa using hc
    rcases e with rfl | rfl | rfl | rfl | rfl
    · exact ⟨_, hz, fun v q => nomatch q⟩
    · exact ⟨_, hI, fun v q => nomatch q⟩
    · exact ⟨_, hO, fun v q => nomatch q⟩
    · exact t1.live
    · exact t2.live
  keep := fun i h h' ⟨hz, hI, ⟨u, v, hO⟩, t1, t2⟩ kp => ⟨kp z (by simp) _ hz, kp TI (by simp) _ hI, ⟨u, v, kp TO (by simp) _ hO⟩, t1.keep fun o q => kp i1 (by simp) o q, t2.keep fun o q => kp i2 (by simp) o q⟩
  item := by
    intro X hP hw hK hc i pins s σ H E I hf ⟨hz, hI, hO, t1, t2⟩ ⟨xs, ys, x, y, hqx, hqy, hx, hy⟩
    subst hP hw hK
    obtain ⟨its, rv, p, la⟩ := inv_seqM I hqx
    obtain ⟨its2, rv2, p2, lb⟩ := inv_seqM I hqy
    obtain ⟨u, hu, ru⟩ := rv.get hx
    obtain ⟨u2, hu2, ru2⟩ := rv2.get hy
    have hh : X.A.in1.handled = none := I.ok.hd hc
    have W := WalksT.zipD2 S (drawsM (prog := X.prog) (w := X.w) k1 hh i1 a n1 its.toArray) (drawsM (prog := X.prog) (w := X.w) k2 hh i2 b n2 its2.toArray)
    have lt1 := (List.getElem?_eq_some_iff.mp hu).1
    have lt2 := (List.getElem?_eq_some_iff.mp hu2).1
    refine W.item i s _ E (by simp; omega) ⟨hz, hI, hO, ⟨t1, p⟩, ⟨t2, p2⟩⟩ fun T vals h' tk ⟨v1, v2, hv1, hv2, ev⟩ hT hTup hMid hk => ?_
    subst ev
    have e1 : v1 = u := by
      have q : its[i]? = some v1 := by simpa using hv1
      rw [hu] at q
      exact (Option.some.inj q).symm
    have e2 : v2 = u2 := by
      have q : its2[i]? = some v2 := by simpa using hv2
      rw [hu2] at q
      exact (Option.some.inj q).symm
    subst e1 e2
    have hap := W.apart i T h' hMid
    have out : ∀ c, c ∉ [z, TI, TO, i1, i2] → c ∉ [z, TO, i1, i2] := fun c hc q => hc (by
      simp only [List.mem_cons, List.not_mem_nil, or_false] at q ⊢
      rcases q with q | q | q | q <;> simp [q])
    refine ⟨_, rfl, W.go elts kk tpos i T _ _ E hMid fun h'' hSt hk2 => ?_⟩
    have new : ObjOk X.prog X.w (L2.upd H T (.tup [x, y])) h'' T (.tup [x, y]) := by
      obtain ⟨o, ho, hc2, n, hd⟩ := hTup
      exact ⟨by show 2 ≤ sizeLine; rw [sizeLine_eq]; decide, [v1, v2], .cons ru (.cons ru2 .nil), ⟨o, hk2 T o hap ho, hc2, n, hd⟩⟩
    have I1 : Inv X pins σ (L2.upd H T (.tup [x, y])) { s with heap := h'', toks := tk } :=
      I.turnedNew (ch := [z, TI, TO, i1, i2]) (fun c ob hb q => hk2 c ob (out c hb) (hk c ob (out c hb) q)) hf hT new
    refine ⟨.ref T, _, I1, rfl, ⟨T, x, y, rfl, I.hok.fresh hT, rfl, fun l hl => by rw [inv_injM I hl hqx]; exact hx, fun l hl => by rw [inv_injM I hl hqy]; exact hy⟩, ⟨hSt.1, hSt.2.1, hSt.2.2.1, hSt.2.2.2.1.1, hSt.2.2.2.2.1⟩, fun c hb => ?_⟩
    have hlt : c < s.heap.objs.size := by
      have e : c = z ∨ c = TI ∨ c = TO ∨ c = i1 ∨ c = i2 := by simpa using hb
      obtain ⟨u0, v0, hO⟩ := hO
      rcases e with rfl | rfl | rfl | rfl | rfl
      · exact Heap.lt_size hz
      · exact Heap.lt_size hI
      · exact Heap.lt_size hO
      · obtain ⟨_, q, _⟩ := t1.live
        exact Heap.lt_size q
      · obtain ⟨_, q, _⟩ := t2.live
        exact Heap.lt_size q
    rw [upd_ne (show c ≠ T from fun q => by
      have : c < T := Nat.lt_of_lt_of_le hlt hT
      rw [q] at this
      exact Nat.lt_irrefl _ this)]
    exact (hf c hb).1
  done := by
    intro X hP hw hK hc i pins s σ H E I hf ⟨hz, hI, hO, t1, t2⟩ ⟨xs, ys, hqx, hqy, hi⟩
    subst hP hw hK
    obtain ⟨its, rv, p, la⟩ := inv_seqM I hqx
    obtain ⟨its2, rv2, p2, lb⟩ := inv_seqM I hqy
    have hh : X.A.in1.handled = none := I.ok.hd hc
    have W := WalksT.zipD2 S (drawsM (prog := X.prog) (w := X.w) k1 hh i1 a n1 its.toArray) (drawsM (prog := X.prog) (w := X.w) k2 hh i2 b n2 its2.toArray)
    have hlen : i = min its.toArray.size its2.toArray.size := by
      have l1 := rv.length
      have l2 := rv2.length
      simp
      omega
    subst hlen
    refine W.done s _ E ⟨hz, hI, hO, ⟨t1, p⟩, ⟨t2, p2⟩⟩ fun h' tk hk => ⟨rfl, I.turnedL (t' := tk) (ch := [z, TI, TO, i1, i2]) (fun c o hb q => hk c o (fun m => hb (by
      simp only [List.mem_cons, List.not_mem_nil, or_false] at m ⊢
      rcases m with m | m | m | m <;> simp [m])) q) hf⟩
  self := fun A i s Q E ⟨hz, _⟩ h => wpAny_pyIter_zip hz h
/-- how the iterators begin -/
def iterObj (k : Bool) (a : Addr) : Obj := match k with
  | true => { cls := .type "tuple_iterator", data := .fields #[.ref a, .int 0 0] }
  | false => { cls := .type "list_iterator", data := .fields #[.ref a, .int 0 0] }
theorem beginsM (k : Bool) (a : Addr) (its : Array Value) : Begins (.ref a) (iterObj k a) (fun h => IsM k h a its) := by
  cases k with
  | true => exact begins_tuple a its
  | false => exact begins_list a its
theorem iter_begun (k : Bool) {h : Heap} {it a : Addr} (e : h.get? it = some (iterObj k a)) : IterM k h it a 0 := by
  cases k with
  | true => exact ⟨_, e, rfl, rfl⟩
  | false => exact ⟨_, e, rfl, rfl⟩
section
variable {X : Cx} {e e2 : Expr} {pos : Pos} {tl : ATA}
theorem pi_zipM {ta : TA} {p tpos : Pos} {elts : List Expr} {kk : Nat} (hg : Gl X "zip") (hm : X.mg "zip" = none) (ha : PA X [e, e2] ta)
    (hs : starEach [e, e2] X.env = (false, eval e X.env) :: starEach [e2] X.env) (hpl : (backTo pos (starEach [e2] X.env)).any (·.1) = false) :
    PI X (.Tuple elts kk tpos) (.Call (.Name "zip" p) [e, e2] [] pos) (fun σ H R => ta σ H fun vs H1 => ∃ k1 k2 a b xs ys, vs = [.ref a, .ref b] ∧ SqM k1 X.K H1 a xs ∧ SqM k2 X.K H1 b ys ∧ R (ItM k1 k2 X.K a b) H1) := by
  refine ⟨fun pins s σ H R I h => ?_⟩
  refine Call_ (ld_blt I hg hm PyProof.Rows.boot_zip (PyProof.Rows.callWith_type1 (thn (ha.run pos pins s σ H _ I h) fun us s1 ⟨vs, H1, J, rr, qq⟩ => ?_) hs hpl))
  obtain ⟨k1, k2, a, b, xs, ys, ex, hx, hy, hR⟩ := qq
  subst ex
  obtain ⟨u1, u2, rfl, ru1, ru2⟩ := rr.two
  cases (show u1 = Value.ref a from ru1)
  cases (show u2 = Value.ref b from ru2)
  obtain ⟨its, rv, p1, la⟩ := inv_seqM J hx
  obtain ⟨its2, rv2, p2, lb⟩ := inv_seqM J hy
  refine zip_begins2 (beginsM k1 a its.toArray) (beginsM k2 b its2.toArray) p1 p2 fun h' hz hI hO g1 g2 hsz hk => wpAny_pyIter_zip hz ?_
  have five : ∀ c ∈ [s1.heap.objs.size + 4, s1.heap.objs.size + 2, s1.heap.objs.size + 3, s1.heap.objs.size, s1.heap.objs.size + 1], FpOk X pins H1 c := fun c hc => by
    have hle : s1.heap.objs.size ≤ c := by
      simp only [List.mem_cons, List.not_mem_nil, or_false] at hc
      rcases hc with rfl | rfl | rfl | rfl | rfl
      · exact Nat.le_add_right _ _
      · exact Nat.le_add_right _ _
      · exact Nat.le_add_right _ _
      · exact Nat.le_refl _
      · exact Nat.le_add_right _ _
    exact J.fpOk hle (J.hok.fresh hle)
  have S : ZipSep2 (s1.heap.objs.size + 4) (s1.heap.objs.size + 2) (s1.heap.objs.size + 3) s1.heap.objs.size (s1.heap.objs.size + 1) [s1.heap.objs.size, a] [s1.heap.objs.size + 1, b] :=
    zip_sep2 (fp1 := [a]) (fp2 := [b]) (fun c hc => by cases List.mem_singleton.mp hc; exact la) (fun c hc => by cases List.mem_singleton.mp hc; exact lb)
  exact ⟨_, [s1.heap.objs.size + 4, s1.heap.objs.size + 2, s1.heap.objs.size + 3, s1.heap.objs.size, s1.heap.objs.size + 1], _, _, H1, rfl, J.kept (t' := s1.toks) hk,
    turn_zipM k1 k2 S (Nat.ne_of_lt la) (Nat.ne_of_lt (Nat.lt_succ_of_lt lb)), ⟨hz, hI, ⟨_, _, hO⟩, iter_begun k1 g1, iter_begun k2 g2⟩, five, hR⟩
/-- a list or a tuple by its kind, for ever -/
theorem seq_at {K : PySem.W.Frag} {H : Hp} {m : List Addr} {h : AH} {v : V} {x : AV} {xs : List AV} (rel : Rel K H m h) (r : Rep K H m v x) (e : seqOf x h = some xs) :
    ∃ k p vs, v = .ref p ∧ SqM k K H p vs ∧ ∀ H' m' h', Rel K H' m' h' → seqOf x h' = some xs → Grow K H m H' m' → ∃ ws, SqM k K H' p ws ∧ RepL K H' m' ws xs := by
  cases x with
  | tup ys =>
    cases e
    obtain ⟨p, vs, rfl, hp, rp⟩ := r.tup_inv
    exact ⟨true, p, vs, rfl, hp, fun H' m' h' _ _ g => ⟨vs, g.tup p vs hp, rp.mono g⟩⟩
  | rol ys =>
    obtain ⟨p, vs, rfl, hs, _, al⟩ := lst_at rel r (show lstOf (.rol ys) h = some xs from e)
    exact ⟨false, p, vs, rfl, hs, fun H' m' h' rel' e' g => al H' m' h' rel' e' g⟩
  | ref n =>
    obtain ⟨p, vs, rfl, hs, _, al⟩ := lst_at rel r (show lstOf (.ref n) h = some xs from e)
    exact ⟨false, p, vs, rfl, hs, fun H' m' h' rel' e' g => al H' m' h' rel' e' g⟩
  | _ => cases e
theorem ai_zipM {p tpos : Pos} {elts : List Expr} {kk : Nat} (hg : Gl X "zip") (hm : X.mg "zip" = none) (ha : AA X [e, e2] tl)
    (hs : starEach [e, e2] X.env = (false, eval e X.env) :: starEach [e2] X.env := by rfl) (hpl : (backTo pos (starEach [e2] X.env)).any (·.1) = false := by rfl) :
    AI X (.Tuple elts kk tpos) (.Call (.Name "zip" p) [e, e2] [] pos) (iZipMT tl) := wkI (pi_zipM hg hm ha hs hpl) fun σ H R ⟨m, h, a, RA, rel, rs, q, lk⟩ => by
  refine ⟨m, h, a, _, rel, rs, q, fun H1 m1 h1 vs xs q1 rel1 r1 g1 => ?_⟩
  split at q1
  · rename_i x y
    split at q1
    · rename_i xs ys e1 e2
      obtain ⟨v, ws, rfl, rv, rn⟩ := r1.cons_inv
      obtain ⟨v2, ws2, rfl, rv2, rn2⟩ := rn.cons_inv
      obtain rfl := rn2.nil_inv
      obtain ⟨k1, p, vs, rfl, hp, al⟩ := seq_at rel1 rv e1
      obtain ⟨k2, p2, vs2, rfl, hp2, al2⟩ := seq_at rel1 rv2 e2
      refine ⟨k1, k2, p, p2, vs, vs2, rfl, hp, hp2, lk _ _ _ _ _ q1 rel1 g1 _ ⟨fun i x H m h hx rel gd g => ?_, fun H m h rel gd g => ?_⟩⟩
      · obtain ⟨x1, y1, c1, c2, rfl⟩ := zip2_get hx
        obtain ⟨us, s1, t1⟩ := al H m h rel gd.1 g
        obtain ⟨us2, s2, t2⟩ := al2 H m h rel gd.2 g
        obtain ⟨w1, d1, d2⟩ := t1.at c1
        obtain ⟨w2, d3, d4⟩ := t2.at c2
        refine ⟨⟨us, us2, w1, w2, s1, s2, d1, d3⟩, fun w H' ⟨T, y, z, z1, hT, z2, z3, z4⟩ => ?_⟩
        subst z1 z2
        have a1 := z3 us s1
        have a2 := z4 us2 s2
        rw [d1] at a1
        rw [d3] at a2
        cases a1
        cases a2
        exact ⟨rel.off hT, RepL.tup (SqT.of upd_same) (.cons (d2.mono (.off hT)) (.cons (d4.mono (.off hT)) .nil)), .off hT⟩
      · obtain ⟨us, s1, t1⟩ := al H m h rel gd.1 g
        obtain ⟨us2, s2, t2⟩ := al2 H m h rel gd.2 g
        exact ⟨us, us2, s1, s2, by rw [zip2_len, t1.len, t2.len]⟩
    · exact q1.elim
  · exact q1.elim
end
end AL

/-! AL9: more rules: sums. -/
namespace AL
open PySem PySem.Spec PyProof.Rows L2
section
variable {X : Cx}
theorem zsOf_rep {K : PySem.W.Frag} {H : Hp} {m : List Addr} : ∀ {vs : List V} {xs : List AV} {is : List Int}, RepL K H m vs xs → zsOf xs = some is → vs = is.map V.int
  | vs, [], is, r, e => by
    cases e
    obtain rfl := r.nil_inv
    rfl
  | vs, x :: xs, is, r, e => by
    obtain ⟨v, ws, rfl, rv, r2⟩ := r.cons_inv
    cases x with
    | int i =>
      simp only [zsOf] at e
      cases e2 : zsOf xs with
      | none =>
        rw [e2] at e
        cases e
      | some js =>
        rw [e2] at e
        cases e
        cases rv
        rw [zsOf_rep r2 e2]
        rfl
    | _ => simp [zsOf] at e
theorem sumR_inv {n : Nat} {h : AH} {R : AK} (q : sumR [.ref n] h R) : ∃ xs is, h[n]? = some (.lst xs) ∧ zsOf xs = some is ∧ R (.int is.sum) h := by
  simp only [sumR] at q
  split at q
  · rename_i xs e
    split at q
    · rename_i is e2
      exact ⟨xs, is, e, e2, q⟩
    · exact q.elim
  · exact q.elim
theorem call_sumA (hc : X.calm = true) : CallR X (.builtin "sum") (upL X.K sumR) := by
  intro pins s σ H xs us Q I rs ⟨m, h, as, R, rel, ra, q, lk⟩
  obtain ⟨x, rfl⟩ := one_inv q (fun z => z) (fun x y t z => by cases x <;> exact z)
  obtain ⟨v, ws, rfl, rv, rw⟩ := ra.cons_inv
  obtain rfl := rw.nil_inv
  cases x with
  | ref n =>
    obtain ⟨ys, is, e, e2, q⟩ := sumR_inv q
    obtain ⟨p, vs, rfl, _, hp, rp⟩ := rel.lst rv e
    exact cr_sum hc pins s σ H _ us Q I rs ⟨p, is, rfl, by rw [← zsOf_rep rp e2]; exact SqL.of hp, fin0 rel lk q (.int _)⟩
  | _ => exact (show False from q).elim
end
end AL

/-! AL10: more rules: a row turned, a range as a list, two lists compared. -/
namespace AL
open PySem PySem.Spec PyProof.Rows L2
/-! ### a tuple turned -/
section
variable {prog : Program} {w : World} {A : Around} {E : Value → Shared → Prop} {s : Shared}
theorem adjust_rev (n : Nat) : Builtin.Slice.sliceAdjust none none (-1) (n : Int) = ((n : Int) - 1, -1) := rfl
theorem places_rev (n : Nat) : Builtin.Slice.slicePlaces ((n : Int) - 1) (-1) (-1) = n := by
  unfold Builtin.Slice.slicePlaces
  have h1 : ¬ ((-1 : Int) > 0) := by decide
  simp only [h1, if_false]
  split
  · rw [show (-(-1) : Int) = 1 by decide, Int.ediv_one]
    omega
  · omega
theorem sliceApplied_rev {sl : Addr} {vk : Value} {n : Nat} {Q : Int × Int × Nat → Shared → Prop} (hs : s.heap.IsSliceOf sl .none .none vk) (pk : IsPart vk (some (-1))) (h : Q ((n : Int) - 1, -1, n) s) :
    wpAny (model prog w) A (Builtin.Slice.sliceApplied (.ref sl) (pure (n : Int))) Q E s := by
  obtain ⟨os, hos, hcs, hds⟩ := id hs
  unfold Builtin.Slice.sliceApplied Builtin.Slice.sliceFields
  refine wpAny_bind (wpAny_bind (wpAny_field hos hds (x := .none) rfl (wpAny_bind (wpAny_field hos hds (x := .none) rfl (wpAny_bind (wpAny_field hos hds (x := vk) rfl (wpAny_pure ?_)))))))
  refine wpAny_bind (HT.slicePart_ pk ?_)
  show wpAny _ _ (if ((-1 : Int) == 0) = true then _ else _) _ _ s
  rw [if_neg (by decide)]
  refine wpAny_bind (HT.slicePart_ .none (wpAny_bind (HT.slicePart_ .none (wpAny_bind (wpAny_pure ?_)))))
  show wpAny _ _ (match Builtin.Slice.sliceAdjust none none (-1) (n : Int) with | (lo, hi) => pure (lo, (-1 : Int), Builtin.Slice.slicePlaces lo hi (-1))) _ _ s
  rw [adjust_rev n]
  show wpAny _ _ (pure ((n : Int) - 1, (-1 : Int), Builtin.Slice.slicePlaces ((n : Int) - 1) (-1) (-1))) _ _ s
  rw [places_rev]
  exact wpAny_pure h
theorem fm_congr {α β : Type} {f g : α → Option β} : ∀ {l : List α}, (∀ x ∈ l, f x = g x) → l.filterMap f = l.filterMap g
  | [], _ => rfl
  | x :: r, h => by
    rw [List.filterMap_cons, List.filterMap_cons, h x (by simp), fm_congr fun y hy => h y (by simp [hy])]
theorem pick_rev (xs : Array Value) : ((List.range xs.size).filterMap fun (m : Nat) => xs[((xs.size : Int) - 1 + (m : Int) * (-1)).toNat]?).toArray = xs.toList.reverse.toArray := by
  congr 1
  obtain ⟨l⟩ := xs
  simp only [List.size_toArray, List.getElem?_toArray]
  have e : ∀ m ∈ List.range l.length, l[((l.length : Int) - 1 + (m : Int) * (-1)).toNat]? = l.reverse[m]? := fun m hm => by
    rw [List.mem_range] at hm
    rw [List.getElem?_reverse hm]
    congr 1
    omega
  rw [fm_congr e]
  have := pick_run l.reverse.toArray 0 l.length
  rw [List.filterMap_map] at this
  have e2 : ((fun x => l.reverse.toArray[x]?) ∘ fun x => 0 + x) = fun m => l.reverse[m]? := by
    funext m
    simp
  rw [e2] at this
  rw [this]
  show List.take l.length l.reverse = l.reverse
  exact List.take_of_length_le (by rw [List.length_reverse]; exact Nat.le_refl _)
theorem getItem_tuple_rev {t sl : Addr} {items : Array Value} {vk : Value} {Q : Value → Shared → Prop} (ht : IsTup s.heap t items) (hs : s.heap.IsSliceOf sl .none .none vk) (pk : IsPart vk (some (-1)))
    (h : Q (.ref s.heap.objs.size) { s with heap := s.heap.push { cls := .type "tuple", data := .seq items.toList.reverse.toArray } })
    (hsz : items.size ≤ sizeLine) : wpAny (model prog w) A (getItem (.ref t) (.ref sl)) Q E s := by
  have htake : sizeOk (.seq items.toList.reverse.toArray) := by
    show items.toList.reverse.toArray.size ≤ sizeLine
    rw [List.size_toArray, List.length_reverse, Array.length_toList]
    exact hsz
  obtain ⟨os, hos, hcs, hds⟩ := id hs
  have hTs : s.TypeIs (.ref sl) "slice" := ⟨os, hos, hcs⟩
  unfold getItem
  try with_reducible refine wpAny_holding ?_
  first | refine wpAny_bind (wpAny_pure ?_) | skip
  refine wpAny_bind (wpAny_sequenceKey ht.typeIs (by decide) ?_)
  refine wpAny_bind (wpAny_callSpecial?_slot (name := Str.ofString "__getitem__") ht.typeIs PyProof.Rows.slot_tuple_getitem
    (wpAny_call_entry PyProof.Rows.slot_tuple_getitem ht.typeIs entry_tuple_getitem ?_ (args_tuple_getitem _ _)))
  show wpAny _ _ (Builtin.Tuple.tupleItemsOf (.ref t) >>= _) _ _ s
  refine wpAny_bind (tupleItemsOf_ ht ?_)
  refine wpAny_bind (wpAny_typeOf hTs ?_)
  rw [if_pos (by decide)]
  refine wpAny_bind (sliceApplied_rev hs pk ?_)
  have hno : ¬ ((((items.size : Int) - 1) == 0 && (-1 : Int) == 1 && items.size == items.size) = true) := by
    intro q
    rw [Bool.and_eq_true, Bool.and_eq_true] at q
    exact absurd q.1.2 (by decide)
  show wpAny _ _ (if (((items.size : Int) - 1) == 0 && (-1 : Int) == 1 && items.size == items.size) = true then _ else _) _ _ s
  rw [if_neg hno, pick_rev]
  first
    | exact wpAny_bind (m := Builtin.Tuple.tupleExact _) (wpAny_newObj_type (wpAny_pure ⟨_, rfl, wpAny_pure h⟩) htake)
    | exact wpAny_bind (m := Builtin.Tuple.tupleExact _) (wpAny_newObj_type (wpAny_bind (wpAny_pure (wpAny_pure ⟨_, rfl, wpAny_pure h⟩))) htake)
    | exact wpAny_bind (wpAny_bind (m := Builtin.Tuple.tupleExact _) (wpAny_newObj_type (wpAny_pure (wpAny_pure ⟨_, rfl, wpAny_pure h⟩)) htake))
    | exact wpAny_bind (wpAny_bind (m := Builtin.Tuple.tupleExact _) (wpAny_newObj_type (wpAny_pure ⟨_, rfl, wpAny_pure h⟩) htake))
end
section
variable {X : Cx} {e k : Expr} {te tk : ATE} {pos p2 p p3 : Pos}
def tRev (K : PySem.W.Frag) (te tk : TE) : TE := fun σ H Q => te σ H fun x H1 => tk σ H1 fun y H2 => ∃ a xs, x = .ref a ∧ y = .int (-1) ∧ SqT K H2 a xs ∧ ∀ p, H2 p = none → Q (.ref p) (upd H2 p (.tup xs.reverse))
theorem pe_rev {te tk : TE} (he : PE X e te) (hk : PE X k tk) : PE X (.Subscript e (.Slice none none (some k) p2) pos) (tRev X.K te tk) := by
  refine ⟨fun pins s σ H Q I h => ?_⟩
  refine Subscript_ (thn (he.run pins s σ H _ I h) fun v s1 ⟨x, H1, I1, r1, q1⟩ => ?_)
  refine wpAny_Slice ?_
  rw [evalPart_none]
  refine wpAny_pure ?_
  refine wpAny_pure ?_
  rw [evalPart_some]
  refine thn (hk.run pins s1 σ H1 _ I1 q1) fun vk s2 ⟨y, H2, I2, r2, q2⟩ => ?_
  obtain ⟨a, xs, rfl, rfl, hx, q⟩ := q2
  obtain ⟨tk, rfl⟩ := r2
  have I4 : Inv X pins σ H2 { s2 with heap := s2.heap.push { cls := .type "slice", data := .fields #[.none, .none, .int (-1) tk] } } := I2.kept (t' := s2.toks) fun b ob q => Heap.get?_push_of_some _ q
  cases r1
  obtain ⟨its, r, ht, hz⟩ := I4.tuple hx
  show wpAny (model X.prog X.w) X.A (subscriptTail e (.Slice none none (some k) p2) (.ref a) (.ref s2.heap.objs.size)) (EP X pins σ Q) X.xe { s2 with heap := s2.heap.push { cls := .type "slice", data := .fields #[.none, .none, .int (-1) tk] } }
  refine tail_any (ops := [.ref a, .ref s2.heap.objs.size]) ht.typeIs PyProof.Rows.slot_tuple_getitem.lookup ?_ rfl
  refine getItem_tuple_rev ht (Heap.IsSliceOf.new ..) (.int _ _) ?_ (by rw [List.size_toArray, ← r.length]; exact hz)
  refine ⟨.ref _, _, I4.laid (t' := s2.toks) (o := .tup xs.reverse) (fun b ob q => Heap.get?_push_of_some _ q) (Nat.le_refl _) ?_, rfl, q _ (I4.hok.fresh (Nat.le_refl _))⟩
  exact ⟨by rw [List.length_reverse]; exact hz, _, r.reverse, IsTup.new _ _⟩
theorem ae_rev (he : AE X e te) (hk : AE X k tk) : AE X (.Subscript e (.Slice none none (some k) p2) pos) (revT te tk) := wkE (pe_rev he hk) fun σ H Q ⟨m, h, a, R, rel, rs, q, lk⟩ =>
  ⟨m, h, a, _, rel, rs, q, fun H1 m1 h1 v x q1 rel1 r1 g1 => ⟨m1, h1, a, _, rel1, rs.mono g1, q1, fun H2 m2 h2 v2 y q2 rel2 r2 g2 => by
    cases x with
    | tup xs =>
      cases y with
      | int i =>
        by_cases hi : i = -1
        · subst hi
          cases r2
          obtain ⟨p, vs, rfl, hp, rp⟩ := (r1.mono g2).tup_inv
          exact ⟨p, vs, rfl, rfl, hp, fun t ht => lk _ _ _ _ _ q2 (rel2.off ht) (.tup (SqT.of upd_same) rp.rev.len (rp.rev.mono (.off ht)).get) ((g1.trans g2).trans (.off ht))⟩
        · exact (show False from by
            split at q2
            · rename_i h1 h2
              cases h2
              exact hi rfl
            · exact q2).elim
      | _ => exact (show False from q2).elim
    | _ => exact (show False from q2).elim⟩⟩
/-! ### a range as a list -/
theorem rg_rep {K : PySem.W.Frag} {H : Hp} {m : List Addr} {n : Int} (h : 0 ≤ n) : RepL K H m (rgV 0 n) (zrange 0 n.toNat) := ⟨by rw [rgV_length, zr_len, Int.sub_zero], fun i v x h1 h2 => by
  obtain ⟨hi, rfl⟩ := zr_get h2
  unfold rgV at h1
  rw [List.getElem?_map, List.getElem?_range (by rw [Int.sub_zero]; exact hi)] at h1
  cases h1
  exact .int _⟩
theorem ae_listRg (hc : X.calm = true) (hg : Gl X "list") (hm : X.mg "list" = none) (hg2 : Gl X "range") (hm2 : X.mg "range" = none) (he : AE X e te)
    (na : starEach [e] X.env = (false, eval e X.env) :: starEach [] X.env := by rfl) (na2 : starEach [.Call (.Name "range" p3) [e] [] p2] X.env = (false, eval (.Call (.Name "range" p3) [e] [] p2) X.env) :: starEach [] X.env := by rfl) :
    AE X (.Call (.Name "list" p) [.Call (.Name "range" p3) [e] [] p2] [] pos) (lstRgT te) :=
  wkE (pe_listRg hc hg hm (prg_1 hg2 hm2 he na) na2) fun σ H Q ⟨m, h, a, R, rel, rs, q, lk⟩ =>
    ⟨m, h, a, _, rel, rs, q, fun H1 m1 h1 v x q1 rel1 r1 g1 => by
      cases x with
      | int n =>
        cases r1
        obtain ⟨h0, h2, q1⟩ := q1
        exact ⟨n, rfl, RgOk.of_le (Int.le_refl _) (by omega) (by decide) h0, fun l hl => lk _ _ _ _ _ q1 (rel1.pushL hl (rg_rep h0)) (.ref rel1.last) (g1.trans (.new hl [l]))⟩
      | _ => exact (show False from q1).elim⟩
/-! ### two lists -/
theorem neLR_inv {m n : Nat} {h : AH} {R : AK} (q : neLR (.ref m) (.ref n) h R) : ∃ xs ys, h[m]? = some (.lst xs) ∧ h[n]? = some (.lst ys) ∧ xs.all (plainN 40) = true ∧ ys.all (plainN 40) = true ∧ R (.bl (!aeqs xs ys)) h := by
  simp only [neLR] at q
  split at q
  · rename_i xs ys e1 e2
    exact ⟨xs, ys, e1, e2, q⟩
  · exact q.elim
theorem shapedL {xs : List AV} (h : xs.all (plainN 40) = true) : SeqAt.shaped (.list (toPys xs)) = true := by
  obtain ⟨h1, h2⟩ := lay_all (n := 40) (fun x => lay_of 40 x) xs fun x hx => List.all_eq_true.mp h x hx
  unfold SeqAt.shaped PyData.canLay0 PyData.depth
  rw [h1, decide_eq_true (by omega)]
  rfl
theorem op_neLA (hu : X.A.units + 64 < cLine) : OpR X (compareOp .NotEq) (up2 X.K neLR) := by
  intro pins s σ H x y v u Q I rx ry ⟨m, h, ax, ay, R, rel, r1, r2, q, lk⟩
  cases ax with
  | ref m1 =>
    cases ay with
    | ref n1 =>
      obtain ⟨xs, ys, e1, e2, p1, p2, q⟩ := neLR_inv q
      obtain ⟨a, vs, rfl, _, ha, ra⟩ := rel.lst r1 e1
      obtain ⟨b, ws, rfl, _, hb, rb⟩ := rel.lst r2 e2
      have p1' : ∀ x ∈ xs, plainN 40 x = true := fun x hx => List.all_eq_true.mp p1 x hx
      have p2' : ∀ x ∈ ys, plainN 40 x = true := fun x hx => List.all_eq_true.mp p2 x hx
      refine op_neD hu pins s σ H _ _ v u Q I rx ry ⟨.list (toPys xs), .list (toPys ys), .lst (SqL.of ha) (dp_all (fun x v h r => dp_of 40 x v h r) xs vs ra p1'), .lst (SqL.of hb) (dp_all (fun x v h r => dp_of 40 x v h r) ys ws rb p2'), shapedL p1, shapedL p2, ?_⟩
      have : PyData.eqv (.list (toPys xs)) (.list (toPys ys)) = aeqs xs ys := by
        simp only [PyData.eqv]
        exact eqv_all (eqv_of 40) xs ys p1' p2'
      rw [this]
      exact fin0 rel lk q (.bl _)
    | _ => exact (show False from q).elim
  | _ => exact (show False from by cases ay <;> exact q).elim
end
end AL

/-! AL11: more rules: a new dict, the keys of a dict in order. -/
namespace AL
open PySem PySem.Spec PyProof.Rows L2
section
variable {X : Cx} {pos : Pos}
theorem ae_dnew : AE X (.Dict [] [] pos) dnewT := wkE pe_dnewK fun σ H Q ⟨m, h, a, R, rel, rs, q, lk⟩ p hp =>
  lk _ _ _ _ _ q (rel.push hp ⟨[], upd_same, rfl, .nil⟩) (.ref rel.last) (.new hp [p])
theorem sortedR_inv {n : Nat} {h : AH} {R : AK} (q : sortedR [.ref n] h R) : ∃ kvs ks, h[n]? = some (.dct kvs) ∧ kvs.map (·.1) = ks.map Sum.inl ∧ ks.length ≤ 1000000 ∧ ∀ ys : List Int, ys.Perm ks → ys.Pairwise (· ≤ ·) → R (.ref h.length) (h ++ [.lst (ys.map AV.int)]) := by
  simp only [sortedR] at q
  split at q
  · rename_i kvs e
    obtain ⟨ks, q⟩ := q
    exact ⟨kvs, ks, e, q⟩
  · exact q.elim
theorem ints_rep {K : PySem.W.Frag} {H : Hp} {m : List Addr} (ys : List Int) : RepL K H m (ys.map V.int) (ys.map AV.int) := ⟨by simp, fun i v x h1 h2 => by
  obtain ⟨y, hy, rfl⟩ := map_get h1
  obtain ⟨z, hz, rfl⟩ := map_get h2
  rw [hy] at hz
  cases hz
  exact .int _⟩
/-- sorted(d) of a dict, all keys ints, any number of them -/
theorem call_sortedDA (hcalm : X.calm = true) : CallR X (.builtin "sorted") (fun xs H Q => ∃ (a : Addr) (kvs : List (Key × V)) (ks : List Int), xs = [.ref a] ∧ Rd H a (.dK kvs) ∧ kvs.map (·.1) = ks.map Sum.inl ∧ ks.length ≤ 1000000 ∧
    ∀ (ys : List Int) (p : Addr), ys.Perm ks → ys.Pairwise (· ≤ ·) → H p = none → Q (.ref p) (upd H p (.lst (ys.map V.int)))) := by
  intro pins s σ H xs us Q I r q
  obtain ⟨a, kvs, ks, ex, hd, hks, h64, q⟩ := q
  subst ex
  obtain ⟨u, eu, rx⟩ := vals1 r
  subst eu
  cases rx
  obtain ⟨z, lo, vs, rel, dd⟩ := dk_rd I.hok hd
  obtain ⟨ep, hat⟩ := dd.dictAt
  have hkeys : vs.map (·.1) = ks.map Sum.inl := rel.keys.symm.trans hks
  have hl : vs.length = ks.length := by
    have e := congrArg List.length hkeys
    rw [List.length_map, List.length_map] at e
    exact e
  have h16 : vs.length ≤ sizeLine := by rw [hl, sizeLine_eq]; omega
  refine Calls.call_function_entry PyProof.Rows.kind_sorted PyProof.Rows.plain_sorted PyProof.Rows.entry_sorted (PyProof.Rows.args_sorted1 _) ?_
  unfold Builtin.«sorted»
  refine wpAny_bind (m := checkCount "sorted" 1 1 _) (wpAny_pure ?_)
  refine wpAny_bind (PySem.W.kdu_collect (A := X.A.in1) (PySem.W.kdl_dict (knd := mixKind X.prog X.w) (kvs := vs) (ep := ep) lo) (I.ok.hd hcalm) hat h16 fun h' tk acc hk hacc => ?_)
  have hal : acc.toList.length = ks.length := by rw [Array.length_toList, hacc.1, hl]
  have hS : IntsAre acc.toList ks := ints_each hal fun j v e => by
    obtain ⟨k, x, e1, e2⟩ := hacc.2 j v (by rw [← Array.getElem?_toList]; exact e)
    have e3 : (vs.map (·.1))[j]? = some k := by rw [List.getElem?_map, e1]; rfl
    rw [hkeys, List.getElem?_map] at e3
    cases e4 : ks[j]? with
    | none => rw [e4] at e3; cases e3
    | some y =>
      rw [e4] at e3
      have e5 : Sum.inl y = k := Option.some.inj e3
      subst e5
      rcases keyIs_shape (show keyIs (Sum.inl y) v = true from e2) with ⟨i, t, ek, ev⟩ | ⟨z, t, ek, ev⟩
      · cases ek
        exact ⟨y, t, rfl, ev⟩
      · cases ek
  have I1 : Inv X pins σ H { s with heap := h', toks := tk } := I.kept hk
  refine wpAny_bind (wpAny_newList ?_ (by rw [hal, sizeLine_eq]; omega))
  have hoL : (h'.push (seqObj "list" acc.toList.toArray 0)).get? h'.objs.size = some (seqObj "list" acc.toList.toArray 0) := Heap.get?_push_size _ rfl
  show wpAny _ _ _ _ _ { s with heap := h'.push (seqObj "list" acc.toList.toArray 0), toks := tk }
  refine wpAny_bind (wpAny_holding (wpAny_call_entry PyProof.Rows.slot_list_sort ⟨_, hoL, rfl⟩ PyProof.Rows.entry_list_sort
    (SrtO.list_sort_ord (s := { s with heap := h'.push (seqObj "list" acc.toList.toArray 0), toks := tk }) SrtO.swo_int hoL (by rw [hal, sizeLine_eq]; omega) (fun h2 => SrtO.ints_sortable hS h2) fun out h1 h2 => ⟨_, rfl, ?_⟩) (PyProof.Rows.args_list_sort _)))
  obtain ⟨k1, k2, k3⟩ := SrtO.ints_out hS h1 h2
  obtain ⟨e', he'⟩ := PyProof.Rows.sortedHeap_at (vs := acc.toList) (out := out.toArray) hoL
  have hlen : ((out.map SrtO.iv).map V.int).length ≤ sizeLine := by
    rw [List.length_map, k2.length_eq, sizeLine_eq]
    omega
  refine wpAny_pure ⟨_, rfl, .ref h'.objs.size, upd H h'.objs.size (.lst ((out.map SrtO.iv).map V.int)), I1.laid (t' := tk) (fun b u e => ?_) (Nat.le_refl _)
    (show ObjOk X.prog X.w _ _ _ (.lst ((out.map SrtO.iv).map V.int)) from ⟨hlen, out, e', vals_of_ints k1, he'⟩), rfl, q _ _ k2 k3 (I1.hok.fresh (Nat.le_refl _))⟩
  have hb : b < h'.objs.size := Heap.lt_size e
  rw [PyProof.Rows.sortedHeap_old (Nat.ne_of_lt hb) (by rw [size_push']; exact Nat.lt_succ_of_lt hb)]
  exact Heap.get?_push_of_some _ e
theorem call_sortedA (hc : X.calm = true) : CallR X (.builtin "sorted") (upL X.K sortedR) := by
  intro pins s σ H xs us Q I rs ⟨m, h, as, R, rel, ra, q, lk⟩
  obtain ⟨x, rfl⟩ := one_inv q (fun z => z) (fun x y t z => by cases x <;> exact z)
  obtain ⟨v, ws, rfl, rv, rw⟩ := ra.cons_inv
  obtain rfl := rw.nil_inv
  cases x with
  | ref n =>
    obtain ⟨kvs, ks, e, hk, hz, q⟩ := sortedR_inv q
    obtain ⟨p, vs, rfl, _, hp, hk2, rp⟩ := rel.dct rv e
    exact call_sortedDA hc pins s σ H _ us Q I rs ⟨p, vs, ks, rfl, .inl hp, by rw [hk2]; exact hk, hz, fun ys l h1 h2 hl => lk _ _ _ _ _ (q ys h1 h2) (rel.pushL hl (ints_rep ys)) (.ref rel.last) (.new hl [l])⟩
  | _ => exact (show False from q).elim
end
end AL

/-! AL12: more rules: a list times an int, pop(i), min of a tuple. -/
namespace AL
open PySem PySem.Spec PyProof.Rows L2
section
variable {X : Cx} {pos : Pos}
theorem RepL.flat {K : PySem.W.Frag} {H : Hp} {m : List Addr} {vs : List V} {xs : List AV} (r : RepL K H m vs xs) : ∀ k, RepL K H m (List.replicate k vs).flatten (List.replicate k xs).flatten
  | 0 => .nil
  | k + 1 => by
    rw [List.replicate_succ, List.replicate_succ, List.flatten_cons, List.flatten_cons]
    exact r.append (RepL.flat r k)
theorem repLR_inv {n : Nat} {k : AV} {h : AH} {R : AK} (q : repLR (.ref n) k h R) : ∃ xs i, k = .int i ∧ h[n]? = some (.lst xs) ∧ -(2 ^ 63) ≤ i ∧ i < 2 ^ 63 ∧ xs.length * i.toNat ≤ 16777216 ∧ R (.ref h.length) (h ++ [.lst (List.replicate i.toNat xs).flatten]) := by
  cases k with
  | int i =>
    simp only [repLR] at q
    split at q
    · rename_i xs e
      exact ⟨xs, i, rfl, e, q⟩
    · exact q.elim
  | _ => exact q.elim
theorem op_repLA : OpR X (binaryOp .Mult) (up2 X.K repLR) := by
  intro pins s σ H x y v u Q I rx ry ⟨m, h, ax, ay, R, rel, r1, r2, q, lk⟩
  cases ax with
  | ref n =>
    obtain ⟨xs, i, rfl, e, h1, h2, hz, q⟩ := repLR_inv q
    cases r2
    obtain ⟨p, vs, rfl, _, hp, rp⟩ := rel.lst r1 e
    refine op_rep pins s σ H _ _ v u Q I rx ry ⟨p, i, vs, rfl, rfl, hp, h1, h2, by rw [rp.len, line]; exact hz, fun l hl => ?_⟩
    exact lk _ _ _ _ _ q (rel.pushL hl (rp.flat _)) (.ref rel.last) (.new hl [l])
  | _ => exact (show False from by cases ay <;> exact q).elim
theorem popIR_inv {n : Nat} {i : AV} {h : AH} {R : AK} (q : popIR (.ref n) [i] h R) : ∃ xs j y, i = .int (Int.ofNat j) ∧ h[n]? = some (.lst xs) ∧ xs[j]? = some y ∧ j < 16777216 ∧ R y (h.set n (.lst (xs.eraseIdx j))) := by
  cases i with
  | int i =>
    simp only [popIR] at q
    split at q
    · rename_i xs e
      split at q
      · rename_i j
        split at q
        · rename_i y e2
          exact ⟨xs, j, y, rfl, e, e2, q⟩
        · exact q.elim
      · exact q.elim
    · exact q.elim
  | _ => exact q.elim
theorem RepL.erase {K : PySem.W.Frag} {H : Hp} {m : List Addr} {vs : List V} {xs : List AV} (r : RepL K H m vs xs) (k : Nat) : RepL K H m (vs.eraseIdx k) (xs.eraseIdx k) := by
  rw [List.eraseIdx_eq_take_drop_succ, List.eraseIdx_eq_take_drop_succ]
  exact (r.take k).append (r.drop _)
theorem mt_popIA : MtM X "list.pop" (upM X.K popIR) := by
  intro pins s σ H x xs v us Q I rx rs ⟨m, h, ax, as, R, rel, r1, ra, q, lk⟩
  cases ax with
  | ref n =>
    match as, q, ra with
    | [i], q, ra =>
      obtain ⟨w0, ws0, rfl, rw0, rn0⟩ := ra.cons_inv
      obtain rfl := rn0.nil_inv
      obtain ⟨ys, j, y, rfl, e, e2, hj, q⟩ := popIR_inv q
      cases rw0
      obtain ⟨p, vs, rfl, hn, hp, rp⟩ := rel.lst r1 e
      obtain ⟨w, hw, rw⟩ := rp.at e2
      have hjl : j < vs.length := (List.getElem?_eq_some_iff.mp hw).1
      refine mt_popAt pins s σ H _ _ v us Q I rx rs ⟨p, vs, Int.ofNat j, j, w, rfl, rfl, hp, by show -(2 ^ 63) ≤ (j : Int); omega, by show (j : Int) < 2 ^ 63; omega, ?_, hw, ?_⟩
      · show seqIndex? (j : Int) vs.length = some j
        unfold seqIndex?
        simp
        omega
      · exact lk _ _ _ _ _ q (rel.write hn e (.lst hp) ⟨_, upd_same, (rp.erase j).mono (.lst hp)⟩) (rw.mono (.lst hp)) (.lst hp)
    | [], q, _ => exact (show False from q).elim
    | a :: b :: c, q, _ => exact (show False by cases a <;> exact q).elim
  | _ => exact (show False by (match as, q with
    | [], q => exact q
    | [_], q => exact q
    | _ :: _ :: _, q => exact q)).elim
theorem foldl_min : ∀ (xs : List Int) (x : Int), xs.foldl min x ∈ x :: xs ∧ ∀ y ∈ x :: xs, xs.foldl min x ≤ y
  | [], x => ⟨by simp, fun y hy => by
      rw [List.mem_singleton.mp hy]
      exact Int.le_refl _⟩
  | z :: r, x => by
    obtain ⟨h1, h2⟩ := foldl_min r (min x z)
    rw [List.foldl_cons]
    constructor
    · rcases List.mem_cons.mp h1 with h | h
      · rw [h]
        rcases Int.le_total x z with e | e
        · rw [Int.min_eq_left e]
          simp
        · rw [Int.min_eq_right e]
          simp
      · simp [h]
    · intro y hy
      have hm := h2 (min x z) (by simp)
      rcases List.mem_cons.mp hy with rfl | hy
      · omega
      · rcases List.mem_cons.mp hy with rfl | hy
        · omega
        · exact h2 y (by simp [hy])
theorem reads_ints {h : Heap} : ∀ {us : List Value} {ns : List Int}, IntsAre us ns → ReadsAll h us (ns.map PyData.int) []
  | _, _, .nil => .nil
  | _, _, .cons n t r => .cons (as := []) (.int n t) (reads_ints r)
theorem call_min1A (hc : X.calm = true) (hu : X.A.units + 64 < cLine) : CallR X (.builtin "min") (upL X.K min1R) := by
  intro pins s σ H xs us Q I rs ⟨m, h, as, R, rel, ra, q, lk⟩
  obtain ⟨x, rfl⟩ := one_inv q (fun z => z) (fun x y t z => by cases x <;> exact z)
  obtain ⟨v, ws, rfl, rv, rw⟩ := ra.cons_inv
  obtain rfl := rw.nil_inv
  cases x with
  | tup ys =>
    obtain ⟨is, hz, hne, q⟩ := q
    obtain ⟨p, vs, rfl, hp, rp⟩ := rv.tup_inv
    obtain rfl := zsOf_rep rp hz
    obtain ⟨its, r, ht, hsz⟩ := I.tuple hp
    have hi := r.ints
    rw [Vals.ref1 rs]
    obtain ⟨i0, ir, rfl⟩ : ∃ i0 ir, is = i0 :: ir := by
      cases is with
      | nil => exact absurd rfl hne
      | cons a b => exact ⟨a, b, rfl⟩
    have dep : ∀ l : List Int, PyData.depthAll (l.map PyData.int) = 0 := fun l => by
      induction l with
      | nil => simp [PyData.depthAll]
      | cons a b ih => simp [PyData.depthAll, PyData.depth, ih]
    refine PySem.W.min_tuple_data (x := .int i0) (xs := ir.map .int) (as := []) (I.ok.hd hc) ht (reads_ints hi) ⟨fun x hx y hy => ?_, fun x hx => ?_⟩ ?_ fun i v h' tk bs hv hr hk => ?_
    · obtain ⟨a, _, rfl⟩ := List.mem_map.mp (show x ∈ (i0 :: ir).map PyData.int from hx)
      obtain ⟨b, _, rfl⟩ := List.mem_map.mp (show y ∈ (i0 :: ir).map PyData.int from hy)
      rfl
    · obtain ⟨a, _, rfl⟩ := List.mem_map.mp (show x ∈ (i0 :: ir).map PyData.int from hx)
      intro z
      cases z
    · have := dep (i0 :: ir)
      rw [List.map_cons] at this
      rw [this]
      omega
    · rw [PySem.W.minD_ints] at hr
      obtain ⟨h1, h2⟩ := foldl_min ir i0
      cases hr
      exact ⟨.int _, H, I.kept (t' := tk) hk, ⟨_, rfl⟩, fin0 rel lk (q _ h1 h2) (.int _)⟩
  | _ => exact (show False from q).elim
end
end AL

/-! S19: proofs judged: contracts. -/
namespace AL
open PySem
def zsV (zs : List Int) : List AV := zs.map AV.int
def rowI (r : List Int) : AV := .tup (zsV r)
def rowsI (rs : List (List Int)) : AV := .tup (rs.map rowI)
/-- numbers of so many bits at most -/
def Bnd (Z : Nat) (zs : List Int) : Prop := ∀ z ∈ zs, isz z ≤ Z
/-- a row: strict or not, then numbers -/
structure RowOk (k Z : Nat) (r : List Int) : Prop where
  len : r.length = k + 2
  hd : r.headD 0 = 0 ∨ r.headD 0 = 1
  bnd : Bnd Z r
structure RowsOk (k Z : Nat) (rs : List (List Int)) : Prop where
  ne : rs ≠ []
  le : rs.length ≤ 60
  row : ∀ r ∈ rs, RowOk k Z r
/-- rows by weights, added up -/
def addv (t : List Int) (w : Int) (r : List Int) : List Int := List.zipWith (fun a b => a + w * b) t r
def sums (n : Nat) (rs : List (List Int)) (ws : List Int) : List Int := (rs.zip ws).foldl (fun t p => addv t p.2 p.1) (List.replicate n 0)
/-- a leaf, its number not too long -/
def leafB (Z : Nat) : AV → Bool
  | .ref _ => false
  | .ty _ => false
  | .rol _ => false
  | .int i => decide (isz i ≤ Z)
  | _ => true
/-- what is asked as weights -/
def WV (h : AH) : AV → Prop
  | .ref k => ∃ xs, h[k]? = some (.lst xs)
  | .tup xs => xs.length ≤ 70 ∧ ∀ x ∈ xs, leafB 300 x = true
  | .ty _ => False
  | .rol _ => False
  | _ => True
/-- what is asked as a proof -/
def PV (h : AH) : AV → Prop
  | .ref k => ∃ xs, h[k]? = some (.lst xs)
  | .tup xs => xs.length ≤ 70 ∧ (∀ x ∈ xs, WV h x) ∧ ∀ x, xs.head? = some x → plainN 30 x = true
  | .ty _ => False
  | .rol _ => False
  | _ => True
def nonneg : AV → Bool
  | .int i => decide (0 ≤ i)
  | _ => false
def goodW (m : Nat) : AV → Bool
  | .tup xs => decide (xs.length = m) && xs.all nonneg
  | _ => false
def wsOf : AV → List Int
  | .tup xs => (zsOf xs).getD []
  | _ => []
def addsS (s : List Int) : Bool := (s.drop 2).all (fun z => decide (z = 0)) && (decide (s.getD 1 0 < 0) || (decide (s.getD 1 0 = 0) && decide (0 < s.getD 0 0)))
def adds (k : Nat) (rs : List (List Int)) (v : AV) : Bool := goodW rs.length v && addsS (sums (k + 2) rs (wsOf v))
def boundS (s : List Int) (side : Int) : Option Int :=
  if s.length < 3 ∨ (s.drop 3).all (fun z => decide (z = 0)) = false ∨ s.getD 2 0 * side ≤ 0 then none
  else if side = 1 then some (-(s.getD 1 0 / s.getD 2 0) + (if 0 < s.getD 0 0 ∧ -(s.getD 1 0 / s.getD 2 0) * s.getD 2 0 + s.getD 1 0 = 0 then 1 else 0))
  else some (s.getD 1 0 / -s.getD 2 0 - (if 0 < s.getD 0 0 ∧ s.getD 1 0 / -s.getD 2 0 * s.getD 2 0 + s.getD 1 0 = 0 then 1 else 0))
def bound (k : Nat) (rs : List (List Int)) (v : AV) (side : Int) : Option Int := if goodW rs.length v = true then boundS (sums (k + 2) rs (wsOf v)) side else none
def optI : Option Int → AV
  | none => .non
  | some i => .int i
def crossed : Option Int → Option Int → Bool
  | some a, some b => decide (b < a)
  | _, _ => false
/-- does it show that no point is left -/
def shut (k : Nat) (whole : Int) (rs : List (List Int)) : AV → Bool
  | .tup [.str s, w] => decide (s = ("add" : Str)) && adds k rs w
  | .tup [.str s, a, b] => decide (s = ("round" : Str)) && (decide (whole = 1) && crossed (bound k rs a 1) (bound k rs b (-1)))
  | _ => false
/-- rows, ready -/
def RW (x : AV) (p : Nat → List (List Int) → Prop) : Prop := ∃ k rs, x = rowsI rs ∧ RowsOk k 250 rs ∧ k ≤ 20 ∧ p k rs
def sp_mixed : ASp := A2 fun x y h R _ => RW x fun k rs => ∃ ws, y = .tup (zsV ws) ∧ ws.length = rs.length ∧ Bnd 300 ws ∧ (∀ w ∈ ws, 0 ≤ w) ∧ R (.tup (zsV ((if 0 < (sums (k + 2) rs ws).headD 0 then 1 else 0) :: (sums (k + 2) rs ws).drop 1))) h
def sp_good_weights : ASp := A2 fun x y h R _ => ∃ m : Nat, WV h x ∧ y = .int (m : Int) ∧ R (.bl (goodW m x)) h
def sp_all_zero : ASp := A1 fun x h R _ => ∃ zs, x = .tup (zsV zs) ∧ R (.bl (zs.all fun z => decide (z = 0))) h
def sp_adds_up : ASp := A2 fun x y h R _ => RW x fun k rs => WV h y ∧ R (.bl (adds k rs y)) h
def sp_first_bound : ASp := A3 fun x y z h R _ => RW x fun k rs => WV h y ∧ ∃ side : Int, z = .int side ∧ (side = 1 ∨ side = -1) ∧ R (optI (bound k rs y side)) h
def sp_shows_empty : ASp := A4 fun x y z u h R _ => RW x fun k rs => y = .int (k : Int) ∧ PV h z ∧ ∃ whole : Int, u = .int whole ∧ (whole = 0 ∨ (whole = 1 ∧ 0 < k)) ∧ R (.bl (shut k whole rs z)) h
def sp_law_lowest : ASp := A1 fun x h R _ => ∃ Z zs, seqOf x h = some (zsV zs) ∧ zs.length ≤ 1000 ∧ Bnd Z zs ∧ Z ≤ 8000 ∧ ∀ zs' : List Int, zs'.length = zs.length → Bnd Z zs' → R (.ref h.length) (h ++ [.lst (zsV zs')])
def sp_law_adds : ASp := A2 fun x y h R _ => RW x fun k rs => ∃ ws, y = .tup (zsV ws) ∧ ws.length = rs.length ∧ Bnd 300 ws ∧ R (.ref h.length) (h ++ [.lst (zsV (sums (k + 2) rs ws))])
def sp_law_good_weights : ASp := A2 fun x y h R _ => RW x fun k rs => WV h y ∧ R (.bl (goodW rs.length y)) h
def sp_law_whole_bound : ASp := A3 fun x y z h R _ => RW x fun k rs => WV h y ∧ ∃ side : Int, z = .int side ∧ (side = 1 ∨ side = -1) ∧ R (optI (bound k rs y side)) h
def sp_law_shut : ASp := A3 fun x y z h R _ => RW x fun k rs => PV h y ∧ ∃ whole : Int, z = .int whole ∧ (whole = 0 ∨ (whole = 1 ∧ 0 < k)) ∧ R (.bl (shut k whole rs y)) h
def sp_law_share : ASp := A1 fun x h R _ => ∃ n : Nat, x = .ref n ∧ DrawAt h n ∧ ∀ z h', isz z ≤ 64 → Drawn h n h' → R (.int z) h'
def sp_law_weight : ASp := A1 fun x h R _ => ∃ n : Nat, x = .ref n ∧ DrawAt h n ∧ ∀ z h', isz z ≤ 44 → 0 ≤ z → Drawn h n h' → R (.int z) h'
def sp_law_told_row : ASp := A2 fun x y h R _ => ∃ (s : Int) (k Z : Nat) (zs : List Int), x = .int s ∧ (s = 0 ∨ s = 1) ∧ seqOf y h = some (zsV zs) ∧ zs.length = k + 1 ∧ k ≤ 20 ∧ Bnd Z zs ∧ 1 ≤ Z ∧ Z ≤ 8000 ∧ ∀ r, RowOk k Z r → R (rowI r) h
def sp_law_free_row : ASp := A2 fun x y h R _ => ∃ n k : Nat, x = .ref n ∧ y = .int (k : Int) ∧ k ≤ 20 ∧ DrawAt h n ∧ ∀ r h', RowOk k 64 r → Drawn h n h' → R (rowI r) h'
def sp_law_summed : ASp := A3 fun x y z h R _ => ∃ k Zr Zw rs ws, seqOf x h = some (rs.map rowI) ∧ seqOf y h = some (zsV ws) ∧ z = .int ((k : Nat) : Int) ∧ k ≤ 20 ∧ rs.length ≤ 60 ∧ (∀ r ∈ rs, RowOk k Zr r) ∧ ws.length = rs.length ∧ Bnd Zw ws ∧ Zr ≤ 1000 ∧ Zw ≤ 1000 ∧ R (.ref h.length) (h ++ [.lst (zsV (sums (k + 2) rs ws))])
/-- rows and weights at their lists -/
structure RwAt (h : AH) (n r w k Zr Zw : Nat) (rs : List (List Int)) (ws : List Int) : Prop where
  dr : DrawAt h n
  r_ : h[r]? = some (.lst (rs.map rowI))
  w_ : h[w]? = some (.lst (zsV ws))
  nr : n < r
  nw : n < w
  rw : r ≠ w
  le : rs.length ≤ 60
  row : ∀ x ∈ rs, RowOk k Zr x
  len : ws.length = rs.length
  bnd : Bnd Zw ws
def sp_law_close : ASp := A4 fun x y z v h R _ => ∃ n r w u k Zr Zw rs ws ds, x = .ref n ∧ y = .ref r ∧ z = .ref w ∧ v = .ref u ∧ RwAt h n r w k Zr Zw rs ws ∧ k ≤ 20 ∧ rs.length ≤ 50 ∧ 64 ≤ Zr ∧ Zr ≤ 200 ∧ 1 ≤ Zw ∧ Zw ≤ 200 ∧ h[u]? = some (.lst (zsV ds)) ∧ ds.length = k + 1 ∧ Bnd 80 ds ∧ n < u ∧ u ≠ r ∧ u ≠ w ∧
  ∀ (a : Nat) h' rs' ws', a ≤ rs.length → RwAt h' n r w k (Zr + Zw + 20) (Zr + Zw + 20) rs' ws' → rs'.length = rs.length + 1 → h'.length = h.length → (∀ i, i ≠ n → i ≠ r → i ≠ w → h'[i]? = h[i]?) → R (.int (a : Int)) h'
def sp_law_odd : ASp := A4 fun x y z v h R _ => ∃ n w u first Zw ws ds, x = .ref n ∧ y = .ref w ∧ z = .ref u ∧ v = .int ((first : Nat) : Int) ∧ first ≤ 3 ∧ DrawAt h n ∧ h[w]? = some (.lst (zsV ws)) ∧ h[u]? = some (.lst (zsV ds)) ∧ n < w ∧ n < u ∧ w ≠ u ∧ Bnd Zw ws ∧ 44 ≤ Zw ∧ ws.length ≤ 60 ∧ ds.length ≤ 60 ∧ Bnd 75 ds ∧
  ∀ h' ws' ds', DrawAt h' n → h'[w]? = some (.lst (zsV ws')) → h'[u]? = some (.lst (zsV ds')) → ws'.length = ws.length → ds'.length = ds.length → Bnd Zw ws' → Bnd 80 ds' → h'.length = h.length → (∀ i, i ≠ n → i ≠ w → i ≠ u → h'[i]? = h[i]?) → R .non h'
/-- a case: rows, a proof -/
def Case (k : Nat) (rs : List (List Int)) (p : AV) : Prop := RowsOk k 200 rs ∧ k ≤ 14 ∧ rs.length ≤ 50 ∧
  ((∃ a, p = .tup [.str "add", .tup (zsV a)] ∧ a.length = rs.length ∧ Bnd 200 a) ∨ ∃ a b, p = .tup [.str "round", .tup (zsV a), .tup (zsV b)] ∧ a.length = rs.length ∧ b.length = rs.length ∧ Bnd 200 a ∧ Bnd 200 b)
def caseSp : ASp := A1 fun x h R _ => ∃ n : Nat, x = .ref n ∧ DrawAt h n ∧ ∀ k rs p h', Case k rs p → Drawn h n h' → R (.tup [.int ((k : Nat) : Int), rowsI rs, p]) h'
def sp_law_add_case : ASp := caseSp
def sp_law_round_case : ASp := caseSp
def sp_law_bent_weights : ASp := A2 fun x y h R _ => ∃ (n : Nat) (ws : List Int), x = .ref n ∧ y = .tup (zsV ws) ∧ ws ≠ [] ∧ ws.length ≤ 50 ∧ Bnd 200 ws ∧ DrawAt h n ∧ ∀ v h', WV h' v → Grown h n h' → R v h'
def sp_law_bent_proof : ASp := A2 fun x y h R _ => ∃ (n k : Nat) (rs : List (List Int)), x = .ref n ∧ Case k rs y ∧ DrawAt h n ∧ ∀ v h', PV h' v → Grown h n h' → R v h'
def sp_law_bent_rows : ASp := A2 fun x y h R _ => ∃ (n k : Nat) (rs : List (List Int)), x = .ref n ∧ y = rowsI rs ∧ RowsOk k 200 rs ∧ k ≤ 14 ∧ rs.length ≤ 50 ∧ DrawAt h n ∧ ∀ rs' h', RowsOk k 250 rs' → rs'.length = rs.length → Drawn h n h' → R (rowsI rs') h'
def sp_law_agree : ASp := A4 fun x y z u h R _ => RW x fun k rs => y = .int (k : Int) ∧ PV h z ∧ ∃ whole : Int, u = .int whole ∧ (whole = 0 ∨ (whole = 1 ∧ 0 < k)) ∧ R (.bl true) h
def sp_law_mixes : ASp := A3 fun x y z h R _ => RW x fun k rs => ∃ ws, y = .tup (zsV ws) ∧ ws.length = rs.length ∧ Bnd 300 ws ∧ z = .int (k : Int) ∧ R (.bl true) h
def sp_law_holds_all : ASp := A4 fun x y z u h R _ => ∃ (n k : Nat) (rs : List (List Int)), x = .ref n ∧ DrawAt h n ∧ y = .int (k : Int) ∧ z = rowsI rs ∧ Case k rs u ∧ ∀ h', Drawn h n h' → R (.bl true) h'
end AL

/-! B19: bodies, printed by gen.py. -/
namespace AL
open PySem
def b_mixed_r1 : ATS := (asgT (lcT (iZipMT (consT (varT 3) (consT (sliceT (varT 4) (someT (cT (.int 1))) noneT) nilT))) (gTupT 2 (gNmsT [7, 8])) yesT (opT addR (varT 7) (opT mulR (varT 5) (varT 8))) [7, 8]) (gNameT 3))
def b_mixed_l1 : ATS := (ifS (cmpT (opT neR (varT 5) (cT (.int 0))))
    (seqT (ifS (cmpT (opT eqR (opT ixR (varT 4) (cT (.int 0))) (cT (.int 1))))
    (asgT (cT (.int 1)) (gNameT 2))
    nextT)
    b_mixed_r1)
    nextT)
def b_mixed_r2 : ATS := (retT (opT addR (tupT (consT (varT 2) nilT)) (cbT tupleR (consT (varT 3) nilT))))
def b_mixed : ATS := (seqT (asgT (cT (.int 0)) (gNameT 2))
    (seqT (asgT (lcT (iSeqT (sliceT (opT ixR (varT 0) (cT (.int 0))) (someT (cT (.int 1))) noneT)) (gNameT 6) yesT (cT (.int 0)) [6]) (gNameT 3))
    (seqT (forT (iZipMT (consT (varT 0) (consT (varT 1) nilT))) (gTupT 2 (gConsT (gNameT 4) (gConsT (gNameT 5) gNilT)))
    b_mixed_l1)
    b_mixed_r2)))
def b_good_weights_l1 : ATS := (ifS (orT (notT (truT (callT sp_whole_number (fun _ _ => False) (consT (varT 2) nilT)))) (cmpT (opT ltR (varT 2) (cT (.int 0)))))
    (retT (cT (.bl false)))
    nextT)
def b_good_weights : ATS := (seqT (ifS (orT (notT (truT (cbT instR (consT (varT 0) (consT (cT (.ty "tuple")) nilT))))) (cmpT (opT neR (cbT lenR (consT (varT 0) nilT)) (varT 1))))
    (retT (cT (.bl false)))
    nextT)
    (seqT (forT (iSeqT (varT 0)) (gNameT 2)
    b_good_weights_l1)
    (retT (cT (.bl true)))))
def b_all_zero_l1 : ATS := (ifS (cmpT (opT neR (varT 1) (cT (.int 0))))
    (retT (cT (.bl false)))
    nextT)
def b_all_zero : ATS := (seqT (forT (iSeqT (varT 0)) (gNameT 1)
    b_all_zero_l1)
    (retT (cT (.bl true))))
def b_adds_up : ATS := (seqT (ifS (notT (truT (callT sp_good_weights (fun _ _ => False) (consT (varT 1) (consT (cbT lenR (consT (varT 0) nilT)) nilT)))))
    (retT (cT (.bl false)))
    nextT)
    (seqT (asgT (callT sp_mixed (fun _ _ => False) (consT (varT 0) (consT (varT 1) nilT))) (gNameT 2))
    (seqT (ifS (notT (truT (callT sp_all_zero (fun _ _ => False) (consT (sliceT (varT 2) (someT (cT (.int 2))) noneT) nilT))))
    (retT (cT (.bl false)))
    nextT)
    (retT (orV (opT ltR (opT ixR (varT 2) (cT (.int 1))) (cT (.int 0))) (andV (opT eqR (opT ixR (varT 2) (cT (.int 1))) (cT (.int 0))) (opT eqR (opT ixR (varT 2) (cT (.int 0))) (cT (.int 1)))))))))
def b_first_bound : ATS := (seqT (ifS (notT (truT (callT sp_good_weights (fun _ _ => False) (consT (varT 1) (consT (cbT lenR (consT (varT 0) nilT)) nilT)))))
    (retT (cT .non))
    nextT)
    (seqT (asgT (callT sp_mixed (fun _ _ => False) (consT (varT 0) (consT (varT 1) nilT))) (gNameT 3))
    (seqT (ifS (orT (cmpT (opT ltR (cbT lenR (consT (varT 3) nilT)) (cT (.int 3)))) (orT (notT (truT (callT sp_all_zero (fun _ _ => False) (consT (sliceT (varT 3) (someT (cT (.int 3))) noneT) nilT)))) (cmpT (opT leR (opT mulR (opT ixR (varT 3) (cT (.int 2))) (varT 2)) (cT (.int 0))))))
    (retT (cT .non))
    nextT)
    (seqT (asgT (callT sp_ratio (fun _ _ => False) (consT (unT negR (opT ixR (varT 3) (cT (.int 1)))) (consT (opT ixR (varT 3) (cT (.int 2))) nilT))) (gNameT 4))
    (seqT (ifS (cmpT (opT eqR (varT 2) (cT (.int 1))))
    (seqT (ifS (cmpT (opT eqR (opT ixR (varT 3) (cT (.int 0))) (cT (.int 1))))
    (retT (opT addR (callT sp_floor_of (fun _ _ => False) (consT (varT 4) nilT)) (cT (.int 1))))
    nextT)
    (retT (callT sp_ceiling_of (fun _ _ => False) (consT (varT 4) nilT))))
    nextT)
    (seqT (ifS (cmpT (opT eqR (opT ixR (varT 3) (cT (.int 0))) (cT (.int 1))))
    (retT (opT subR (callT sp_ceiling_of (fun _ _ => False) (consT (varT 4) nilT)) (cT (.int 1))))
    nextT)
    (retT (callT sp_floor_of (fun _ _ => False) (consT (varT 4) nilT)))))))))
def b_shows_empty : ATS := (seqT (ifS (orT (notT (truT (cbT instR (consT (varT 2) (consT (cT (.ty "tuple")) nilT))))) (notT (truT (varT 0))))
    (retT (cT (.bl false)))
    nextT)
    (seqT (ifS (andT (cmpT (opT eqR (cbT lenR (consT (varT 2) nilT)) (cT (.int 2)))) (cmpT (opT eqR (opT ixR (varT 2) (cT (.int 0))) (cT (.str "add")))))
    (retT (callT sp_adds_up (fun _ _ => False) (consT (varT 0) (consT (opT ixR (varT 2) (cT (.int 1))) nilT))))
    nextT)
    (seqT (ifS (andT (cmpT (opT eqR (cbT lenR (consT (varT 2) nilT)) (cT (.int 3)))) (andT (cmpT (opT eqR (opT ixR (varT 2) (cT (.int 0))) (cT (.str "round")))) (andT (cmpT (opT eqR (varT 3) (cT (.int 1)))) (cmpT (opT gtR (varT 1) (cT (.int 0)))))))
    (seqT (asgT (callT sp_first_bound (fun _ _ => False) (consT (varT 0) (consT (opT ixR (varT 2) (cT (.int 1))) (consT (cT (.int 1)) nilT)))) (gNameT 4))
    (seqT (asgT (callT sp_first_bound (fun _ _ => False) (consT (varT 0) (consT (opT ixR (varT 2) (cT (.int 2))) (consT (unT negR (cT (.int 1))) nilT)))) (gNameT 5))
    (retT (andV (opT notNR (varT 4) (cT .non)) (andV (opT notNR (varT 5) (cT .non)) (opT gtR (varT 4) (varT 5)))))))
    nextT)
    (retT (cT (.bl false))))))
def b_law_lowest_l1 : ATS := (ifS (andT (cmpT (opT neR (varT 2) (cT (.int 0)))) (cmpT (opT neR (varT 1) (cT (.int 1)))))
    (asgT (callT sp_law_gcd (fun _ _ => False) (consT (varT 1) (consT (varT 2) nilT))) (gNameT 1))
    nextT)
def b_law_lowest_r1 : ATS := (seqT (ifS (cmpT (opT gtR (varT 1) (cT (.int 1))))
    (retT (lcT (iSeqT (varT 0)) (gNameT 2) yesT (opT fdivR (cbT intR (consT (varT 2) nilT)) (varT 1)) [2]))
    nextT)
    (retT (cbT listR (consT (varT 0) nilT))))
def b_law_lowest : ATS := (seqT (asgT (cT (.int 0)) (gNameT 1))
    (seqT (forT (iSeqT (varT 0)) (gNameT 2)
    b_law_lowest_l1)
    b_law_lowest_r1))
def b_law_adds_l1 : ATS := (asgT (lcT (iZipMT (consT (varT 2) (consT (varT 3) nilT))) (gTupT 2 (gNmsT [5, 6])) yesT (opT addR (varT 5) (opT mulR (varT 4) (varT 6))) [5, 6]) (gNameT 2))
def b_law_adds : ATS := (seqT (asgT (opT repLR (lstT (consT (cT (.int 0)) nilT)) (cbT lenR (consT (opT ixR (varT 0) (cT (.int 0))) nilT))) (gNameT 2))
    (seqT (forT (iZipMT (consT (varT 0) (consT (varT 1) nilT))) (gTupT 2 (gConsT (gNameT 3) (gConsT (gNameT 4) gNilT)))
    b_law_adds_l1)
    (retT (varT 2))))
def b_law_good_weights : ATS := (seqT (ifS (orT (notT (truT (cbT instR (consT (varT 1) (consT (cT (.ty "tuple")) nilT))))) (orT (cmpT (opT neR (cbT lenR (consT (varT 1) nilT)) (cbT lenR (consT (varT 0) nilT)))) (cmpT (opT eqR (cbT lenR (consT (varT 0) nilT)) (cT (.int 0))))))
    (retT (cT (.bl false)))
    nextT)
    (retT (cbT allR (consT (lcT (iSeqT (varT 1)) (gNameT 2) yesT (andV (callT sp_law_is_int (fun _ _ => False) (consT (varT 2) nilT)) (opT geR (varT 2) (cT (.int 0)))) [2]) nilT))))
def b_law_whole_bound : ATS := (seqT (ifS (notT (truT (callT sp_law_good_weights (fun _ _ => False) (consT (varT 0) (consT (varT 1) nilT)))))
    (retT (cT .non))
    nextT)
    (seqT (asgT (callT sp_law_adds (fun _ _ => False) (consT (varT 0) (consT (varT 1) nilT))) (gNameT 3))
    (seqT (ifS (orT (cmpT (opT ltR (cbT lenR (consT (varT 3) nilT)) (cT (.int 3)))) (orT (truT (cbT anyR (consT (lcT (iSeqT (sliceT (varT 3) (someT (cT (.int 3))) noneT)) (gNameT 5) yesT (opT neR (varT 5) (cT (.int 0))) [5]) nilT))) (cmpT (opT leR (opT mulR (opT ixR (varT 3) (cT (.int 2))) (varT 2)) (cT (.int 0))))))
    (retT (cT .non))
    nextT)
    (seqT (ifS (cmpT (opT eqR (varT 2) (cT (.int 1))))
    (seqT (asgT (unT negR (opT fdivR (opT ixR (varT 3) (cT (.int 1))) (opT ixR (varT 3) (cT (.int 2))))) (gNameT 4))
    (retT (opT addR (varT 4) (cbT intR (consT (andV (opT gtR (opT ixR (varT 3) (cT (.int 0))) (cT (.int 0))) (opT eqR (opT addR (opT mulR (varT 4) (opT ixR (varT 3) (cT (.int 2)))) (opT ixR (varT 3) (cT (.int 1)))) (cT (.int 0)))) nilT)))))
    nextT)
    (seqT (asgT (opT fdivR (opT ixR (varT 3) (cT (.int 1))) (unT negR (opT ixR (varT 3) (cT (.int 2))))) (gNameT 4))
    (retT (opT subR (varT 4) (cbT intR (consT (andV (opT gtR (opT ixR (varT 3) (cT (.int 0))) (cT (.int 0))) (opT eqR (opT addR (opT mulR (varT 4) (opT ixR (varT 3) (cT (.int 2)))) (opT ixR (varT 3) (cT (.int 1)))) (cT (.int 0)))) nilT)))))))))
def b_law_shut : ATS := (seqT (ifS (orT (notT (truT (cbT instR (consT (varT 1) (consT (cT (.ty "tuple")) nilT))))) (orT (cmpT (opT ltR (cbT lenR (consT (varT 1) nilT)) (cT (.int 2)))) (cmpT (opT eqR (cbT lenR (consT (varT 0) nilT)) (cT (.int 0))))))
    (retT (cT (.bl false)))
    nextT)
    (seqT (ifS (andT (cmpT (opT eqR (opT ixR (varT 1) (cT (.int 0))) (cT (.str "add")))) (andT (cmpT (opT eqR (cbT lenR (consT (varT 1) nilT)) (cT (.int 2)))) (truT (callT sp_law_good_weights (fun _ _ => False) (consT (varT 0) (consT (opT ixR (varT 1) (cT (.int 1))) nilT))))))
    (seqT (asgT (callT sp_law_adds (fun _ _ => False) (consT (varT 0) (consT (opT ixR (varT 1) (cT (.int 1))) nilT))) (gNameT 3))
    (retT (andV (cbT allR (consT (lcT (iSeqT (sliceT (varT 3) (someT (cT (.int 2))) noneT)) (gNameT 6) yesT (opT eqR (varT 6) (cT (.int 0))) [6]) nilT)) (orV (opT ltR (opT ixR (varT 3) (cT (.int 1))) (cT (.int 0))) (andV (opT eqR (opT ixR (varT 3) (cT (.int 1))) (cT (.int 0))) (opT gtR (opT ixR (varT 3) (cT (.int 0))) (cT (.int 0))))))))
    nextT)
    (seqT (ifS (orT (cmpT (opT neR (opT ixR (varT 1) (cT (.int 0))) (cT (.str "round")))) (orT (cmpT (opT neR (cbT lenR (consT (varT 1) nilT)) (cT (.int 3)))) (cmpT (opT eqR (varT 2) (cT (.int 0))))))
    (retT (cT (.bl false)))
    nextT)
    (seqT (asgT (callT sp_law_whole_bound (fun _ _ => False) (consT (varT 0) (consT (opT ixR (varT 1) (cT (.int 1))) (consT (cT (.int 1)) nilT)))) (gNameT 4))
    (seqT (asgT (callT sp_law_whole_bound (fun _ _ => False) (consT (varT 0) (consT (opT ixR (varT 1) (cT (.int 2))) (consT (unT negR (cT (.int 1))) nilT)))) (gNameT 5))
    (retT (andV (opT notNR (varT 4) (cT .non)) (andV (opT notNR (varT 5) (cT .non)) (opT gtR (varT 4) (varT 5))))))))))
def b_law_share_a1 : ATA := (consT (unT negR (cT (.int 1))) (consT (unT negR (cT (.int 2))) (consT (unT negR (cT (.int 3))) (consT (unT negR (cT (.int 4))) (consT (unT negR (cT (.int 7))) nilT)))))
def b_law_share_a2 : ATA := (consT (cT (.int 0)) (consT (cT (.int 3)) (consT (cT (.int 5)) (consT (unT negR (cT (.int 1))) (consT (unT negR (cT (.int 1))) b_law_share_a1)))))
def b_law_share_a3 : ATA := (consT (cT (.int 0)) (consT (cT (.int 1)) (consT (cT (.int 1)) (consT (cT (.int 1)) (consT (cT (.int 2)) b_law_share_a2)))))
def b_law_share : ATS := (seqT (asgT (callT sp_law_draw (fun _ _ => False) (consT (varT 0) (consT (cT (.int 19)) nilT))) (gNameT 1))
    (seqT (ifS (cmpT (opT eqR (varT 1) (cT (.int 9))))
    (seqT (asgT (opT addR (opT addR (opT mulR (callT sp_law_draw (fun _ _ => False) (consT (varT 0) (consT (cT (.int 1000000)) nilT))) (opT powR (cT (.int 10)) (cT (.int 12)))) (opT mulR (callT sp_law_draw (fun _ _ => False) (consT (varT 0) (consT (cT (.int 1000000)) nilT))) (opT powR (cT (.int 10)) (cT (.int 6))))) (callT sp_law_draw (fun _ _ => False) (consT (varT 0) (consT (cT (.int 1000000)) nilT)))) (gNameT 2))
    (retT (opT subR (varT 2) (opT mulR (opT mulR (cT (.int 2)) (varT 2)) (callT sp_law_draw (fun _ _ => False) (consT (varT 0) (consT (cT (.int 2)) nilT)))))))
    nextT)
    (retT (opT ixR (lstT (consT (cT (.int 0)) (consT (cT (.int 0)) (consT (cT (.int 0)) (consT (cT (.int 0)) b_law_share_a3))))) (varT 1)))))
def b_law_told_row : ATS := (retT (opT addR (tupT (consT (varT 0) nilT)) (cbT tupleR (consT (callT sp_law_lowest (fun _ _ => False) (consT (varT 1) nilT)) nilT))))
def b_law_free_row : ATS := (retT (callT sp_law_told_row (fun _ _ => False) (consT (cbT intR (consT (opT eqR (callT sp_law_draw (fun _ _ => False) (consT (varT 0) (consT (cT (.int 3)) nilT))) (cT (.int 0))) nilT)) (consT (lcT (iRng1T (consT (opT addR (varT 1) (cT (.int 1))) nilT)) (gNameT 2) yesT (callT sp_law_share (fun _ _ => False) (consT (varT 0) nilT)) [2]) nilT))))
def b_law_weight_a1 : ATA := (consT (cT (.int 2)) (consT (cT (.int 3)) (consT (cT (.int 4)) (consT (cT (.int 5)) (consT (cT (.int 7)) nilT)))))
def b_law_weight_a2 : ATA := (consT (cT (.int 1)) (consT (cT (.int 1)) (consT (cT (.int 1)) (consT (cT (.int 0)) (consT (cT (.int 2)) b_law_weight_a1)))))
def b_law_weight : ATS := (seqT (asgT (callT sp_law_draw (fun _ _ => False) (consT (varT 0) (consT (cT (.int 13)) nilT))) (gNameT 1))
    (seqT (ifS (cmpT (opT eqR (varT 1) (cT (.int 6))))
    (retT (opT addR (opT addR (cT (.int 1)) (opT mulR (callT sp_law_draw (fun _ _ => False) (consT (varT 0) (consT (cT (.int 1000000)) nilT))) (cT (.int 1000000)))) (callT sp_law_draw (fun _ _ => False) (consT (varT 0) (consT (cT (.int 1000000)) nilT)))))
    nextT)
    (retT (opT ixR (lstT (consT (cT (.int 0)) (consT (cT (.int 0)) (consT (cT (.int 0)) b_law_weight_a2)))) (varT 1)))))
def b_law_summed_l1 : ATS := (asgT (lcT (iZipMT (consT (varT 3) (consT (varT 4) nilT))) (gTupT 2 (gNmsT [6, 7])) yesT (opT addR (varT 6) (opT mulR (varT 5) (varT 7))) [6, 7]) (gNameT 3))
def b_law_summed : ATS := (seqT (asgT (opT repLR (lstT (consT (cT (.int 0)) nilT)) (opT addR (varT 2) (cT (.int 2)))) (gNameT 3))
    (seqT (forT (iZipMT (consT (varT 0) (consT (varT 1) nilT))) (gTupT 2 (gConsT (gNameT 4) (gConsT (gNameT 5) gNilT)))
    b_law_summed_l1)
    (retT (varT 3))))
def b_law_close_l1 : ATS := (asgT (callT sp_law_gcd (fun _ _ => False) (consT (varT 6) (consT (varT 7) nilT))) (gNameT 6))
def b_law_close_r1 : ATS := (seqT (asgT (callT sp_law_draw (fun _ _ => False) (consT (varT 0) (consT (opT addR (cbT lenR (consT (varT 1) nilT)) (cT (.int 1))) nilT))) (gNameT 8))
    (seqT (dropT (mtT isLst insertR (varT 1) (consT (varT 8) (consT (callT sp_law_told_row (fun _ _ => False) (consT (callT sp_law_draw (fun _ _ => False) (consT (varT 0) (consT (cT (.int 2)) nilT))) (consT (varT 5) nilT))) nilT))))
    (seqT (dropT (mtT isLst insertR (varT 2) (consT (varT 8) (consT (ifT (cmpT (opT gtR (varT 6) (cT (.int 0)))) (varT 6) (callT sp_law_draw (fun _ _ => False) (consT (varT 0) (consT (cT (.int 3)) nilT)))) nilT))))
    (retT (varT 8)))))
def b_law_close : ATS := (seqT (asgT (callT sp_law_summed (fun _ _ => False) (consT (varT 1) (consT (varT 2) (consT (opT subR (cbT lenR (consT (varT 3) nilT)) (cT (.int 1))) nilT)))) (gNameT 4))
    (seqT (asgT (lcT (iZipMT (consT (varT 3) (consT (sliceT (varT 4) (someT (cT (.int 1))) noneT) nilT))) (gTupT 2 (gNmsT [9, 10])) yesT (opT subR (varT 9) (varT 10)) [9, 10]) (gNameT 5))
    (seqT (asgT (cT (.int 0)) (gNameT 6))
    (seqT (forT (iSeqT (varT 5)) (gNameT 7)
    b_law_close_l1)
    b_law_close_r1))))
def b_law_odd_r1 : ATS := (ifS (andT (cmpT (opT eqR (varT 4) (cT (.int 5)))) (cmpT (opT gtR (cbT lenR (consT (varT 2) nilT)) (varT 3))))
    (augST (varT 2) (opT addR (varT 3) (callT sp_law_draw (fun _ _ => False) (consT (varT 0) (consT (opT subR (cbT lenR (consT (varT 2) nilT)) (varT 3)) nilT)))) (opT subR (cT (.int 1)) (opT mulR (cT (.int 2)) (callT sp_law_draw (fun _ _ => False) (consT (varT 0) (consT (cT (.int 2)) nilT))))) iaddR)
    nextT)
def b_law_odd : ATS := (seqT (asgT (callT sp_law_draw (fun _ _ => False) (consT (varT 0) (consT (cT (.int 9)) nilT))) (gNameT 4))
    (seqT (ifS (andT (cmpT (opT eqR (varT 4) (cT (.int 4)))) (cmpT (opT gtR (cbT lenR (consT (varT 1) nilT)) (cT (.int 0)))))
    (asgT (opT subR (unT negR (cT (.int 1))) (callT sp_law_draw (fun _ _ => False) (consT (varT 0) (consT (cT (.int 3)) nilT)))) (gSubT (varT 1) (callT sp_law_draw (fun _ _ => False) (consT (varT 0) (consT (cbT lenR (consT (varT 1) nilT)) nilT)))))
    nextT)
    b_law_odd_r1))
def b_law_add_case_r1 : ATS := (seqT (asgT (lcT (iRng1T (consT (varT 2) nilT)) (gNameT 6) yesT (callT sp_law_free_row (fun _ _ => False) (consT (varT 0) (consT (varT 1) nilT))) [6]) (gNameT 3))
    (seqT (asgT (lcT (iSeqT (varT 3)) (gNameT 7) yesT (callT sp_law_weight (fun _ _ => False) (consT (varT 0) nilT)) [7]) (gNameT 4))
    (seqT (asgT (opT addR (lstT (consT (opT subR (callT sp_law_draw (fun _ _ => False) (consT (varT 0) (consT (cT (.int 5)) nilT))) (cT (.int 2))) nilT)) (opT repLR (lstT (consT (cT (.int 0)) nilT)) (varT 1))) (gNameT 5))
    (seqT (dropT (callT sp_law_odd (fun _ _ => False) (consT (varT 0) (consT (varT 4) (consT (varT 5) (consT (cT (.int 1)) nilT))))))
    (seqT (dropT (callT sp_law_close (fun _ _ => False) (consT (varT 0) (consT (varT 3) (consT (varT 4) (consT (varT 5) nilT))))))
    (retT (tupT (consT (varT 1) (consT (cbT tupleR (consT (varT 3) nilT)) (consT (tupT (consT (cT (.str "add")) (consT (cbT tupleR (consT (varT 4) nilT)) nilT))) nilT))))))))))
def b_law_add_case : ATS := (seqT (asgT (callT sp_law_draw (fun _ _ => False) (consT (varT 0) (consT (cT (.int 6)) nilT))) (gNameT 1))
    (seqT (asgT (callT sp_law_draw (fun _ _ => False) (consT (varT 0) (consT (cT (.int 6)) nilT))) (gNameT 2))
    (seqT (ifS (truT (callT sp_law_rare (fun _ _ => False) (consT (varT 0) (consT (cT (.int 9)) nilT))))
    (seqT (asgT (callT sp_law_draw (fun _ _ => False) (consT (varT 0) (consT (cT (.int 13)) nilT))) (gNameT 1))
    (asgT (callT sp_law_draw (fun _ _ => False) (consT (varT 0) (consT (cT (.int 41)) nilT))) (gNameT 2)))
    nextT)
    b_law_add_case_r1)))
def b_law_round_case : ATS := (seqT (asgT (opT addR (cT (.int 1)) (callT sp_law_draw (fun _ _ => False) (consT (varT 0) (consT (cT (.int 4)) nilT)))) (gNameT 1))
    (seqT (asgT (lcT (iRng1T (consT (callT sp_law_draw (fun _ _ => False) (consT (varT 0) (consT (cT (.int 5)) nilT))) nilT)) (gNameT 10) yesT (callT sp_law_free_row (fun _ _ => False) (consT (varT 0) (consT (varT 1) nilT))) [10]) (gNameT 2))
    (seqT (asgT (lcT (iSeqT (varT 2)) (gNameT 11) yesT (callT sp_law_weight (fun _ _ => False) (consT (varT 0) nilT)) [11]) (gNameT 3))
    (seqT (asgT (lcT (iSeqT (varT 2)) (gNameT 11) yesT (callT sp_law_weight (fun _ _ => False) (consT (varT 0) nilT)) [11]) (gNameT 4))
    (seqT (asgT (opT addR (opT subR (callT sp_law_draw (fun _ _ => False) (consT (varT 0) (consT (cT (.int 41)) nilT))) (cT (.int 20))) (callT sp_law_share (fun _ _ => False) (consT (varT 0) nilT))) (gNameT 5))
    (seqT (asgT (opT addR (cT (.int 1)) (callT sp_law_draw (fun _ _ => False) (consT (varT 0) (consT (cT (.int 7)) nilT)))) (gNameT 6))
    (seqT (asgT (opT addR (cT (.int 1)) (callT sp_law_draw (fun _ _ => False) (consT (varT 0) (consT (cT (.int 7)) nilT)))) (gNameT 7))
    (seqT (asgT (opT addR (lstT (consT (opT subR (opT mulR (unT negR (varT 6)) (varT 5)) (callT sp_law_draw (fun _ _ => False) (consT (varT 0) (consT (opT addR (varT 6) (cT (.int 1))) nilT)))) (consT (varT 6) nilT))) (opT repLR (lstT (consT (cT (.int 0)) nilT)) (opT subR (varT 1) (cT (.int 1))))) (gNameT 8))
    (seqT (dropT (callT sp_law_odd (fun _ _ => False) (consT (varT 0) (consT (varT 3) (consT (varT 8) (consT (cT (.int 2)) nilT))))))
    (seqT (asgT (callT sp_law_close (fun _ _ => False) (consT (varT 0) (consT (varT 2) (consT (varT 3) (consT (varT 8) nilT))))) (gNameT 9))
    (seqT (dropT (mtT isLst insertR (varT 4) (consT (varT 9) (consT (cT (.int 0)) nilT))))
    (seqT (asgT (opT addR (lstT (consT (opT subR (opT addR (opT mulR (varT 7) (varT 5)) (callT sp_law_draw (fun _ _ => False) (consT (varT 0) (consT (opT addR (varT 7) (cT (.int 2))) nilT)))) (cT (.int 1))) (consT (unT negR (varT 7)) nilT))) (opT repLR (lstT (consT (cT (.int 0)) nilT)) (opT subR (varT 1) (cT (.int 1))))) (gNameT 8))
    (seqT (dropT (callT sp_law_odd (fun _ _ => False) (consT (varT 0) (consT (varT 4) (consT (varT 8) (consT (cT (.int 2)) nilT))))))
    (seqT (asgT (callT sp_law_close (fun _ _ => False) (consT (varT 0) (consT (varT 2) (consT (varT 4) (consT (varT 8) nilT))))) (gNameT 9))
    (seqT (dropT (mtT isLst insertR (varT 3) (consT (varT 9) (consT (cT (.int 0)) nilT))))
    (retT (tupT (consT (varT 1) (consT (cbT tupleR (consT (varT 2) nilT)) (consT (tupT (consT (cT (.str "round")) (consT (cbT tupleR (consT (varT 3) nilT)) (consT (cbT tupleR (consT (varT 4) nilT)) nilT)))) nilT))))))))))))))))))))
def b_law_bent_weights_r1 : ATS := (retT (cbT tupleR (consT (varT 2) nilT)))
def b_law_bent_weights : ATS := (seqT (asgT (cbT listR (consT (varT 1) nilT)) (gNameT 2))
    (seqT (asgT (callT sp_law_draw (fun _ _ => False) (consT (varT 0) (consT (cbT lenR (consT (varT 2) nilT)) nilT))) (gNameT 3))
    (seqT (asgT (callT sp_law_draw (fun _ _ => False) (consT (varT 0) (consT (cbT lenR (consT (varT 2) nilT)) nilT))) (gNameT 4))
    (seqT (asgT (callT sp_law_draw (fun _ _ => False) (consT (varT 0) (consT (cT (.int 10)) nilT))) (gNameT 5))
    (seqT (ifS (cmpT (opT eqR (varT 5) (cT (.int 0))))
    (augST (varT 2) (varT 3) (cT (.int 1)) iaddR)
    (ifS (cmpT (opT eqR (varT 5) (cT (.int 1))))
    (augST (varT 2) (varT 3) (cT (.int 1)) isubR)
    (ifS (cmpT (opT eqR (varT 5) (cT (.int 2))))
    (asgT (tupT (consT (opT ixR (varT 2) (varT 4)) (consT (opT ixR (varT 2) (varT 3)) nilT))) (gTupT 2 (gConsT (gSubT (varT 2) (varT 3)) (gConsT (gSubT (varT 2) (varT 4)) gNilT))))
    (ifS (cmpT (opT eqR (varT 5) (cT (.int 3))))
    (dropT (mtT isLst appendR (varT 2) (consT (cT (.int 0)) nilT)))
    (ifS (cmpT (opT eqR (varT 5) (cT (.int 4))))
    (dropT (mtT isLst popIR (varT 2) (consT (varT 3) nilT)))
    (ifS (orT (cmpT (opT eqR (varT 5) (cT (.int 5)))) (cmpT (opT eqR (varT 5) (cT (.int 9)))))
    (seqT (asgT (callT sp_law_weight (fun _ _ => False) (consT (varT 0) nilT)) (gNameT 6))
    (asgT (lcT (iSeqT (varT 2)) (gNameT 7) yesT (opT mulR (varT 7) (varT 6)) [7]) (gNameT 2)))
    (ifS (cmpT (opT eqR (varT 5) (cT (.int 6))))
    (asgT (callT sp_law_pick (fun _ _ => False) (consT (varT 0) (consT (lstT (consT (cT .non) (consT (cT (.str "1")) (consT (tupT (consT (cT (.int 1)) nilT)) (consT (cT (.str "")) (consT (tupT nilT) (consT (cT (.str "add")) nilT))))))) nilT))) (gSubT (varT 2) (varT 3)))
    (ifS (cmpT (opT eqR (varT 5) (cT (.int 7))))
    (asgT (unT negR (opT ixR (varT 2) (varT 3))) (gSubT (varT 2) (varT 3)))
    (retT (callT sp_law_pick (fun _ _ => False) (consT (varT 0) (consT (lstT (consT (varT 2) (consT (varT 2) (consT (cT .non) (consT (cT (.int 3)) (consT (cT (.str "1")) nilT)))))) nilT))))))))))))
    b_law_bent_weights_r1)))))
def b_law_bent_proof_a1 : ATA := (consT (cbT listR (consT (varT 1) nilT)) (consT (tupT (consT (cT (.str "add")) nilT)) (consT (tupT (consT (cT (.str "round")) nilT)) (consT (tupT (consT (varT 1) nilT)) (consT (opT ixR (varT 1) (cT (.int 1))) nilT)))))
def b_law_bent_proof : ATS := (seqT (asgT (callT sp_law_draw (fun _ _ => False) (consT (varT 0) (consT (cT (.int 14)) nilT))) (gNameT 2))
    (seqT (asgT (opT addR (cT (.int 1)) (callT sp_law_draw (fun _ _ => False) (consT (varT 0) (consT (opT subR (cbT lenR (consT (varT 1) nilT)) (cT (.int 1))) nilT)))) (gNameT 3))
    (seqT (ifS (cmpT (opT ltR (varT 2) (cT (.int 8))))
    (retT (opT addR (opT addR (sliceT (varT 1) noneT (someT (varT 3))) (tupT (consT (callT sp_law_bent_weights (fun _ _ => False) (consT (varT 0) (consT (opT ixR (varT 1) (varT 3)) nilT))) nilT))) (sliceT (varT 1) (someT (opT addR (varT 3) (cT (.int 1)))) noneT)))
    nextT)
    (seqT (ifS (cmpT (opT eqR (varT 2) (cT (.int 8))))
    (retT (opT addR (tupT (consT (callT sp_law_pick (fun _ _ => False) (consT (varT 0) (consT (lstT (consT (cT (.str "add")) (consT (cT (.str "round")) (consT (cT (.str "Add")) (consT (cT (.str "rounds")) (consT (cT (.str "")) (consT (cT .non) (consT (cT (.int 0)) (consT (tupT (consT (cT (.str "add")) nilT)) nilT))))))))) nilT))) nilT)) (sliceT (varT 1) (someT (cT (.int 1))) noneT)))
    nextT)
    (seqT (ifS (cmpT (opT eqR (varT 2) (cT (.int 9))))
    (retT (opT addR (varT 1) (tupT (consT (opT ixR (varT 1) (varT 3)) nilT))))
    nextT)
    (seqT (ifS (cmpT (opT eqR (varT 2) (cT (.int 10))))
    (retT (opT addR (sliceT (varT 1) noneT (someT (varT 3))) (sliceT (varT 1) (someT (opT addR (varT 3) (cT (.int 1)))) noneT)))
    nextT)
    (seqT (ifS (cmpT (opT eqR (varT 2) (cT (.int 11))))
    (retT (opT addR (tupT (consT (opT ixR (varT 1) (cT (.int 0))) nilT)) (cbT tupleR (consT (lcT (iRng2T (consT (cT (.int 1)) (consT (cbT lenR (consT (varT 1) nilT)) nilT))) (gNameT 4) yesT (opT ixR (varT 1) (opT subR (cbT lenR (consT (varT 1) nilT)) (varT 4))) [4]) nilT))))
    nextT)
    (seqT (ifS (cmpT (opT eqR (varT 2) (cT (.int 12))))
    (retT (callT sp_law_pick (fun _ _ => False) (consT (varT 0) (consT (lstT (consT (cT .non) (consT (cT (.int 0)) (consT (cT (.str "add")) (consT (tupT nilT) b_law_bent_proof_a1))))) nilT))))
    nextT)
    (retT (callT sp_law_pick (fun _ _ => False) (consT (varT 0) (consT (lstT (consT (tupT (consT (cT (.str "round")) (consT (opT ixR (varT 1) (varT 3)) (consT (opT ixR (varT 1) (varT 3)) nilT)))) (consT (tupT (consT (cT (.str "add")) (consT (opT ixR (varT 1) (varT 3)) nilT))) (consT (tupT (consT (cT (.str "round")) (consT (opT ixR (varT 1) (unT negR (cT (.int 1)))) (consT (opT ixR (varT 1) (cT (.int 1))) nilT)))) nilT)))) nilT))))))))))))
def b_law_bent_rows_r1 : ATS := (seqT (augST (varT 6) (varT 7) (opT subR (opT mulR (cT (.int 2)) (callT sp_law_draw (fun _ _ => False) (consT (varT 0) (consT (cT (.int 2)) nilT)))) (cT (.int 1))) iaddR)
    (asgT (callT sp_law_told_row (fun _ _ => False) (consT (opT ixR (opT ixR (varT 2) (varT 3)) (cT (.int 0))) (consT (varT 6) nilT))) (gSubT (varT 2) (varT 3))))
def b_law_bent_rows_r2 : ATS := (retT (cbT tupleR (consT (varT 2) nilT)))
def b_law_bent_rows : ATS := (seqT (asgT (cbT listR (consT (varT 1) nilT)) (gNameT 2))
    (seqT (asgT (callT sp_law_draw (fun _ _ => False) (consT (varT 0) (consT (cbT lenR (consT (varT 2) nilT)) nilT))) (gNameT 3))
    (seqT (asgT (callT sp_law_draw (fun _ _ => False) (consT (varT 0) (consT (cbT lenR (consT (varT 2) nilT)) nilT))) (gNameT 4))
    (seqT (asgT (callT sp_law_draw (fun _ _ => False) (consT (varT 0) (consT (cT (.int 4)) nilT))) (gNameT 5))
    (seqT (ifS (cmpT (opT eqR (varT 5) (cT (.int 0))))
    (asgT (tupT (consT (opT ixR (varT 2) (varT 4)) (consT (opT ixR (varT 2) (varT 3)) nilT))) (gTupT 2 (gConsT (gSubT (varT 2) (varT 3)) (gConsT (gSubT (varT 2) (varT 4)) gNilT))))
    (ifS (cmpT (opT eqR (varT 5) (cT (.int 1))))
    (asgT (opT addR (tupT (consT (opT subR (cT (.int 1)) (opT ixR (opT ixR (varT 2) (varT 3)) (cT (.int 0)))) nilT)) (sliceT (opT ixR (varT 2) (varT 3)) (someT (cT (.int 1))) noneT)) (gSubT (varT 2) (varT 3)))
    (seqT (asgT (cbT listR (consT (sliceT (opT ixR (varT 2) (varT 3)) (someT (cT (.int 1))) noneT) nilT)) (gNameT 6))
    (seqT (asgT (cT (.int 0)) (gNameT 7))
    (seqT (ifS (cmpT (opT eqR (varT 5) (cT (.int 3))))
    (asgT (callT sp_law_draw (fun _ _ => False) (consT (varT 0) (consT (cbT lenR (consT (varT 6) nilT)) nilT))) (gNameT 7))
    nextT)
    b_law_bent_rows_r1)))))
    b_law_bent_rows_r2)))))
def b_law_agree : ATS := (seqT (asgT (callT sp_shows_empty (fun _ _ => False) (consT (varT 0) (consT (varT 1) (consT (varT 2) (consT (varT 3) nilT))))) (gNameT 4))
    (retT (andV (cbT instR (consT (varT 4) (consT (cT (.ty "bool")) nilT))) (opT eqR (varT 4) (callT sp_law_shut (fun _ _ => False) (consT (varT 0) (consT (varT 2) (consT (varT 3) nilT))))))))
def b_law_mixes : ATS := (seqT (ifS (cmpT (opT ltR (cbT min1R (consT (varT 1) nilT)) (cT (.int 0))))
    (retT (cT (.bl true)))
    nextT)
    (seqT (asgT (callT sp_mixed (fun _ _ => False) (consT (varT 0) (consT (varT 1) nilT))) (gNameT 3))
    (seqT (asgT (callT sp_law_summed (fun _ _ => False) (consT (varT 0) (consT (varT 1) (consT (varT 2) nilT)))) (gNameT 4))
    (seqT (asgT (opT addR (tupT (consT (cbT intR (consT (opT gtR (opT ixR (varT 4) (cT (.int 0))) (cT (.int 0))) nilT)) nilT)) (cbT tupleR (consT (sliceT (varT 4) (someT (cT (.int 1))) noneT) nilT))) (gNameT 5))
    (retT (andV (cbT instR (consT (varT 3) (consT (cT (.ty "tuple")) nilT))) (andV (cbT allR (consT (lcT (iSeqT (varT 3)) (gNameT 6) yesT (callT sp_law_is_int (fun _ _ => False) (consT (varT 6) nilT)) [6]) nilT)) (opT eqR (varT 3) (varT 5)))))))))
def b_law_holds_all_l1 : ATS := (ifS (notT (truT (callT sp_law_agree (fun _ _ => False) (consT (varT 2) (consT (varT 1) (consT (varT 3) (consT (varT 5) nilT)))))))
    (retT (cT (.bl false)))
    nextT)
def b_law_holds_all_l2 : ATS := (ifS (notT (truT (callT sp_law_mixes (fun _ _ => False) (consT (varT 2) (consT (varT 6) (consT (varT 1) nilT))))))
    (retT (cT (.bl false)))
    nextT)
def b_law_holds_all_l3 : ATS := (ifS (notT (truT (callT sp_law_agree (fun _ _ => False) (consT (varT 2) (consT (varT 1) (consT (callT sp_law_bent_proof (fun _ _ => False) (consT (varT 0) (consT (varT 3) nilT))) (consT (callT sp_law_pick (fun _ _ => False) (consT (varT 0) (consT (varT 4) nilT))) nilT)))))))
    (retT (cT (.bl false)))
    nextT)
def b_law_holds_all_l4 : ATS := (ifS (notT (truT (callT sp_law_agree (fun _ _ => False) (consT (callT sp_law_bent_rows (fun _ _ => False) (consT (varT 0) (consT (varT 2) nilT))) (consT (varT 1) (consT (varT 3) (consT (callT sp_law_pick (fun _ _ => False) (consT (varT 0) (consT (varT 4) nilT))) nilT)))))))
    (retT (cT (.bl false)))
    nextT)
def b_law_holds_all_r1 : ATS := (retT (callT sp_law_agree (fun _ _ => False) (consT (varT 2) (consT (varT 1) (consT (varT 3) (consT (opT ixR (varT 4) (unT negR (cT (.int 1)))) nilT))))))
def b_law_holds_all_r2 : ATS := (seqT (forT (iRng1T (consT (cT (.int 3)) nilT)) (gNameT 9)
    b_law_holds_all_l4)
    b_law_holds_all_r1)
def b_law_holds_all_r3 : ATS := (seqT (asgT (opT addR (varT 2) (tupT (consT (callT sp_law_free_row (fun _ _ => False) (consT (varT 0) (consT (varT 1) nilT))) nilT))) (gNameT 7))
    (seqT (asgT (opT addR (tupT (consT (opT ixR (varT 3) (cT (.int 0))) nilT)) (cbT tupleR (consT (lcT (iSeqT (sliceT (varT 3) (someT (cT (.int 1))) noneT)) (gNameT 6) yesT (opT addR (varT 6) (tupT (consT (cT (.int 0)) nilT))) [6]) nilT))) (gNameT 8))
    (seqT (ifS (orT (notT (truT (callT sp_law_agree (fun _ _ => False) (consT (varT 7) (consT (varT 1) (consT (varT 8) (consT (callT sp_law_pick (fun _ _ => False) (consT (varT 0) (consT (varT 4) nilT))) nilT))))))) (notT (truT (callT sp_law_mixes (fun _ _ => False) (consT (varT 7) (consT (opT ixR (varT 8) (cT (.int 1))) (consT (varT 1) nilT)))))))
    (retT (cT (.bl false)))
    nextT)
    (seqT (forT (iRng1T (consT (cT (.int 8)) nilT)) (gNameT 9)
    b_law_holds_all_l3)
    b_law_holds_all_r2))))
def b_law_holds_all_r4 : ATS := (seqT (forT (iSeqT (sliceT (varT 3) (someT (cT (.int 1))) noneT)) (gNameT 6)
    b_law_holds_all_l2)
    b_law_holds_all_r3)
def b_law_holds_all : ATS := (seqT (asgT (ifT (cmpT (opT gtR (varT 1) (cT (.int 0)))) (lstT (consT (cT (.int 0)) (consT (cT (.int 1)) nilT))) (lstT (consT (cT (.int 0)) nilT))) (gNameT 4))
    (seqT (forT (iSeqT (varT 4)) (gNameT 5)
    b_law_holds_all_l1)
    b_law_holds_all_r4))
def b_law_r1 : ATS := (ifS (notT (truT (callT sp_law_holds_all (fun _ _ => False) (consT (varT 1) (consT (varT 3) (consT (varT 4) (consT (varT 5) nilT)))))))
    (retT (cT (.bl false)))
    nextT)
def b_law_l1 : ATS := (seqT (ifS (cmpT (opT eqR (callT sp_law_draw (fun _ _ => False) (consT (varT 1) (consT (cT (.int 2)) nilT))) (cT (.int 0))))
    (asgT (callT sp_law_add_case (fun _ _ => False) (consT (varT 1) nilT)) (gTupT 3 (gConsT (gNameT 3) (gConsT (gNameT 4) (gConsT (gNameT 5) gNilT)))))
    (asgT (callT sp_law_round_case (fun _ _ => False) (consT (varT 1) nilT)) (gTupT 3 (gConsT (gNameT 3) (gConsT (gNameT 4) (gConsT (gNameT 5) gNilT))))))
    b_law_r1)
def b_law : ATS := (seqT (asgT (callT sp_law_begin (fun _ _ => False) (consT (varT 0) nilT)) (gNameT 1))
    (seqT (forT (iRng1T (consT (cT (.int 2)) nilT)) (gNameT 2)
    b_law_l1)
    (retT (cT (.bl true)))))
end AL

/-! L19: rows added up: plain. -/
namespace AL
open PySem
theorem x_zipM' {ta : ATA} {a : ASt} {h h1 : AH} {x y : AV} {xs ys : List AV} {R : List AV → (AH → Prop) → AH → Prop} (he : ∀ L : List AV → AH → Prop, ta a h L = L [x, y] h1) (e1 : seqOf x h1 = some xs) (e2 : seqOf y h1 = some ys) : iZipMT ta a h R = R (zip2 xs ys) (fun h => seqOf x h = some xs ∧ seqOf y h = some ys) h1 := by
  unfold iZipMT
  rw [he]
  simp only [e1, e2]
theorem zip2_gt : ∀ (xs ys : List AV) (i : Nat) {a b : AV}, xs[i]? = some a → ys[i]? = some b → (zip2 xs ys)[i]? = some (.tup [a, b])
  | [], _, _, _, _, h, _ => by cases h
  | _ :: _, [], _, _, _, _, h => by cases h
  | x :: r, y :: t, 0, a, b, h1, h2 => by
    cases h1
    cases h2
    rfl
  | x :: r, y :: t, i + 1, a, b, h1, h2 => zip2_gt r t i h1 h2
/-- a comprehension over two rows of ints -/
theorem lcB_zipI {g : ATG} {el : ATE} {vs : List Nat} {a : ASt} {h : AH} {R : AK} {A B : List Int} {f : Int → Int → Int} {guard : AH → Prop} (hl : A.length = B.length) (hz : A.length ≤ 1000) (hg : ∀ acc, guard (h ++ [.lst acc]))
    (hs : ∀ u v acc (Q : AK), u ∈ A → v ∈ B → Q (.int (f u v)) (h ++ [.lst acc]) → g (.tup [.int u, .int v]) (wipeA a vs) (h ++ [.lst acc]) fun a2 h3 => el a2 h3 Q)
    (q : R (.ref h.length) (h ++ [.lst (zsV (List.zipWith f A B))])) : lcB g yesT el vs a R (zip2 (zsV A) (zsV B)) guard h := by
  have lA : (zsV A).length = A.length := List.length_map ..
  have lB : (zsV B).length = B.length := List.length_map ..
  have lz : (zip2 (zsV A) (zsV B)).length = A.length := by rw [zp2_len _ _ (by rw [lA, lB, hl]), lA]
  unfold lcB
  refine lcT_map (h1 := h) (items := zip2 (zsV A) (zsV B)) (ys := zsV (List.zipWith f A B)) (guard := guard) (fun K k => k) (by rw [lz, zsV, List.length_map, List.length_zipWith, ← hl, Nat.min_self]) (by omega) hg (fun i x y acc Q hx hy hQ => ?_) q
  obtain ⟨u, v, hu, hv, rfl⟩ := zp_get _ _ hx
  obtain ⟨u, hu2, rfl⟩ := map_get hu
  obtain ⟨v, hv2, rfl⟩ := map_get hv
  obtain ⟨w, hw, rfl⟩ := map_get hy
  rw [List.getElem?_zipWith, hu2, hv2] at hw
  cases hw
  exact hs u v acc Q (get_mem hu2) (get_mem hv2) hQ
/-! ### sums -/
def sumsT (n : Nat) (rs : List (List Int)) (ws : List Int) (i : Nat) : List Int := ((rs.zip ws).take i).foldl (fun t p => addv t p.2 p.1) (List.replicate n 0)
section
variable {n k Zr Zw : Nat} {rs : List (List Int)} {ws : List Int}
theorem sumsT_zero : sumsT n rs ws 0 = List.replicate n 0 := rfl
theorem sumsT_succ {i : Nat} {r : List Int} {w : Int} (h1 : rs[i]? = some r) (h2 : ws[i]? = some w) : sumsT n rs ws (i + 1) = addv (sumsT n rs ws i) w r := by
  unfold sumsT
  have : (rs.zip ws)[i]? = some (r, w) := by
    rw [List.getElem?_zip_eq_some]
    exact ⟨h1, h2⟩
  rw [List.take_add_one, this, List.foldl_append]
  rfl
theorem sumsT_all (hl : ws.length = rs.length) : sumsT n rs ws rs.length = sums n rs ws := by
  unfold sumsT sums
  rw [List.take_of_length_le (by rw [List.length_zip]; omega)]
theorem addv_len {t r : List Int} {w : Int} (h : t.length = r.length) : (addv t w r).length = t.length := by
  unfold addv
  rw [List.length_zipWith, h, Nat.min_self]
theorem sumsT_len (hr : ∀ r ∈ rs, r.length = n) (hl : ws.length = rs.length) : ∀ i, i ≤ rs.length → (sumsT n rs ws i).length = n
  | 0, _ => by simp [sumsT]
  | i + 1, hi => by
    have h1 := List.getElem?_eq_getElem (l := rs) (i := i) (by omega)
    have h2 := List.getElem?_eq_getElem (l := ws) (i := i) (by omega)
    have ih := sumsT_len hr hl i (by omega)
    rw [sumsT_succ h1 h2, addv_len (by rw [ih, hr _ (get_mem h1)])]
    exact ih
theorem isz_lt2 {z : Int} {Z : Nat} (h : isz z ≤ Z) : z.natAbs < 2 ^ Z := isz_lt h
theorem sumsT_abs (hr : ∀ r ∈ rs, Bnd Zr r) (hw : Bnd Zw ws) (hl : ws.length = rs.length) : ∀ i, i ≤ rs.length → ∀ z ∈ sumsT n rs ws i, z.natAbs ≤ i * 2 ^ (Zr + Zw)
  | 0, _, z, hz => by
    rw [sumsT_zero] at hz
    rw [List.eq_of_mem_replicate hz]
    simp
  | i + 1, hi, z, hz => by
    have h1 := List.getElem?_eq_getElem (l := rs) (i := i) (by omega)
    have h2 := List.getElem?_eq_getElem (l := ws) (i := i) (by omega)
    have ih := sumsT_abs hr hw hl i (by omega)
    rw [sumsT_succ h1 h2] at hz
    unfold addv at hz
    obtain ⟨j, hj, rfl⟩ := List.getElem_of_mem hz
    rw [List.getElem_zipWith]
    rw [List.length_zipWith] at hj
    have a1 := ih _ (List.getElem_mem (l := sumsT n rs ws i) (n := j) (by omega))
    have a2 := isz_lt2 (hr _ (get_mem h1) _ (List.getElem_mem (l := rs[i]) (n := j) (by omega)))
    have a3 := isz_lt2 (hw _ (get_mem h2))
    have a4 : (ws[i] * rs[i][j]).natAbs ≤ 2 ^ (Zr + Zw) := by
      rw [Int.natAbs_mul, Nat.pow_add, Nat.mul_comm]
      exact Nat.mul_le_mul (Nat.le_of_lt a2) (Nat.le_of_lt a3)
    rw [Nat.succ_mul]
    exact Nat.le_trans (Int.natAbs_add_le _ _) (Nat.add_le_add a1 a4)
theorem sumsT_bnd (hr : ∀ r ∈ rs, Bnd Zr r) (hw : Bnd Zw ws) (hl : ws.length = rs.length) (h60 : rs.length ≤ 60) {i : Nat} (hi : i ≤ rs.length) : Bnd (Zr + Zw + 6) (sumsT n rs ws i) := fun z hz => by
  have h := sumsT_abs hr hw hl i hi z hz
  refine isz_le (by omega) (Nat.lt_of_le_of_lt h ?_)
  rw [Nat.pow_add (m := Zr + Zw) (n := 6)]
  have := Nat.two_pow_pos (Zr + Zw)
  rw [Nat.mul_comm]
  exact Nat.mul_lt_mul_of_pos_left (show i < 2 ^ 6 by omega) this
theorem sums_len (hr : ∀ r ∈ rs, r.length = n) (hl : ws.length = rs.length) : (sums n rs ws).length = n := by
  rw [← sumsT_all hl]
  exact sumsT_len hr hl _ (Nat.le_refl _)
theorem sums_bnd (hr : ∀ r ∈ rs, Bnd Zr r) (hw : Bnd Zw ws) (hl : ws.length = rs.length) (h60 : rs.length ≤ 60) : Bnd (Zr + Zw + 6) (sums n rs ws) := by
  rw [← sumsT_all hl]
  exact sumsT_bnd hr hw hl h60 (Nat.le_refl _)
theorem addv_zero {t r : List Int} (h : t.length = r.length) : addv t 0 r = t := by
  unfold addv
  refine List.ext_getElem (by rw [List.length_zipWith, h, Nat.min_self]) fun i h1 h2 => ?_
  rw [List.getElem_zipWith]
  simp
end
/-- ceilings, floors of a quotient -/
theorem div_lowest {n d : Int} (hd : 0 < d) : (Rat.divInt n d).num / ((Rat.divInt n d).den : Int) = n / d ∧ (((Rat.divInt n d).num % ((Rat.divInt n d).den : Int) = 0) ↔ n % d = 0) := by
  obtain ⟨q, hq⟩ : ∃ q, q = Rat.divInt n d := ⟨_, rfl⟩
  rw [← hq]
  have hp := den_pos q
  have e : n * (q.den : Int) = q.num * d := by
    have h1 : q = (n : Rat) / (d : Rat) := by rw [hq, Rat.divInt_eq_div]
    have h2 : q * (d : Rat) = (n : Rat) := by
      rw [h1]
      exact Rat.div_mul_cancel fun z => by
        have := Rat.intCast_eq_zero_iff.mp z
        omega
    have h3 := mul_den q
    have : ((n * (q.den : Int) : Int) : Rat) = ((q.num * d : Int) : Rat) := by
      rw [Rat.intCast_mul, Rat.intCast_mul, ← h2, ← h3]
      grind
    exact Rat.intCast_inj.mp this
  have e1 : (n * (q.den : Int)) / (d * (q.den : Int)) = n / d := Int.mul_ediv_mul_of_pos_left _ _ hp
  have e2 : (q.num * d) / ((q.den : Int) * d) = q.num / (q.den : Int) := Int.mul_ediv_mul_of_pos_left _ _ hd
  have ediv : q.num / (q.den : Int) = n / d := by
    rw [← e1, ← e2, e, Int.mul_comm d]
  refine ⟨ediv, ?_⟩
  have m1 := Int.emod_def q.num (q.den : Int)
  have m2 := Int.emod_def n d
  rw [ediv] at m1
  constructor
  · intro h
    rw [h] at m1
    have h3 : n * (q.den : Int) = (q.den : Int) * (d * (n / d)) := by
      rw [e, show q.num = (q.den : Int) * (n / d) by omega]
      grind
    have h4 : n = d * (n / d) := by
      rw [Int.mul_comm] at h3
      exact Int.eq_of_mul_eq_mul_left (by omega) h3
    omega
  · intro h
    rw [h] at m2
    have h3 : q.num * d = (q.den : Int) * (n / d) * d := by
      rw [← e, show n = d * (n / d) by omega, Int.mul_ediv_cancel_left _ (by omega)]
      grind
    have h4 : q.num = (q.den : Int) * (n / d) := Int.eq_of_mul_eq_mul_right (by omega) h3
    omega
end AL

/-! P19: proofs judged: pure proofs. -/
namespace AL
open PySem
local macro_rules | `(tactic| get_elem_tactic_trivial) => `(tactic| simp -implicitDefEqProofs only [e_tru_non, e_tru_bl, e_tru_int, e_tru_tup, e_tru_rol, e_bl_bl, e_add_int, e_add_ib, e_add_str, e_add_tup, e_sub_int, e_mul_int, e_fdiv_int, e_mod_int, e_pow_int, e_shl_int, e_neg_int, e_iadd_int, e_iadd_str, e_isub_int, e_aeq_int, e_aeq_str, e_aeq_bl, e_aeq_non, e_aeq_tup, e_aeqs_nil, e_aeqs_cons, e_aeqs_nc, e_aeqs_cn, e_plain_int, e_plain_bl, e_plain_non, e_plain_str, e_plain_tup, e_eq, e_ne, e_lt_int, e_lt_str, e_le_int, e_gt_int, e_ge_int, e_isN, e_notN, e_isNon_int, e_isNon_str, e_isNon_tup, e_isNon_non, e_isNon_ref, e_isNon_bl, e_ix0, e_ix1, e_ix2, e_ix3, e_ix4, e_len_tup, e_len_rol, e_len_str, e_abs, e_int_int, e_int_bl, e_str_int, e_gcd, e_tuple_tup, e_list_tup, e_inst_ii, e_inst_ib, e_inst_tt, e_inst_it, e_inst_ti, e_inst_tb, e_inst_bb, e_inst_bi, e_inst_bt, e_inst_ss, e_inst_st, e_inst_si, e_inst_nt, e_gTup, e_gCons, e_gNil, e_gNms0, e_gNms1, e_gName, atA_0, atA_1, atA_2, atA_3, atA_4, get_l0, get_l1, get_l2, get_l3, set_l0, set_l1, set_l2, app_l, len_l0, len_l1, len_l2, x_c, x_var, x_op, x_un, x_nil, x_cons, x_tup, x_lst, x_call, x_cb, x_mt, x_tru, x_cmp, x_and, x_or, x_not, x_andV, x_orV, x_notV, x_if, x_chain, x_next, x_seq, x_brk, x_cont, x_drop, x_ret, x_retN, x_ifS, x_asg, x_gSub, x_par, x_aug, x_augS, x_rt, x_nx, x_yes, e_max2, e_min2, x_slice, x_oNone, x_oSome, e_sl_tup, e_sl_rol, gv, sv, wipeA, lenLe, true_and, and_true, if_true, if_false, ite_true, ite_false, beq_iff_eq, decide_eq_true_eq, Bool.false_eq_true, Bool.true_eq_false, not_false_eq_true, Bool.not_eq_true', decide_eq_false_iff_not, Bool.not_true, Bool.not_false, List.isEmpty_cons, List.isEmpty_nil, List.cons_append, List.nil_append, List.length_cons, List.length_nil])
theorem zsV_len (zs : List Int) : (zsV zs).length = zs.length := List.length_map ..
theorem zsV_drop (zs : List Int) (i : Nat) : (zsV zs).drop i = zsV (zs.drop i) := (List.map_drop ..).symm
theorem cut_drop (zs : List Int) (i : Nat) : cutA (zsV zs) (some (i : Int)) none = zsV (zs.drop i) := by rw [cutA_from, zsV_drop]
theorem zsV_at {zs : List Int} {i : Nat} {z : Int} (h : zs[i]? = some z) : atA (zsV zs) (i : Int) = some (.int z) := atA_map h
theorem getD_at {zs : List Int} {i : Nat} (h : i < zs.length) : zs[i]? = some (zs.getD i 0) := by
  rw [List.getD_eq_getElem?_getD, List.getElem?_eq_getElem h]
  rfl
theorem headD_get {zs : List Int} (h : 0 < zs.length) : zs[0]? = some (zs.headD 0) := by
  cases zs with
  | nil => simp at h
  | cons x r => rfl
theorem addv_head {t r : List Int} {w : Int} (h : t.length = r.length) (h0 : 0 < t.length) : (addv t w r).headD 0 = t.headD 0 + w * r.headD 0 := by
  cases t with
  | nil => simp at h0
  | cons x a =>
    cases r with
    | nil => simp at h
    | cons y b => rfl
theorem addv_tail {t r : List Int} {w : Int} : (addv t w r).drop 1 = List.zipWith (fun a b => a + w * b) (t.drop 1) (r.drop 1) := by
  cases t with
  | nil => simp [addv]
  | cons x a =>
    cases r with
    | nil => simp [addv]
    | cons y b => rfl
theorem mulOk_bits {i j : Int} {a b : Nat} (h1 : isz i ≤ a) (h2 : isz j ≤ b) (h : a + b ≤ 100000) : mulOk i j := mulOk_of (n := 100000) (by omega) (Nat.le_refl _)
theorem RowsOk.len {k Z : Nat} {rs : List (List Int)} (o : RowsOk k Z rs) : ∀ r ∈ rs, r.length = k + 2 := fun r hr => (o.row r hr).len
theorem RowsOk.bnd {k Z : Nat} {rs : List (List Int)} (o : RowsOk k Z rs) : ∀ r ∈ rs, Bnd Z r := fun r hr => (o.row r hr).bnd
theorem RowsOk.cons {k Z : Nat} {rs : List (List Int)} (o : RowsOk k Z rs) : ∃ r0 rest, rs = r0 :: rest := by
  cases rs with
  | nil => exact absurd rfl o.ne
  | cons a b => exact ⟨a, b, rfl⟩
theorem pure_mixed (x y : AV) (h : AH) (R : AK) (c1 : clH h) (c2 : clBs h.length [x, y] = true) (q : sp_mixed [x, y] h R (fun _ _ => False)) :
    b_mixed (ends (retG h R)) [some x, some y, none, none, none, none, none, none, none] h := by
  obtain ⟨k, rs, rfl, o, hk, ws, rfl, hl, hw, hpos, q⟩ := q
  have h60 := o.le
  obtain ⟨r0, rest, hrs⟩ := o.cons
  have e0 : atA (rs.map rowI) 0 = some (rowI r0) := by rw [hrs]; rfl
  have lr0 := o.len r0 (by rw [hrs]; simp)
  unfold b_mixed rowsI
  get_elem_tactic_trivial
  rw [x_lcT]
  unfold iSeqT
  get_elem_tactic_trivial
  rw [e_ix_tup e0]
  unfold rowI
  get_elem_tactic_trivial
  rw [show cutA (zsV r0) (some 1) none = zsV (r0.drop 1) from cut_drop r0 1]
  unfold lcB
  have s0 : (sumsT (k + 2) rs ws 0).drop 1 = List.replicate (k + 1) 0 := by rw [sumsT_zero, List.drop_replicate]; rfl
  refine lcT_map (h1 := h) (items := zsV (r0.drop 1)) (ys := zsV ((sumsT (k + 2) rs ws 0).drop 1)) (guard := fun _ => True) (fun K k => k) (by rw [zsV_len, zsV_len, s0]; simp; omega) (by rw [zsV_len, List.length_drop]; omega) (fun _ => trivial) (fun i x y acc Q hx hy hQ => ?_) ?_
  · get_elem_tactic_trivial
    obtain ⟨z, hz, rfl⟩ := map_get hy
    rw [s0] at hz
    rw [List.getElem?_replicate] at hz
    split at hz
    · cases hz
      exact hQ
    · cases hz
  have em : rs.map (fun r => AV.tup (zsV r)) = rs.map rowI := rfl
  rw [em, x_for, x_zipM' (x := .tup (rs.map rowI)) (y := .tup (zsV ws)) (h1 := h ++ [AO.lst (zsV ((sumsT (k + 2) rs ws 0).drop 1))]) (fun _ => rfl) rfl rfl]
  have lz : (zip2 (rs.map rowI) (zsV ws)).length = rs.length := by rw [zp2_len _ _ (by rw [zsV_len, List.length_map, hl]), List.length_map]
  obtain ⟨St, hSt⟩ : ∃ St : Nat → ASt → AH → Prop, St = fun i σ h' => ∃ (t : Nat) (a b c d : Option AV), Ext h h' ∧ h'[t]? = some (.lst (zsV ((sumsT (k + 2) rs ws i).drop 1))) ∧ 0 ≤ (sumsT (k + 2) rs ws i).headD 0 ∧
      σ = [some (.tup (rs.map rowI)), some (.tup (zsV ws)), some (.int (if 0 < (sumsT (k + 2) rs ws i).headD 0 then 1 else 0)), some (.ref t), a, b, none, c, d] := ⟨_, rfl⟩
  refine ⟨St, ?_, fun i z σ h' hz hI => ⟨⟨rfl, rfl⟩, ?_⟩, fun σ h' hI => ⟨⟨rfl, rfl⟩, ?_⟩⟩
  · rw [hSt]
    refine ⟨h.length, none, none, none, none, Ext.refl.app _, get_l0, by rw [sumsT_zero]; exact Int.le_refl _, ?_⟩
    rw [sumsT_zero]
    rfl
  · rw [hSt] at hI
    obtain ⟨t, a, b, c, d, ex, et, hp, rfl⟩ := hI
    obtain ⟨rv, wv, hr', hw', rfl⟩ := zp_get _ _ hz
    obtain ⟨r, hr, rfl⟩ := map_get hr'
    obtain ⟨w, hwv, rfl⟩ := map_get hw'
    have hi : i < rs.length := (List.getElem?_eq_some_iff.mp hr).1
    have ro := o.row r (get_mem hr)
    have sr := sumsT_succ (n := k + 2) hr hwv
    have sl := sumsT_len (n := k + 2) o.len hl i (by omega)
    have hw0 := hpos w (get_mem hwv)
    have wb := hw w (get_mem hwv)
    have hh : atA (zsV r) 0 = some (.int (r.headD 0)) := zsV_at (i := 0) (headD_get (by rw [ro.len]; omega))
    unfold b_mixed_l1 rowI
    get_elem_tactic_trivial
    by_cases hwz : w = 0
    · rw [if_neg (by simpa using hwz)]
      rw [hwz, addv_zero (by rw [sl, ro.len])] at sr
      rw [hSt]
      dsimp only
      rw [sr]
      exact ⟨t, _, _, _, _, ex, et, hp, rfl⟩
    rw [if_pos (by simpa using hwz)]
    have hh2 := addv_head (w := w) (t := sumsT (k + 2) rs ws i) (r := r) (by rw [sl, ro.len]) (by omega)
    rw [← sr] at hh2
    have ht2 := addv_tail (w := w) (t := sumsT (k + 2) rs ws i) (r := r)
    rw [← sr] at ht2
    have r1 : ∀ s, s = (if 0 < (sumsT (k + 2) rs ws (i + 1)).headD 0 then (1 : Int) else 0) → 0 ≤ (sumsT (k + 2) rs ws (i + 1)).headD 0 → b_mixed_r1 { nx := St (i + 1), rt := retG h R, bk := b_mixed_r2 (ends (retG h R)), ct := St (i + 1) } [some (.tup (rs.map rowI)), some (.tup (zsV ws)), some (.int s), some (.ref t), some (.tup (zsV r)), some (.int w), none, c, d] h' := fun s hs hp2 => by
      unfold b_mixed_r1
      get_elem_tactic_trivial
      rw [x_lcT, x_zipM' (x := .ref t) (y := .tup (zsV (r.drop 1))) (h1 := h') (fun L => by get_elem_tactic_trivial; rw [show cutA (zsV r) (some 1) none = zsV (r.drop 1) from cut_drop r 1]) (seq_ref et) rfl]
      refine lcB_zipI (f := fun a b => a + w * b) (by rw [List.length_drop, List.length_drop, sl, ro.len]) (by rw [List.length_drop, sl]; omega) (fun acc => ⟨seq_ref (get_old et), rfl⟩) (fun u v acc Q hu hv hQ => ?_) ?_
      · get_elem_tactic_trivial
        have vb := ro.bnd v (List.mem_of_mem_drop hv)
        exact ⟨mulOk_bits wb vb (by omega), hQ⟩
      · rw [← ht2, hSt, hs]
        exact ⟨h'.length, _, _, _, _, ex.app _, get_l0, hp2, rfl⟩
    rw [e_ix_tup hh]
    get_elem_tactic_trivial
    rcases ro.hd with h0 | h1
    · rw [if_neg (by rw [h0]; decide)]
      rw [h0, Int.mul_zero, Int.add_zero] at hh2
      exact r1 _ (by rw [hh2]) (by rw [hh2]; exact hp)
    · rw [if_pos h1]
      rw [h1, Int.mul_one] at hh2
      exact r1 1 (by rw [if_pos (by omega)]) (by omega)
  · rw [hSt] at hI
    obtain ⟨t, a, b, c, d, ex, et, hp, rfl⟩ := hI
    rw [lz, sumsT_all hl] at et hp ⊢
    have sl := sums_len (n := k + 2) o.len hl
    unfold b_mixed_r2
    get_elem_tactic_trivial
    rw [e_tuple_lst et]
    get_elem_tactic_trivial
    refine ⟨by rw [zsV_len, List.length_drop]; omega, ret_ext c1 ex ?_ q⟩
    exact clBs_ints _
theorem wv_inst {h : AH} {v : AV} (b : WV h v) : (∃ xs, v = .tup xs ∧ xs.length ≤ 70 ∧ ∀ x ∈ xs, leafB 300 x = true) ∨ ((∀ Q : AK, instR [v, .ty "tuple"] h Q = Q (.bl false) h) ∧ ∀ m, goodW m v = false) := by
  cases v with
  | tup xs => exact .inl ⟨xs, rfl, b.1, b.2⟩
  | ref n =>
    obtain ⟨xs, e⟩ := b
    exact .inr ⟨fun Q => by simp only [instR, tyName, e]; rfl, fun _ => rfl⟩
  | ty _ => exact b.elim
  | rol _ => exact b.elim
  | _ => exact .inr ⟨fun Q => rfl, fun _ => rfl⟩
theorem leafB_seen {h : AH} {Z : Nat} {x : AV} (e : leafB Z x = true) : seen h x := by
  cases x with
  | ref _ => cases e
  | ty _ => cases e
  | _ => trivial
theorem pure_good_weights (x y : AV) (h : AH) (R : AK) (c1 : clH h) (c2 : clBs h.length [x, y] = true) (q : sp_good_weights [x, y] h R (fun _ _ => False)) :
    b_good_weights (ends (retG h R)) [some x, some y, none] h := by
  obtain ⟨m, wv, rfl, q⟩ := q
  unfold b_good_weights
  get_elem_tactic_trivial
  rcases wv_inst wv with ⟨xs, rfl, hl, hx⟩ | ⟨e1, e2⟩
  rotate_left
  · rw [e1]
    rw [e2] at q
    get_elem_tactic_trivial
    exact retG_of q
  get_elem_tactic_trivial
  have eg : goodW m (.tup xs) = (decide (xs.length = m) && xs.all nonneg) := rfl
  by_cases hm : xs.length = m
  rotate_left
  · rw [if_pos (by rw [beq_eq_false_iff_ne]; exact fun z => hm (Int.ofNat.inj z))]
    rw [eg, decide_eq_false hm, Bool.false_and] at q
    exact retG_of q
  rw [if_neg (by rw [hm, beq_self_eq_true]; decide), x_for, x_iseq_tup (xs := xs) (fun _ => rfl)]
  rw [eg, decide_eq_true hm, Bool.true_and] at q
  refine ⟨fun i σ h' => h' = h ∧ (xs.take i).all nonneg = true ∧ ∃ a, σ = [some (.tup xs), some (.int (m : Int)), a], ⟨rfl, rfl, _, rfl⟩, fun i z σ h' hz ⟨eh, ha, a, es⟩ => ⟨trivial, ?_⟩, fun σ h' ⟨eh, ha, a, es⟩ => ⟨trivial, ?_⟩⟩
  · subst eh es
    have bad : nonneg z = false → retG h' R (.bl false) h' := fun hb => by
      rw [all_bad hz hb] at q
      exact retG_of q
    unfold b_good_weights_l1
    get_elem_tactic_trivial
    refine ⟨leafB_seen (hx z (get_mem hz)), ?_⟩
    cases hiz : isI z with
    | false =>
      get_elem_tactic_trivial
      exact bad (by
        cases z with
        | int _ => cases hiz
        | _ => rfl)
    | true =>
      obtain ⟨v, rfl⟩ : ∃ v, z = .int v := by
        cases z with
        | int v => exact ⟨v, rfl⟩
        | _ => cases hiz
      get_elem_tactic_trivial
      by_cases h0 : v < 0
      · rw [if_pos h0]
        exact bad (decide_eq_false (by omega))
      · rw [if_neg h0]
        exact ⟨all_step hz ha (decide_eq_true (by omega)), _, rfl⟩
  · subst eh es
    get_elem_tactic_trivial
    rw [all_end ha] at q
    exact retG_of q
theorem pure_all_zero (x : AV) (h : AH) (R : AK) (c1 : clH h) (c2 : clBs h.length [x] = true) (q : sp_all_zero [x] h R (fun _ _ => False)) :
    b_all_zero (ends (retG h R)) [some x, none] h := by
  obtain ⟨zs, rfl, q⟩ := q
  unfold b_all_zero
  get_elem_tactic_trivial
  rw [x_for, x_iseq_tup (xs := zsV zs) (fun _ => rfl)]
  refine ⟨fun i σ h' => h' = h ∧ (zs.take i).all (fun z => decide (z = 0)) = true ∧ ∃ a, σ = [some (.tup (zsV zs)), a], ⟨rfl, rfl, _, rfl⟩, fun i z σ h' hz ⟨eh, ha, a, es⟩ => ⟨trivial, ?_⟩, fun σ h' ⟨eh, ha, a, es⟩ => ⟨trivial, ?_⟩⟩
  · subst eh es
    obtain ⟨v, hv, rfl⟩ := map_get hz
    unfold b_all_zero_l1
    get_elem_tactic_trivial
    by_cases h0 : v = 0
    · rw [if_neg (by simpa using h0)]
      refine ⟨?_, _, rfl⟩
      rw [List.take_add_one, hv, List.all_append, ha]
      simp [h0]
    · rw [if_pos (by simpa using h0)]
      have : (zs.all fun z => decide (z = 0)) = false := by
        rw [List.all_eq_false]
        exact ⟨v, get_mem hv, by simpa using h0⟩
      rw [this] at q
      exact retG_of q
  · subst eh es
    rw [zsV_len, List.take_length] at ha
    get_elem_tactic_trivial
    rw [ha] at q
    exact retG_of q
/-- good weights are ints -/
theorem good_inv {h : AH} {m : Nat} {v : AV} (b : WV h v) (g : goodW m v = true) : ∃ ws, v = .tup (zsV ws) ∧ ws.length = m ∧ Bnd 300 ws ∧ (∀ w ∈ ws, 0 ≤ w) ∧ wsOf v = ws := by
  cases v with
  | tup xs =>
    have g : (decide (xs.length = m) && xs.all nonneg) = true := g
    rw [Bool.and_eq_true, decide_eq_true_eq, List.all_eq_true] at g
    obtain ⟨g1, g2⟩ := g
    have : ∀ (ys : List AV), (∀ y ∈ ys, nonneg y = true) → ∃ ws, ys = zsV ws := fun ys => by
      induction ys with
      | nil => exact fun _ => ⟨[], rfl⟩
      | cons y r ih =>
        intro hy
        obtain ⟨ws, rfl⟩ := ih fun z hz => hy z (by simp [hz])
        have := hy y (by simp)
        cases y with
        | int i => exact ⟨i :: ws, rfl⟩
        | _ => cases this
    obtain ⟨ws, rfl⟩ := this xs g2
    refine ⟨ws, rfl, by rw [← g1, zsV_len], fun w hw => ?_, fun w hw => ?_, ?_⟩
    · have := b.2 (.int w) (List.mem_map.mpr ⟨w, hw, rfl⟩)
      exact of_decide_eq_true this
    · have := g2 (.int w) (List.mem_map.mpr ⟨w, hw, rfl⟩)
      exact of_decide_eq_true this
    · show (zsOf (zsV ws)).getD [] = ws
      rw [show zsOf (zsV ws) = some ws from zsOf_ints ws]
      rfl
  | _ => cases g
theorem rowsI_len (rs : List (List Int)) : (rs.map rowI).length = rs.length := List.length_map ..
theorem flag_one {p : Prop} [Decidable p] : ((if p then (1 : Int) else 0) = 1) ↔ p := by
  by_cases h : p
  · simp [h]
  · simp [h]
theorem pure_adds_up (x y : AV) (h : AH) (R : AK) (c1 : clH h) (c2 : clBs h.length [x, y] = true) (q : sp_adds_up [x, y] h R (fun _ _ => False)) :
    b_adds_up (ends (retG h R)) [some x, some y, none] h := by
  obtain ⟨k, rs, rfl, o, hk, wv, q⟩ := q
  unfold b_adds_up rowsI
  get_elem_tactic_trivial
  rw [rowsI_len]
  refine ⟨rs.length, wv, rfl, ?_⟩
  get_elem_tactic_trivial
  unfold adds at q
  cases hg : goodW rs.length y with
  | false =>
    get_elem_tactic_trivial
    rw [hg, Bool.false_and] at q
    exact retG_of q
  | true =>
    obtain ⟨ws, rfl, hl, hw, hp, e⟩ := good_inv wv hg
    get_elem_tactic_trivial
    rw [hg, e, Bool.true_and] at q
    refine ⟨k, rs, rfl, o, hk, ws, rfl, hl, hw, hp, ?_⟩
    have sl := sums_len (n := k + 2) o.len hl
    obtain ⟨s0, s1, sr, hs⟩ : ∃ s0 s1 sr, sums (k + 2) rs ws = s0 :: s1 :: sr := by
      match hss : sums (k + 2) rs ws with
      | [] => rw [hss] at sl; simp at sl
      | [_] => rw [hss] at sl; simp at sl
      | a :: b :: c => exact ⟨a, b, c, rfl⟩
    rw [hs] at q ⊢
    get_elem_tactic_trivial
    have et : zsV ((if 0 < (s0 :: s1 :: sr).headD 0 then 1 else 0) :: List.drop 1 (s0 :: s1 :: sr)) = .int (if 0 < s0 then 1 else 0) :: .int s1 :: zsV sr := rfl
    have ec : cutA (zsV ((if 0 < (s0 :: s1 :: sr).headD 0 then 1 else 0) :: List.drop 1 (s0 :: s1 :: sr))) (some 2) none = zsV sr := cut_drop _ 2
    rw [ec, et]
    refine ⟨sr, rfl, ?_⟩
    get_elem_tactic_trivial
    have ea : addsS (s0 :: s1 :: sr) = ((sr.all fun z => decide (z = 0)) && (decide (s1 < 0) || (decide (s1 = 0) && decide (0 < s0)))) := rfl
    rw [ea] at q
    cases hz : sr.all fun z => decide (z = 0) with
    | false =>
      get_elem_tactic_trivial
      rw [hz, Bool.false_and] at q
      exact retG_of q
    | true =>
      get_elem_tactic_trivial
      rw [hz, Bool.true_and] at q
      by_cases h1 : s1 < 0
      · rw [if_pos h1]
        rw [decide_eq_true h1, Bool.true_or] at q
        exact retG_of q
      · rw [if_neg h1]
        rw [decide_eq_false h1, Bool.false_or] at q
        by_cases h2 : s1 = 0
        · rw [if_pos h2]
          rw [decide_eq_true h2, Bool.true_and] at q
          have : ((if 0 < s0 then (1 : Int) else 0) == 1) = decide (0 < s0) := by
            rw [Bool.eq_iff_iff, beq_iff_eq, flag_one, decide_eq_true_eq]
          rw [this]
          exact retG_of q
        · rw [if_neg h2]
          rw [decide_eq_false h2, Bool.false_and] at q
          exact retG_of q
/-- the told bound of a quotient -/
theorem floor_q {n d : Int} (hd : d ≠ 0) : (Rat.divInt n d).num / ((Rat.divInt n d).den : Int) = if 0 < d then n / d else (-n) / (-d) := by
  by_cases h : 0 < d
  · rw [if_pos h]
    exact (div_lowest h).1
  · rw [if_neg h]
    have e : Rat.divInt n d = Rat.divInt (-n) (-d) := by
      rw [Rat.divInt_eq_div, Rat.divInt_eq_div, Rat.intCast_neg, Rat.intCast_neg]
      grind
    rw [e]
    exact (div_lowest (by omega)).1
theorem neg_divInt (n d : Int) : -(Rat.divInt n d) = Rat.divInt (-n) d := by
  rw [Rat.divInt_eq_div, Rat.divInt_eq_div, Rat.intCast_neg]
  grind
theorem ceil_q {n d : Int} (hd : d ≠ 0) : -((-(Rat.divInt n d).num) / ((Rat.divInt n d).den : Int)) = if 0 < d then -((-n) / d) else -(n / (-d)) := by
  have h := floor_q (n := -n) hd
  rw [← neg_divInt] at h
  have e1 : (-(Rat.divInt n d)).num = -(Rat.divInt n d).num := Rat.neg_num _
  have e2 : (-(Rat.divInt n d)).den = (Rat.divInt n d).den := Rat.neg_den _
  rw [e1, e2] at h
  rw [h]
  split
  · rfl
  · rw [Int.neg_neg]
/-- floor and ceiling are one, or one apart -/
theorem floor_ceil {a d : Int} (hd : 0 < d) : a / d + 1 = -((-a) / d) + (if (-((-a) / d)) * d - a = 0 then 1 else 0) := by
  have m1 := Int.emod_def a d
  have m2 := Int.emod_def (-a) d
  have n1 := Int.emod_nonneg a (show d ≠ 0 by omega)
  have n2 := Int.emod_nonneg (-a) (show d ≠ 0 by omega)
  have l1 := Int.emod_lt_of_pos a hd
  have l2 := Int.emod_lt_of_pos (-a) hd
  have key : a / d = -((-a) / d) ∨ a / d + 1 = -((-a) / d) := by
    have e : d * (a / d + (-a) / d) = -(a % d) - ((-a) % d) := by
      rw [Int.mul_add]
      omega
    have b1 : -(2 * d) < d * (a / d + (-a) / d) := by omega
    have b2 : d * (a / d + (-a) / d) ≤ 0 := by omega
    have c1 : -2 < a / d + (-a) / d := by
      by_cases z : -2 < a / d + (-a) / d
      · exact z
      · have : d * (a / d + (-a) / d) ≤ d * (-2) := Int.mul_le_mul_of_nonneg_left (by omega) (by omega)
        omega
    have c2 : a / d + (-a) / d ≤ 0 := by
      by_cases z : a / d + (-a) / d ≤ 0
      · exact z
      · have : d * 1 ≤ d * (a / d + (-a) / d) := Int.mul_le_mul_of_nonneg_left (by omega) (by omega)
        omega
    omega
  rcases key with k1 | k1
  · rw [← k1]
    have : (a / d) * d - a = 0 := by
      have h1 : d * (a / d) = a - a % d := by omega
      have h2 : d * ((-a) / d) = -a - (-a) % d := by omega
      have h3 : d * (a / d) = -(d * ((-a) / d)) := by rw [k1]; grind
      rw [Int.mul_comm]
      omega
    rw [if_pos this]
  · rw [← k1, if_neg]
    · omega
    · intro z
      have h1 : d * (a / d) = a - a % d := by omega
      have h4 : (a / d + 1) * d = d * (a / d) + d := by grind
      omega
theorem exact_iff {a d : Int} (hd : 0 < d) : ((-((-a) / d)) * d - a = 0) ↔ ((a / d) * d - a = 0) := by
  have m1 := Int.emod_def a d
  have m2 := Int.emod_def (-a) d
  have n1 := Int.emod_nonneg a (show d ≠ 0 by omega)
  have n2 := Int.emod_nonneg (-a) (show d ≠ 0 by omega)
  have l1 := Int.emod_lt_of_pos a hd
  have l2 := Int.emod_lt_of_pos (-a) hd
  have e1 : (-((-a) / d)) * d - a = -(d * ((-a) / d)) - a := by grind
  have e2 : (a / d) * d - a = d * (a / d) - a := by grind
  rw [e1, e2]
  have fc := floor_ceil (a := a) hd
  rw [e1] at fc
  by_cases z : -(d * ((-a) / d)) - a = 0
  · rw [if_pos z] at fc
    have : a / d = -((-a) / d) := by omega
    have h3 : d * (a / d) = -(d * ((-a) / d)) := by rw [this]; grind
    exact ⟨fun _ => by omega, fun _ => z⟩
  · rw [if_neg z] at fc
    have : -((-a) / d) = a / d + 1 := by omega
    have h3 : -(d * ((-a) / d)) = d * (a / d) + d := by
      have : -(d * ((-a) / d)) = d * (-((-a) / d)) := by grind
      rw [this, ‹-((-a) / d) = a / d + 1›]
      grind
    constructor
    · intro y
      exact absurd y z
    · intro y
      omega
theorem sz_dv {n d : Int} {Z : Nat} (hd : d ≠ 0) (h1 : isz n ≤ Z) (h2 : isz d ≤ Z) : sz (Rat.divInt n d) ≤ Z := sz_small hd h1 h2
theorem pure_first_bound (x y z : AV) (h : AH) (R : AK) (c1 : clH h) (c2 : clBs h.length [x, y, z] = true) (q : sp_first_bound [x, y, z] h R (fun _ _ => False)) :
    b_first_bound (ends (retG h R)) [some x, some y, some z, none, none] h := by
  obtain ⟨k, rs, rfl, o, hk, wv, side, rfl, hside, q⟩ := q
  have h60 := o.le
  unfold b_first_bound rowsI
  get_elem_tactic_trivial
  rw [rowsI_len]
  refine ⟨rs.length, wv, rfl, ?_⟩
  get_elem_tactic_trivial
  unfold bound at q
  cases hg : goodW rs.length y with
  | false =>
    get_elem_tactic_trivial
    rw [hg, if_neg (by decide)] at q
    exact retG_of q
  | true =>
    obtain ⟨ws, rfl, hl, hw, hp, e⟩ := good_inv wv hg
    get_elem_tactic_trivial
    rw [hg, if_pos rfl, e] at q
    refine ⟨k, rs, rfl, o, hk, ws, rfl, hl, hw, hp, ?_⟩
    have sl := sums_len (n := k + 2) o.len hl
    have sb := sums_bnd (n := k + 2) o.bnd hw hl h60
    obtain ⟨s0, s1, sr, hs⟩ : ∃ s0 s1 sr, sums (k + 2) rs ws = s0 :: s1 :: sr := by
      match hss : sums (k + 2) rs ws with
      | [] => rw [hss] at sl; simp at sl
      | [_] => rw [hss] at sl; simp at sl
      | a :: b :: c => exact ⟨a, b, c, rfl⟩
    rw [hs] at q sb ⊢
    get_elem_tactic_trivial
    have et : zsV ((if 0 < (s0 :: s1 :: sr).headD 0 then 1 else 0) :: List.drop 1 (s0 :: s1 :: sr)) = .int (if 0 < s0 then 1 else 0) :: .int s1 :: zsV sr := rfl
    rw [et]
    get_elem_tactic_trivial
    rw [zsV_len]
    cases sr with
    | nil =>
      rw [if_pos (by simp)]
      unfold boundS at q
      rw [if_pos (.inl (by simp))] at q
      exact retG_of q
    | cons s2 st =>
      rw [if_neg (by simp; omega)]
      have et2 : zsV (s2 :: st) = .int s2 :: zsV st := rfl
      rw [show cutA (.int (if 0 < s0 then 1 else 0) :: .int s1 :: zsV (s2 :: st)) (some 3) none = zsV st from cut_drop ((if 0 < s0 then 1 else 0) :: s1 :: s2 :: st) 3]
      refine ⟨st, rfl, ?_⟩
      rw [et2]
      get_elem_tactic_trivial
      have b1 := sb s1 (by simp)
      have b2 := sb s2 (by simp)
      unfold boundS at q
      have hd3 : (s0 :: s1 :: s2 :: st).drop 3 = st := rfl
      have g0 : (s0 :: s1 :: s2 :: st).getD 0 0 = s0 := rfl
      have g1 : (s0 :: s1 :: s2 :: st).getD 1 0 = s1 := rfl
      have g2 : (s0 :: s1 :: s2 :: st).getD 2 0 = s2 := rfl
      rw [hd3, g0, g1, g2] at q
      cases hz : st.all fun z => decide (z = 0) with
      | false =>
        get_elem_tactic_trivial
        rw [hz, if_pos (.inr (.inl rfl))] at q
        exact retG_of q
      | true =>
        get_elem_tactic_trivial
        refine ⟨.inl (.inr (by rcases hside with rfl | rfl <;> exact ⟨by decide, by decide⟩)), ?_⟩
        by_cases hs2 : s2 * side ≤ 0
        · rw [if_pos hs2]
          rw [if_pos (.inr (.inr hs2))] at q
          exact retG_of q
        rw [if_neg hs2]
        rw [if_neg (by
          rintro (a | a | a)
          · simp at a
            omega
          · rw [hz] at a
            cases a
          · exact hs2 a)] at q
        have ne2 : s2 ≠ 0 := fun z => hs2 (by rw [z]; omega)
        have bn : isz (-s1) ≤ 556 := by rw [isz_neg]; exact b1
        refine ⟨-s1, s2, rfl, rfl, ne2, by omega, ?_⟩
        have sv := sz_dv ne2 bn b2
        get_elem_tactic_trivial
        rcases hside with rfl | rfl
        · rw [if_pos rfl]
          rw [if_pos rfl] at q
          have hpos : 0 < s2 := by omega
          have fq := floor_q (n := -s1) ne2
          have cq := ceil_q (n := -s1) ne2
          rw [if_pos hpos] at fq cq
          rw [Int.neg_neg] at cq
          have fc := floor_ceil (a := -s1) hpos
          rw [Int.neg_neg] at fc
          by_cases h0 : 0 < s0
          · rw [if_pos (flag_one.mpr h0)]
            refine ⟨_, rfl, by omega, ?_⟩
            get_elem_tactic_trivial
            rw [fq, fc]
            have : (if 0 < s0 ∧ -(s1 / s2) * s2 + s1 = 0 then (1 : Int) else 0) = if -(s1 / s2) * s2 - -s1 = 0 then 1 else 0 := by
              by_cases z : -(s1 / s2) * s2 + s1 = 0
              · rw [if_pos ⟨h0, z⟩, if_pos (by omega)]
              · rw [if_neg (fun y => z y.2), if_neg (by omega)]
            rw [this] at q
            exact retG_of q
          · rw [if_neg (fun z => h0 (flag_one.mp z))]
            refine ⟨_, rfl, by omega, ?_⟩
            rw [if_neg (fun y => h0 y.1), Int.add_zero] at q
            dsimp only
            rw [cq]
            exact retG_of q
        · rw [if_neg (by decide)]
          rw [if_neg (by decide)] at q
          have hneg : ¬ 0 < s2 := by omega
          have fq := floor_q (n := -s1) ne2
          have cq := ceil_q (n := -s1) ne2
          rw [if_neg hneg] at fq cq
          rw [Int.neg_neg] at fq
          have hd : 0 < -s2 := by omega
          have fc := floor_ceil (a := s1) hd
          have ei := exact_iff (a := s1) hd
          by_cases h0 : 0 < s0
          · rw [if_pos (flag_one.mpr h0)]
            refine ⟨_, rfl, by omega, ?_⟩
            get_elem_tactic_trivial
            rw [cq]
            have : (if 0 < s0 ∧ s1 / -s2 * s2 + s1 = 0 then (1 : Int) else 0) = if -(-s1 / -s2) * -s2 - s1 = 0 then 1 else 0 := by
              have e3 : s1 / -s2 * -s2 = -(s1 / -s2 * s2) := by grind
              by_cases z : s1 / -s2 * s2 + s1 = 0
              · rw [if_pos ⟨h0, z⟩, if_pos (ei.mpr (by omega))]
              · rw [if_neg (fun y => z y.2), if_neg (fun y => z (by have := ei.mp y; omega))]
            rw [this] at q
            have e4 : -(-s1 / -s2) - 1 = s1 / -s2 - (if -(-s1 / -s2) * -s2 - s1 = 0 then 1 else 0) := by omega
            rw [e4]
            exact retG_of q
          · rw [if_neg (fun z => h0 (flag_one.mp z))]
            refine ⟨_, rfl, by omega, ?_⟩
            rw [if_neg (fun y => h0 y.1), Int.sub_zero] at q
            dsimp only
            rw [fq]
            exact retG_of q
/-! ### what a proof shows -/
theorem pv_inst {k : Nat} {whole : Int} {rs : List (List Int)} {h : AH} {v : AV} (b : PV h v) : (∃ xs, v = .tup xs ∧ xs.length ≤ 70 ∧ (∀ x ∈ xs, WV h x) ∧ ∀ x, xs.head? = some x → plainN 30 x = true) ∨ ((∀ Q : AK, instR [v, .ty "tuple"] h Q = Q (.bl false) h) ∧ shut k whole rs v = false) := by
  cases v with
  | tup xs => exact .inl ⟨xs, rfl, b.1, b.2.1, b.2.2⟩
  | ref n =>
    obtain ⟨xs, e⟩ := b
    exact .inr ⟨fun Q => by simp only [instR, tyName, e]; rfl, rfl⟩
  | ty _ => exact b.elim
  | rol _ => exact b.elim
  | _ => exact .inr ⟨fun Q => rfl, rfl⟩
theorem plain_up : ∀ {n : Nat} (m : Nat) {x : AV}, plainN n x = true → plainN (n + m) x = true
  | 0, 0, _, h => h
  | 0, m + 1, x, h => by
    cases x with
    | tup _ => cases h
    | ref _ => cases h
    | ty _ => cases h
    | rol _ => cases h
    | str z => exact h
    | _ => rfl
  | n + 1, m, x, h => by
    cases x with
    | tup xs =>
      rw [show n + 1 + m = n + m + 1 by omega, e_plain_tup, List.all_eq_true]
      rw [e_plain_tup, List.all_eq_true] at h
      exact fun y hy => plain_up m (h y hy)
    | ref _ => cases h
    | ty _ => cases h
    | rol _ => cases h
    | str z =>
      rw [e_plain_str] at h ⊢
      exact h
    | _ => rw [show n + 1 + m = n + m + 1 by omega]; rfl
theorem aeq_strs {x : AV} {s : Str} : aeq x (.str s) = true ↔ x = .str s := by
  cases x with
  | str z =>
    rw [e_aeq_str]
    constructor
    · intro h
      rw [eq_of_beq h]
    · intro h
      cases h
      exact beq_self_eq_true _
  | _ => simp [aeq]
theorem dec_str {s t : Str} : decide (s = t) = aeq (.str s) (.str t) := by
  rw [e_aeq_str, Bool.eq_iff_iff, decide_eq_true_eq, beq_iff_eq]
theorem shut2 {k : Nat} {whole : Int} {rs : List (List Int)} {a b : AV} : shut k whole rs (.tup [a, b]) = (aeq a (.str "add") && adds k rs b) := by
  cases a with
  | str s =>
    rw [← dec_str]
    rfl
  | _ => simp [aeq, shut]
theorem shut3 {k : Nat} {whole : Int} {rs : List (List Int)} {a b c : AV} : shut k whole rs (.tup [a, b, c]) = (aeq a (.str "round") && (decide (whole = 1) && crossed (bound k rs b 1) (bound k rs c (-1)))) := by
  cases a with
  | str s =>
    rw [← dec_str]
    rfl
  | _ => simp [aeq, shut]
theorem shut_other {k : Nat} {whole : Int} {rs : List (List Int)} {xs : List AV} (h2 : xs.length ≠ 2) (h3 : xs.length ≠ 3) : shut k whole rs (.tup xs) = false := by
  match xs with
  | [] => rfl
  | [x] => cases x <;> rfl
  | [_, _] => exact absurd rfl h2
  | [_, _, _] => exact absurd rfl h3
  | .str _ :: _ :: _ :: _ :: _ => rfl
  | .non :: _ :: _ :: _ :: _ => rfl
  | .bl _ :: _ :: _ :: _ :: _ => rfl
  | .int _ :: _ :: _ :: _ :: _ => rfl
  | .tup _ :: _ :: _ :: _ :: _ => rfl
  | .ref _ :: _ :: _ :: _ :: _ => rfl
  | .ty _ :: _ :: _ :: _ :: _ => rfl
  | .rol _ :: _ :: _ :: _ :: _ => rfl
theorem plain_str2 (s : String) (h : (s : Str).cps.all (· < 0x110000) = true) : plainN 40 (.str s) = true := by
  rw [e_plain_str]
  exact h
/-- the last look: both bounds there, the low one above -/
theorem pure_cross {a b : Option Int} {R : AK} {h : AH} (q : R (.bl (crossed a b)) h) : isNon (optI a) = true ∧ R (.bl false) h ∨ ∃ i, a = some i ∧ ((isNon (optI b) = true ∧ R (.bl false) h) ∨ ∃ j, b = some j ∧ R (.bl (decide (j < i))) h) := by
  cases a with
  | none => exact .inl ⟨rfl, q⟩
  | some i =>
    cases b with
    | none => exact .inr ⟨i, rfl, .inl ⟨rfl, q⟩⟩
    | some j => exact .inr ⟨i, rfl, .inr ⟨j, rfl, q⟩⟩
theorem rows_ne2 {k Z : Nat} {rs : List (List Int)} (o : RowsOk k Z rs) : (rs.map rowI).isEmpty = false := by
  obtain ⟨r0, rest, rfl⟩ := o.cons
  rfl
theorem pure_shows_empty (x y z u : AV) (h : AH) (R : AK) (c1 : clH h) (c2 : clBs h.length [x, y, z, u] = true) (q : sp_shows_empty [x, y, z, u] h R (fun _ _ => False)) :
    b_shows_empty (ends (retG h R)) [some x, some y, some z, some u, none, none] h := by
  obtain ⟨k, rs, rfl, o, hk, rfl, pv, whole, rfl, hwh, q⟩ := q
  unfold b_shows_empty rowsI
  get_elem_tactic_trivial
  rcases pv_inst (k := k) (whole := whole) (rs := rs) pv with ⟨xs, rfl, hl, hx, hp⟩ | ⟨e1, e2⟩
  rotate_left
  · rw [e1]
    rw [e2] at q
    get_elem_tactic_trivial
    exact retG_of q
  get_elem_tactic_trivial
  rw [rows_ne2 o]
  get_elem_tactic_trivial
  by_cases h2 : xs.length = 2
  · rw [if_pos (by rw [h2]; rfl)]
    obtain ⟨a, b, rfl⟩ : ∃ a b, xs = [a, b] := by
      match xs, h2 with
      | [a, b], _ => exact ⟨a, b, rfl⟩
    get_elem_tactic_trivial
    refine ⟨plain_up 10 (hp a rfl), by decide +kernel, ?_⟩
    rw [shut2] at q
    cases ha : aeq a (.str "add") with
    | true =>
      rw [if_pos rfl]
      rw [ha, Bool.true_and] at q
      exact ⟨k, rs, rfl, o, hk, hx b (by simp), retG_of q⟩
    | false =>
      rw [if_neg (by decide), if_neg (by decide)]
      rw [ha, Bool.false_and] at q
      exact retG_of q
  · rw [if_neg (by omega)]
    by_cases h3 : xs.length = 3
    · rw [if_pos (by rw [h3]; rfl)]
      obtain ⟨a, b, c, rfl⟩ : ∃ a b c, xs = [a, b, c] := by
        match xs, h3 with
        | [a, b, c], _ => exact ⟨a, b, c, rfl⟩
      get_elem_tactic_trivial
      refine ⟨plain_up 10 (hp a rfl), by decide +kernel, ?_⟩
      rw [shut3] at q
      cases ha : aeq a (.str "round") with
      | false =>
        rw [if_neg (by decide)]
        rw [ha, Bool.false_and] at q
        exact retG_of q
      | true =>
        rw [if_pos rfl]
        rw [ha, Bool.true_and] at q
        rcases hwh with rfl | ⟨rfl, hk0⟩
        · rw [if_neg (by decide)]
          exact retG_of q
        · rw [if_pos rfl, if_pos (by omega)]
          rw [decide_eq_true rfl, Bool.true_and] at q
          refine ⟨k, rs, rfl, o, hk, hx b (by simp), 1, rfl, .inl rfl, ?_⟩
          get_elem_tactic_trivial
          refine ⟨k, rs, rfl, o, hk, hx c (by simp), -1, rfl, .inr rfl, ?_⟩
          get_elem_tactic_trivial
          rcases pure_cross q with ⟨n1, r⟩ | ⟨i, e1, ⟨n2, r⟩ | ⟨j, e2, r⟩⟩
          · rw [n1, if_neg (by decide)]
            exact retG_of r
          · rw [e1, n2]
            exact retG_of r
          · rw [e1, e2]
            exact retG_of r
    · rw [if_neg (by omega)]
      rw [shut_other h2 h3] at q
      exact retG_of q
/-! ### the law's own look -/
theorem sum_loop {k Z Zw : Nat} {rs : List (List Int)} {ws : List Int} (o : ∀ r ∈ rs, RowOk k Z r) (hl : ws.length = rs.length) (hw : Bnd Zw ws) (hz : Z + Zw ≤ 90000) {i : Nat} {r : List Int} {w : Int} (hr : rs[i]? = some r) (hwv : ws[i]? = some w) {g : ATG} {el : ATE} {vs : List Nat} {a : ASt} {h : AH} {R : AK} {ta : ATA} {t : Nat} (hk : k ≤ 20)
    (et : h[t]? = some (.lst (zsV (sumsT (k + 2) rs ws i)))) (he : ∀ L : List AV → AH → Prop, ta a h L = L [.ref t, rowI r] h)
    (hs : ∀ u v acc (Q : AK), mulOk w v → Q (.int (u + w * v)) (h ++ [.lst acc]) → g (.tup [.int u, .int v]) (wipeA a vs) (h ++ [.lst acc]) fun a2 h3 => el a2 h3 Q)
    (q : R (.ref h.length) (h ++ [.lst (zsV (sumsT (k + 2) rs ws (i + 1)))])) : lcT (iZipMT ta) g yesT el vs a h R := by
  have hi : i < rs.length := (List.getElem?_eq_some_iff.mp hr).1
  have sl := sumsT_len (n := k + 2) (fun r hr => (o r hr).len) hl i (by omega)
  have ro := o r (get_mem hr)
  rw [sumsT_succ hr hwv] at q
  rw [x_lcT, x_zipM' he (seq_ref et) rfl]
  exact lcB_zipI (f := fun a b => a + w * b) (by rw [sl, ro.len]) (by rw [sl]; omega) (fun acc => ⟨seq_ref (get_old et), rfl⟩) (fun u v acc Q hu hv hQ => hs u v acc Q (mulOk_bits (hw w (get_mem hwv)) (ro.bnd v hv) (by omega)) hQ) q
theorem ret_lst {h h' : AH} {R : AK} {t : Nat} {xs : List AV} (c1 : clH h) (ex : Ext h h') (ht : h.length ≤ t) (et : h'[t]? = some (.lst xs)) (cx : clBs h.length xs = true) (q : R (.ref h.length) (h ++ [.lst xs])) : retG h R (.ref t) h' := by
  obtain ⟨r, rfl⟩ := ex
  obtain ⟨j1, j2, rfl, hj⟩ : ∃ j1 j2, r = j1 ++ AO.lst xs :: j2 ∧ t = h.length + j1.length := by
    rw [List.getElem?_append_right ht] at et
    have hlt := (List.getElem?_eq_some_iff.mp et).1
    refine ⟨r.take (t - h.length), r.drop (t - h.length + 1), ?_, by rw [List.length_take]; omega⟩
    conv => lhs; rw [← List.take_append_drop (t - h.length) r]
    congr 1
    rw [List.drop_eq_getElem_cons hlt]
    congr 1
    rw [List.getElem?_eq_getElem hlt] at et
    exact Option.some.inj et
  exact ret_list c1 hj cx q
theorem pure_law_adds (x y : AV) (h : AH) (R : AK) (c1 : clH h) (c2 : clBs h.length [x, y] = true) (q : sp_law_adds [x, y] h R (fun _ _ => False)) :
    b_law_adds (ends (retG h R)) [some x, some y, none, none, none, none, none] h := by
  obtain ⟨k, rs, rfl, o, hk, ws, rfl, hl, hw, q⟩ := q
  have h60 := o.le
  obtain ⟨r0, rest, hrs⟩ := o.cons
  have e0 : atA (rs.map rowI) 0 = some (rowI r0) := by rw [hrs]; rfl
  have lr0 := o.len r0 (by rw [hrs]; simp)
  unfold b_law_adds rowsI
  get_elem_tactic_trivial
  rw [e_ix_tup e0]
  unfold rowI
  get_elem_tactic_trivial
  rw [zsV_len, lr0]
  refine e_repL get_l0 (by omega) (by omega) ?_
  rw [Int.toNat_natCast]
  have em : rs.map (fun r => AV.tup (zsV r)) = rs.map rowI := rfl
  rw [em]
  get_elem_tactic_trivial
  have s0 : List.replicate (k + 2) (AV.int 0) = zsV (sumsT (k + 2) rs ws 0) := by rw [sumsT_zero, zsV, List.map_replicate]
  rw [s0, x_for, x_zipM' (x := .tup (rs.map rowI)) (y := .tup (zsV ws)) (fun _ => rfl) rfl rfl]
  have lz : (zip2 (rs.map rowI) (zsV ws)).length = rs.length := by rw [zp2_len _ _ (by rw [zsV_len, List.length_map, hl]), List.length_map]
  refine ⟨fun i σ h' => ∃ (t : Nat) (a b : Option AV), Ext h h' ∧ h.length ≤ t ∧ h'[t]? = some (.lst (zsV (sumsT (k + 2) rs ws i))) ∧ σ = [some (.tup (rs.map rowI)), some (.tup (zsV ws)), some (.ref t), a, b, none, none],
    ⟨h.length + 1, none, none, Ext.refl.app _, by omega, get_l1, rfl⟩, fun i z σ h' hz ⟨t, a, b, ex, ht, et, es⟩ => ⟨⟨rfl, rfl⟩, ?_⟩, fun σ h' ⟨t, a, b, ex, ht, et, es⟩ => ⟨⟨rfl, rfl⟩, ?_⟩⟩
  · subst es
    obtain ⟨rv, wv, hr', hw', rfl⟩ := zp_get _ _ hz
    obtain ⟨r, hr, rfl⟩ := map_get hr'
    obtain ⟨w, hwv, rfl⟩ := map_get hw'
    unfold b_law_adds_l1
    get_elem_tactic_trivial
    refine sum_loop o.row hl hw (by omega) hr hwv hk et (fun L => rfl) (fun u v acc Q hm hQ => ?_) ?_
    · get_elem_tactic_trivial
      exact ⟨hm, hQ⟩
    · exact ⟨h'.length, _, _, ex.app _, ex.le, get_l0, rfl⟩
  · subst es
    rw [lz, sumsT_all hl] at et
    get_elem_tactic_trivial
    exact ret_lst c1 ex ht et (clBs_ints _) q
theorem nonneg_isI {z : AV} (h : isI z = false) : nonneg z = false := by
  cases z with
  | int _ => cases h
  | _ => rfl
theorem pure_law_good_weights (x y : AV) (h : AH) (R : AK) (c1 : clH h) (c2 : clBs h.length [x, y] = true) (q : sp_law_good_weights [x, y] h R (fun _ _ => False)) :
    b_law_good_weights (ends (retG h R)) [some x, some y, none] h := by
  obtain ⟨k, rs, rfl, o, hk, wv, q⟩ := q
  unfold b_law_good_weights rowsI
  get_elem_tactic_trivial
  rcases wv_inst wv with ⟨xs, rfl, hl, hx⟩ | ⟨e1, e2⟩
  rotate_left
  · rw [e1]
    rw [e2] at q
    get_elem_tactic_trivial
    exact retG_of q
  get_elem_tactic_trivial
  rw [rowsI_len]
  have eg : goodW rs.length (.tup xs) = (decide (xs.length = rs.length) && xs.all nonneg) := rfl
  by_cases hm : xs.length = rs.length
  rotate_left
  · rw [if_pos (by rw [beq_eq_false_iff_ne]; exact fun z => hm (Int.ofNat.inj z))]
    rw [eg, decide_eq_false hm, Bool.false_and] at q
    exact retG_of q
  rw [if_neg (by rw [hm, beq_self_eq_true]; decide)]
  rw [eg, decide_eq_true hm, Bool.true_and] at q
  have hpos : 0 < rs.length := by
    obtain ⟨r0, rest, rfl⟩ := o.cons
    simp
  rw [if_neg (by omega)]
  refine lcT_map (h1 := h) (items := xs) (ys := (xs.map nonneg).map AV.bl) (guard := fun _ => True) (fun K kk => by rw [x_iseq_tup (xs := xs) (fun _ => rfl)]; exact kk) (by simp) (by omega) (fun _ => trivial) (fun i x y acc Q hx' hy hQ => ?_) ?_
  · obtain ⟨b, hb, rfl⟩ := map_get hy
    obtain ⟨x', hx2, rfl⟩ := map_get hb
    rw [hx'] at hx2
    cases hx2
    get_elem_tactic_trivial
    refine ⟨leafB_seen (hx x (get_mem hx')), ?_⟩
    cases hiz : isI x with
    | false =>
      get_elem_tactic_trivial
      rw [nonneg_isI hiz] at hQ
      exact hQ
    | true =>
      obtain ⟨v, rfl⟩ : ∃ v, x = .int v := by
        cases x with
        | int v => exact ⟨v, rfl⟩
        | _ => cases hiz
      get_elem_tactic_trivial
      exact hQ
  · rw [e_all get_l0]
    have : (xs.map nonneg).all id = xs.all nonneg := by rw [List.all_map]; rfl
    rw [this]
    exact ret_ext c1 (Ext.refl.app _) rfl q
theorem any_map_not {p : Int → Bool} : ∀ st : List Int, (st.map fun z => !p z).any id = !st.all p
  | [] => rfl
  | z :: r => by
    rw [List.map_cons, List.any_cons, List.all_cons, any_map_not r]
    cases p z <;> rfl
theorem pure_law_whole_bound (x y z : AV) (h : AH) (R : AK) (c1 : clH h) (c2 : clBs h.length [x, y, z] = true) (q : sp_law_whole_bound [x, y, z] h R (fun _ _ => False)) :
    b_law_whole_bound (ends (retG h R)) [some x, some y, some z, none, none, none] h := by
  obtain ⟨k, rs, rfl, o, hk, wv, side, rfl, hside, q⟩ := q
  have h60 := o.le
  unfold b_law_whole_bound
  get_elem_tactic_trivial
  refine ⟨k, rs, rfl, o, hk, wv, ?_⟩
  get_elem_tactic_trivial
  unfold bound at q
  cases hg : goodW rs.length y with
  | false =>
    get_elem_tactic_trivial
    rw [hg, if_neg (by decide)] at q
    exact retG_of q
  | true =>
    obtain ⟨ws, rfl, hl, hw, hp, e⟩ := good_inv wv hg
    get_elem_tactic_trivial
    rw [hg, if_pos rfl, e] at q
    refine ⟨k, rs, rfl, o, hk, ws, rfl, hl, hw, ?_⟩
    have sl := sums_len (n := k + 2) o.len hl
    have sb := sums_bnd (n := k + 2) o.bnd hw hl h60
    obtain ⟨s0, s1, sr, hs⟩ : ∃ s0 s1 sr, sums (k + 2) rs ws = s0 :: s1 :: sr := by
      match hss : sums (k + 2) rs ws with
      | [] => rw [hss] at sl; simp at sl
      | [_] => rw [hss] at sl; simp at sl
      | a :: b :: c => exact ⟨a, b, c, rfl⟩
    rw [hs] at q sb sl ⊢
    get_elem_tactic_trivial
    rw [e_len_lst get_l0]
    get_elem_tactic_trivial
    rw [zsV_len, sl]
    have fin : ∀ (v : Option Int) r, R (optI v) h → retG h R (optI v) (h ++ r) := fun v r z => ret_cut c1 (by cases v <;> rfl) z
    cases sr with
    | nil =>
      rw [if_pos (by simp at sl; omega)]
      unfold boundS at q
      rw [if_pos (.inl (by simp))] at q
      exact fin none _ q
    | cons s2 st =>
      have sl2 : st.length + 3 = k + 2 := by simpa using sl
      rw [if_neg (by omega)]
      unfold boundS at q
      have hd3 : (s0 :: s1 :: s2 :: st).drop 3 = st := rfl
      have g0 : (s0 :: s1 :: s2 :: st).getD 0 0 = s0 := rfl
      have g1 : (s0 :: s1 :: s2 :: st).getD 1 0 = s1 := rfl
      have g2 : (s0 :: s1 :: s2 :: st).getD 2 0 = s2 := rfl
      rw [hd3, g0, g1, g2] at q
      have b1 := sb s1 (by simp)
      have b2 := sb s2 (by simp)
      have a0 : atA (zsV (s0 :: s1 :: s2 :: st)) 0 = some (.int s0) := rfl
      have a1 : atA (zsV (s0 :: s1 :: s2 :: st)) 1 = some (.int s1) := rfl
      have a2 : atA (zsV (s0 :: s1 :: s2 :: st)) 2 = some (.int s2) := rfl
      rw [x_lcT]
      unfold iSeqT
      get_elem_tactic_trivial
      rw [e_sl_lst get_l0]
      get_elem_tactic_trivial
      rw [show cutA (zsV (s0 :: s1 :: s2 :: st)) (some 3) none = zsV st from cut_drop _ 3]
      unfold lcB
      refine lcT_map (h1 := h ++ [.lst (zsV (s0 :: s1 :: s2 :: st)), .lst (zsV st)]) (items := zsV st) (ys := (st.map fun z => !decide (z = 0)).map AV.bl) (guard := fun h1 => h1[h.length + 1]? = some (.lst (zsV st))) (fun K kk => kk) (by rw [zsV_len]; simp) (by rw [zsV_len]; omega) (fun _ => get_old get_l1) (fun i x y acc Q hx' hy hQ => ?_) ?_
      · obtain ⟨v, hv, rfl⟩ := map_get hx'
        obtain ⟨b, hb, rfl⟩ := map_get hy
        obtain ⟨v', hv2, rfl⟩ := map_get hb
        rw [hv] at hv2
        cases hv2
        get_elem_tactic_trivial
        have : (v == 0) = decide (v = 0) := by rw [Bool.eq_iff_iff, beq_iff_eq, decide_eq_true_eq]
        rw [this]
        rw [app_l] at hQ
        exact hQ
      rw [app_l, show (h ++ [AO.lst (zsV (s0 :: s1 :: s2 :: st)), .lst (zsV st)]).length = h.length + 2 by simp]
      have ga : (h ++ ([AO.lst (zsV (s0 :: s1 :: s2 :: st)), .lst (zsV st)] ++ [.lst ((st.map fun z => !decide (z = 0)).map AV.bl)]))[h.length]? = some (.lst (zsV (s0 :: s1 :: s2 :: st))) := get_l0
      have gb : (h ++ ([AO.lst (zsV (s0 :: s1 :: s2 :: st)), .lst (zsV st)] ++ [.lst ((st.map fun z => !decide (z = 0)).map AV.bl)]))[h.length + 2]? = some (.lst ((st.map fun z => !decide (z = 0)).map AV.bl)) := get_l2
      rw [e_any gb]
      have hany := any_map_not (p := fun z : Int => decide (z = 0)) st
      rw [hany]
      have exH : Ext h (h ++ ([AO.lst (zsV (s0 :: s1 :: s2 :: st)), .lst (zsV st)] ++ [.lst ((st.map fun z => !decide (z = 0)).map AV.bl)])) := ⟨_, rfl⟩
      generalize h ++ ([AO.lst (zsV (s0 :: s1 :: s2 :: st)), .lst (zsV st)] ++ [.lst ((st.map fun z => !decide (z = 0)).map AV.bl)]) = H at ga gb exH
      have fin : ∀ (v : Option Int), R (optI v) h → retG h R (optI v) H := fun v z => ret_ext c1 exH (by cases v <;> rfl) z
      cases hz : st.all fun z => decide (z = 0) with
      | false =>
        get_elem_tactic_trivial
        rw [hz, if_pos (.inr (.inl rfl))] at q
        exact fin none q
      | true =>
        get_elem_tactic_trivial
        rw [e_ix_lst ga a2]
        get_elem_tactic_trivial
        refine ⟨.inl (.inr (by rcases hside with rfl | rfl <;> exact ⟨by decide, by decide⟩)), ?_⟩
        by_cases hs2 : s2 * side ≤ 0
        · rw [if_pos hs2]
          rw [if_pos (.inr (.inr hs2))] at q
          exact fin none q
        rw [if_neg hs2]
        rw [if_neg (by
          rintro (a | a | a)
          · simp at a
            omega
          · rw [hz] at a
            cases a
          · exact hs2 a)] at q
        rcases hside with rfl | rfl
        · rw [if_pos rfl]
          rw [if_pos rfl] at q
          have hpos : 0 < s2 := by omega
          have v1 := isz_div s1 s2.toNat
          rw [show ((s2.toNat : Nat) : Int) = s2 by omega] at v1
          rw [e_ix_lst ga a1, e_ix_lst ga a2]
          get_elem_tactic_trivial
          refine ⟨divOk_of hpos (by omega), ?_⟩
          rw [e_ix_lst ga a0]
          get_elem_tactic_trivial
          by_cases h0 : 0 < s0
          · rw [if_pos h0, e_ix_lst ga a2]
            get_elem_tactic_trivial
            refine ⟨mulOk_bits (a := 600) (b := 600) (by rw [isz_neg]; omega) (by omega) (by omega), ?_⟩
            rw [e_ix_lst ga a1]
            get_elem_tactic_trivial
            have : (if -(s1 / s2) * s2 + s1 = 0 then (1 : Int) else 0) = if 0 < s0 ∧ -(s1 / s2) * s2 + s1 = 0 then 1 else 0 := by
              by_cases z : -(s1 / s2) * s2 + s1 = 0
              · rw [if_pos z, if_pos ⟨h0, z⟩]
              · rw [if_neg z, if_neg (fun y => z y.2)]
            rw [this]
            exact fin (some _) q
          · rw [if_neg h0]
            rw [if_neg (fun y => h0 y.1)] at q
            exact fin (some _) q
        · rw [if_neg (by decide)]
          rw [if_neg (by decide)] at q
          have hpos : 0 < -s2 := by omega
          have v1 := isz_div s1 (-s2).toNat
          rw [show (((-s2).toNat : Nat) : Int) = -s2 by omega] at v1
          rw [e_ix_lst ga a1, e_ix_lst ga a2]
          get_elem_tactic_trivial
          refine ⟨divOk_of hpos (by rw [isz_neg]; omega), ?_⟩
          rw [e_ix_lst ga a0]
          get_elem_tactic_trivial
          by_cases h0 : 0 < s0
          · rw [if_pos h0, e_ix_lst ga a2]
            get_elem_tactic_trivial
            refine ⟨mulOk_bits (a := 600) (b := 600) (by omega) (by omega) (by omega), ?_⟩
            rw [e_ix_lst ga a1]
            get_elem_tactic_trivial
            have : (if s1 / -s2 * s2 + s1 = 0 then (1 : Int) else 0) = if 0 < s0 ∧ s1 / -s2 * s2 + s1 = 0 then 1 else 0 := by
              by_cases z : s1 / -s2 * s2 + s1 = 0
              · rw [if_pos z, if_pos ⟨h0, z⟩]
              · rw [if_neg z, if_neg (fun y => z y.2)]
            rw [this]
            exact fin (some _) q
          · rw [if_neg h0]
            rw [if_neg (fun y => h0 y.1)] at q
            exact fin (some _) q
theorem bool_all_map {p : Int → Bool} : ∀ st : List Int, (st.map p).all id = st.all p := fun st => by
  rw [List.all_map]
  rfl
theorem head_wv {h : AH} {xs : List AV} (hp : ∀ x, xs.head? = some x → plainN 30 x = true) (hne : 2 ≤ xs.length) : ∃ a r, xs = a :: r ∧ plainN 40 a = true := by
  cases xs with
  | nil => simp at hne
  | cons a r => exact ⟨a, r, rfl, plain_up 10 (hp a rfl)⟩
theorem pure_law_shut (x y z : AV) (h : AH) (R : AK) (c1 : clH h) (c2 : clBs h.length [x, y, z] = true) (q : sp_law_shut [x, y, z] h R (fun _ _ => False)) :
    b_law_shut (ends (retG h R)) [some x, some y, some z, none, none, none, none] h := by
  obtain ⟨k, rs, rfl, o, hk, pv, whole, rfl, hwh, q⟩ := q
  have h60 := o.le
  unfold b_law_shut rowsI
  get_elem_tactic_trivial
  rcases pv_inst (k := k) (whole := whole) (rs := rs) pv with ⟨xs, rfl, hl, hx, hp⟩ | ⟨e1, e2⟩
  rotate_left
  · rw [e1]
    rw [e2] at q
    get_elem_tactic_trivial
    exact retG_of q
  get_elem_tactic_trivial
  by_cases h2 : xs.length < 2
  · rw [if_pos (by omega)]
    rw [shut_other (by omega) (by omega)] at q
    exact retG_of q
  rw [if_neg (by omega), rowsI_len]
  have hpos : 0 < rs.length := by
    obtain ⟨r0, rest, rfl⟩ := o.cons
    simp
  rw [if_neg (by omega)]
  obtain ⟨a, r, rfl, pa⟩ := head_wv (h := h) hp (by omega)
  get_elem_tactic_trivial
  have tail : ∀ tt : ATS, tt = (seqT (ifS (orT (cmpT (opT neR (opT ixR (varT 1) (cT (.int 0))) (cT (.str "round")))) (orT (cmpT (opT neR (cbT lenR (consT (varT 1) nilT)) (cT (.int 3)))) (cmpT (opT eqR (varT 2) (cT (.int 0))))))
    (retT (cT (.bl false)))
    nextT)
    (seqT (asgT (callT sp_law_whole_bound (fun _ _ => False) (consT (varT 0) (consT (opT ixR (varT 1) (cT (.int 1))) (consT (cT (.int 1)) nilT)))) (gNameT 4))
    (seqT (asgT (callT sp_law_whole_bound (fun _ _ => False) (consT (varT 0) (consT (opT ixR (varT 1) (cT (.int 2))) (consT (unT negR (cT (.int 1))) nilT)))) (gNameT 5))
    (retT (andV (opT notNR (varT 4) (cT .non)) (andV (opT notNR (varT 5) (cT .non)) (opT gtR (varT 4) (varT 5)))))))) →
    (r.length ≠ 2 ∨ aeq a (.str "round") = false → R (.bl false) h) → (∀ b c, r = [b, c] → aeq a (.str "round") = true → R (.bl (decide (whole = 1) && crossed (bound k rs b 1) (bound k rs c (-1)))) h) →
    tt (ends (retG h R)) [some (.tup (rs.map rowI)), some (.tup (a :: r)), some (.int whole), none, none, none, none] h := fun tt ett q1 q2 => by
    subst ett
    get_elem_tactic_trivial
    refine ⟨pa, by decide +kernel, ?_⟩
    cases ha : aeq a (.str "round") with
    | false =>
      rw [if_pos rfl]
      exact retG_of (q1 (.inr ha))
    | true =>
      rw [if_neg (by decide)]
      by_cases h3 : r.length = 2
      rotate_left
      · rw [if_pos (by rw [beq_eq_false_iff_ne]; omega)]
        exact retG_of (q1 (.inl h3))
      rw [if_neg (by rw [h3]; decide)]
      obtain ⟨b, c, rfl⟩ : ∃ b c, r = [b, c] := by
        match r, h3 with
        | [b, c], _ => exact ⟨b, c, rfl⟩
      have q := q2 b c rfl ha
      rcases hwh with rfl | ⟨rfl, hk0⟩
      · rw [if_pos rfl]
        exact retG_of q
      · rw [if_neg (by decide)]
        rw [decide_eq_true rfl, Bool.true_and] at q
        get_elem_tactic_trivial
        refine ⟨k, rs, rfl, o, hk, hx b (by simp), 1, rfl, .inl rfl, ?_⟩
        get_elem_tactic_trivial
        refine ⟨k, rs, rfl, o, hk, hx c (by simp), -1, rfl, .inr rfl, ?_⟩
        get_elem_tactic_trivial
        rcases pure_cross q with ⟨n1, r⟩ | ⟨i, e1, ⟨n2, r⟩ | ⟨j, e2, r⟩⟩
        · rw [n1, if_neg (by decide)]
          exact retG_of r
        · rw [e1, n2]
          exact retG_of r
        · rw [e1, e2]
          exact retG_of r
  -- the word is not "add", or there are more than one behind it
  have qt : (aeq a (.str "add") = false ∨ r.length ≠ 1 ∨ ∃ b, r = [b] ∧ goodW rs.length b = false) → (r.length ≠ 2 ∨ aeq a (.str "round") = false → R (.bl false) h) ∧ (∀ b c, r = [b, c] → aeq a (.str "round") = true → R (.bl (decide (whole = 1) && crossed (bound k rs b 1) (bound k rs c (-1)))) h) := fun hc => by
    constructor
    · intro hr
      by_cases l2 : r.length = 2
      · obtain ⟨b, c, rfl⟩ : ∃ b c, r = [b, c] := by
          match r, l2 with
          | [b, c], _ => exact ⟨b, c, rfl⟩
        have ha := hr.resolve_left (fun z => z l2)
        rw [shut3, ha, Bool.false_and] at q
        exact q
      · by_cases l1 : r.length = 1
        · obtain ⟨b, rfl⟩ : ∃ b, r = [b] := by
            match r, l1 with
            | [b], _ => exact ⟨b, rfl⟩
          rw [shut2] at q
          rcases hc with hc | hc | ⟨b', hb, hg⟩
          · rw [hc, Bool.false_and] at q
            exact q
          · exact absurd l1 hc
          · cases hb
            unfold adds at q
            rw [hg, Bool.false_and, Bool.and_false] at q
            exact q
        · rw [shut_other (by rw [List.length_cons]; omega) (by rw [List.length_cons]; omega)] at q
          exact q
    · rintro b c rfl ha
      rw [shut3, ha, Bool.true_and] at q
      exact q
  have fin := fun hc => tail _ rfl (qt hc).1 (qt hc).2
  refine ⟨pa, by decide +kernel, ?_⟩
  cases ha : aeq a (.str "add") with
  | false =>
    rw [if_neg (by decide)]
    have T := fin (.inl ha)
    revert T
    get_elem_tactic_trivial
    exact id
  | true =>
    rw [if_pos rfl]
    by_cases l1 : r.length = 1
    rotate_left
    · rw [if_neg (by omega)]
      have T := fin (.inr (.inl l1))
      revert T
      get_elem_tactic_trivial
      exact id
    rw [if_pos (by omega)]
    obtain ⟨b, rfl⟩ : ∃ b, r = [b] := by
      match r, l1 with
      | [b], _ => exact ⟨b, rfl⟩
    get_elem_tactic_trivial
    have wv := hx b (by simp)
    refine ⟨k, rs, rfl, o, hk, wv, ?_⟩
    cases hg : goodW rs.length b with
    | false =>
      have T := fin (.inr (.inr ⟨b, rfl, hg⟩))
      revert T
      get_elem_tactic_trivial
      exact id
    | true =>
      get_elem_tactic_trivial
      obtain ⟨ws, rfl, hl, hw, hp, e⟩ := good_inv wv hg
      rw [shut2, ha, Bool.true_and] at q
      unfold adds at q
      rw [hg, e, Bool.true_and] at q
      refine ⟨k, rs, rfl, o, hk, ws, rfl, hl, hw, ?_⟩
      have sl := sums_len (n := k + 2) o.len hl
      obtain ⟨s0, s1, sr, hs⟩ : ∃ s0 s1 sr, sums (k + 2) rs ws = s0 :: s1 :: sr := by
        match hss : sums (k + 2) rs ws with
        | [] => rw [hss] at sl; simp at sl
        | [_] => rw [hss] at sl; simp at sl
        | a :: b :: c => exact ⟨a, b, c, rfl⟩
      rw [hs] at q sl ⊢
      have sl2 : sr.length + 2 = k + 2 := by simpa using sl
      have ea : addsS (s0 :: s1 :: sr) = ((sr.all fun z => decide (z = 0)) && (decide (s1 < 0) || (decide (s1 = 0) && decide (0 < s0)))) := rfl
      rw [ea] at q
      have a0 : atA (zsV (s0 :: s1 :: sr)) 0 = some (.int s0) := rfl
      have a1 : atA (zsV (s0 :: s1 :: sr)) 1 = some (.int s1) := rfl
      dsimp only
      rw [x_lcT]
      unfold iSeqT
      get_elem_tactic_trivial
      rw [e_sl_lst get_l0]
      get_elem_tactic_trivial
      rw [show cutA (zsV (s0 :: s1 :: sr)) (some 2) none = zsV sr from cut_drop _ 2]
      unfold lcB
      refine lcT_map (h1 := h ++ [.lst (zsV (s0 :: s1 :: sr)), .lst (zsV sr)]) (items := zsV sr) (ys := (sr.map fun z => decide (z = 0)).map AV.bl) (guard := fun h1 => h1[h.length + 1]? = some (.lst (zsV sr))) (fun K kk => kk) (by rw [zsV_len]; simp) (by rw [zsV_len]; omega) (fun _ => get_old get_l1) (fun i x y acc Q hx' hy hQ => ?_) ?_
      · obtain ⟨v, hv, rfl⟩ := map_get hx'
        obtain ⟨b, hb, rfl⟩ := map_get hy
        obtain ⟨v', hv2, rfl⟩ := map_get hb
        rw [hv] at hv2
        cases hv2
        get_elem_tactic_trivial
        have : (v == 0) = decide (v = 0) := by rw [Bool.eq_iff_iff, beq_iff_eq, decide_eq_true_eq]
        rw [this]
        rw [app_l] at hQ
        exact hQ
      rw [app_l, show (h ++ [AO.lst (zsV (s0 :: s1 :: sr)), .lst (zsV sr)]).length = h.length + 2 by simp]
      have ga : (h ++ ([AO.lst (zsV (s0 :: s1 :: sr)), .lst (zsV sr)] ++ [.lst ((sr.map fun z => decide (z = 0)).map AV.bl)]))[h.length]? = some (.lst (zsV (s0 :: s1 :: sr))) := get_l0
      have gb : (h ++ ([AO.lst (zsV (s0 :: s1 :: sr)), .lst (zsV sr)] ++ [.lst ((sr.map fun z => decide (z = 0)).map AV.bl)]))[h.length + 2]? = some (.lst ((sr.map fun z => decide (z = 0)).map AV.bl)) := get_l2
      rw [e_all gb, bool_all_map]
      have exH : Ext h (h ++ ([AO.lst (zsV (s0 :: s1 :: sr)), .lst (zsV sr)] ++ [.lst ((sr.map fun z => decide (z = 0)).map AV.bl)])) := ⟨_, rfl⟩
      generalize h ++ ([AO.lst (zsV (s0 :: s1 :: sr)), .lst (zsV sr)] ++ [.lst ((sr.map fun z => decide (z = 0)).map AV.bl)]) = H at ga gb exH
      have fin : ∀ b, R (.bl b) h → retG h R (.bl b) H := fun b z => ret_ext c1 exH rfl z
      get_elem_tactic_trivial
      cases hz : sr.all fun z => decide (z = 0) with
      | false =>
        get_elem_tactic_trivial
        rw [hz, Bool.false_and] at q
        exact fin _ q
      | true =>
        get_elem_tactic_trivial
        rw [hz, Bool.true_and] at q
        rw [e_ix_lst ga a1]
        get_elem_tactic_trivial
        by_cases h1 : s1 < 0
        · rw [if_pos h1]
          rw [decide_eq_true h1, Bool.true_or] at q
          exact fin _ q
        · rw [if_neg h1, e_ix_lst ga a1]
          rw [decide_eq_false h1, Bool.false_or] at q
          get_elem_tactic_trivial
          by_cases h2 : s1 = 0
          · rw [if_pos h2, e_ix_lst ga a0]
            rw [decide_eq_true h2, Bool.true_and] at q
            exact fin _ q
          · rw [if_neg h2]
            rw [decide_eq_false h2, Bool.false_and] at q
            exact fin _ q
end AL

/-! P19b: proofs judged: cases drawn, pure proofs. -/
namespace AL
open PySem
local macro_rules | `(tactic| get_elem_tactic_trivial) => `(tactic| simp -implicitDefEqProofs only [e_tru_non, e_tru_bl, e_tru_int, e_tru_tup, e_tru_rol, e_bl_bl, e_add_int, e_add_ib, e_add_str, e_add_tup, e_sub_int, e_mul_int, e_fdiv_int, e_mod_int, e_pow_int, e_shl_int, e_neg_int, e_iadd_int, e_iadd_str, e_isub_int, e_aeq_int, e_aeq_str, e_aeq_bl, e_aeq_non, e_aeq_tup, e_aeqs_nil, e_aeqs_cons, e_aeqs_nc, e_aeqs_cn, e_plain_int, e_plain_bl, e_plain_non, e_plain_str, e_plain_tup, e_eq, e_ne, e_lt_int, e_lt_str, e_le_int, e_gt_int, e_ge_int, e_isN, e_notN, e_isNon_int, e_isNon_str, e_isNon_tup, e_isNon_non, e_isNon_ref, e_isNon_bl, e_ix0, e_ix1, e_ix2, e_ix3, e_ix4, e_len_tup, e_len_rol, e_len_str, e_abs, e_int_int, e_int_bl, e_str_int, e_gcd, e_tuple_tup, e_list_tup, e_inst_ii, e_inst_ib, e_inst_tt, e_inst_it, e_inst_ti, e_inst_tb, e_inst_bb, e_inst_bi, e_inst_bt, e_inst_ss, e_inst_st, e_inst_si, e_inst_nt, e_gTup, e_gCons, e_gNil, e_gNms0, e_gNms1, e_gName, atA_0, atA_1, atA_2, atA_3, atA_4, get_l0, get_l1, get_l2, get_l3, set_l0, set_l1, set_l2, app_l, len_l0, len_l1, len_l2, x_c, x_var, x_op, x_un, x_nil, x_cons, x_tup, x_lst, x_call, x_cb, x_mt, x_tru, x_cmp, x_and, x_or, x_not, x_andV, x_orV, x_notV, x_if, x_chain, x_next, x_seq, x_brk, x_cont, x_drop, x_ret, x_retN, x_ifS, x_asg, x_gSub, x_par, x_aug, x_augS, x_rt, x_nx, x_yes, e_max2, e_min2, x_slice, x_oNone, x_oSome, e_sl_tup, e_sl_rol, gv, sv, wipeA, lenLe, true_and, and_true, if_true, if_false, ite_true, ite_false, beq_iff_eq, decide_eq_true_eq, Bool.false_eq_true, Bool.true_eq_false, not_false_eq_true, Bool.not_eq_true', decide_eq_false_iff_not, Bool.not_true, Bool.not_false, List.isEmpty_cons, List.isEmpty_nil, List.cons_append, List.nil_append, List.length_cons, List.length_nil])
theorem pure_law_lowest (x : AV) (h : AH) (R : AK) (c1 : clH h) (c2 : clBs h.length [x] = true) (q : sp_law_lowest [x] h R (fun _ _ => False)) :
    b_law_lowest (ends (retG h R)) [some x, none, none] h := by
  obtain ⟨Z, zs, hs, hl, hb, hZ, q⟩ := q
  unfold b_law_lowest
  get_elem_tactic_trivial
  rw [x_for]
  refine x_iseq_of (x := x) (xs := zsV zs) (fun _ => rfl) hs fun guard hg => ?_
  refine ⟨fun i σ h' => h' = h ∧ ∃ (g : Int) (a : Option AV), 0 ≤ g ∧ isz g ≤ Z + 1 ∧ σ = [some x, some (.int g), a], ⟨rfl, 0, _, Int.le_refl _, Nat.le_add_left 1 Z, rfl⟩, fun i z σ h' hz ⟨eh, g, a, g0, g1, es⟩ => ⟨by rw [eh]; exact hg _ hs, ?_⟩, fun σ h' ⟨eh, g, a, g0, g1, es⟩ => ⟨by rw [eh]; exact hg _ hs, ?_⟩⟩
  · subst eh es
    obtain ⟨v, hv, rfl⟩ := map_get hz
    have vb := hb v (get_mem hv)
    unfold b_law_lowest_l1
    get_elem_tactic_trivial
    by_cases hv0 : v = 0
    · rw [if_neg (by simpa using hv0)]
      exact ⟨g, _, g0, g1, rfl⟩
    rw [if_pos (by simpa using hv0)]
    by_cases hg1 : g = 1
    · rw [if_neg (by simpa using hg1)]
      exact ⟨g, _, g0, g1, rfl⟩
    rw [if_pos (by simpa using hg1)]
    refine ⟨g, v, rfl, rfl, by omega, by omega, rfl, _, _, by omega, ?_, rfl⟩
    refine Nat.le_trans (isz_mono (j := v) ?_) (Nat.le_trans vb (Nat.le_succ _))
    rw [Int.natAbs_natCast]
    exact Nat.gcd_le_right _ (by omega)
  · subst eh es
    unfold b_law_lowest_r1
    get_elem_tactic_trivial
    by_cases hg1 : 1 < g
    · rw [if_pos hg1]
      refine lcT_seq (x := x) (xs := zsV zs) (ys := zsV (zs.map fun z => z / g)) (fun _ => rfl) hs (by rw [zsV_len, zsV_len, List.length_map]) (by rw [zsV_len]; omega) (fun i z y acc Q hz hy hQ => ?_) ?_
      · obtain ⟨v, hv, rfl⟩ := map_get hz
        obtain ⟨u, hu, rfl⟩ := map_get hy
        rw [List.getElem?_map, hv] at hu
        cases hu
        get_elem_tactic_trivial
        exact ⟨divOk_of (by omega) (by omega), hQ⟩
      · refine retG_of (q _ (List.length_map ..) fun z hz => ?_)
        obtain ⟨v, hv, rfl⟩ := List.mem_map.mp hz
        have := isz_div v g.toNat
        rw [show ((g.toNat : Nat) : Int) = g by omega] at this
        exact Nat.le_trans this (hb v hv)
    · rw [if_neg hg1, list_seq hs]
      exact retG_of (q zs rfl hb)
theorem pure_law_told_row (x y : AV) (h : AH) (R : AK) (c1 : clH h) (c2 : clBs h.length [x, y] = true) (q : sp_law_told_row [x, y] h R (fun _ _ => False)) :
    b_law_told_row (ends (retG h R)) [some x, some y] h := by
  obtain ⟨s, k, Z, zs, rfl, hs, hq, hl, hk, hb, hZ1, hZ, q⟩ := q
  unfold b_law_told_row
  get_elem_tactic_trivial
  refine ⟨Z, zs, hq, by omega, hb, hZ, fun zs' hl' hb' => ?_⟩
  get_elem_tactic_trivial
  rw [e_tuple_lst get_l0]
  get_elem_tactic_trivial
  refine ⟨by rw [zsV_len]; omega, ret_ext c1 (Ext.refl.app _) (clBs_ints (s :: zs')) (q (s :: zs') ⟨by rw [List.length_cons]; omega, hs, fun z hz => ?_⟩)⟩
  rcases List.mem_cons.mp hz with rfl | hz
  · rcases hs with rfl | rfl <;> exact hZ1
  · exact hb' z hz
theorem small_at {L : List Int} {w : Int} (h0 : 0 ≤ w) (h1 : w < L.length) : ∃ z, z ∈ L ∧ atA (zsV L) w = some (.int z) := by
  obtain ⟨w, rfl⟩ := Int.eq_ofNat_of_zero_le h0
  have hw : w < L.length := by omega
  exact ⟨L[w], List.getElem_mem hw, zsV_at (List.getElem?_eq_getElem hw)⟩
theorem pure_law_share (x : AV) (h : AH) (R : AK) (c1 : clH h) (c2 : clBs h.length [x] = true) (q : sp_law_share [x] h R (fun _ _ => False)) :
    b_law_share (ends (retG h R)) [some x, none, none] h := by
  obtain ⟨n, rfl, hd, q⟩ := q
  unfold b_law_share
  get_elem_tactic_trivial
  refine ⟨n, 19, rfl, rfl, by decide, by decide, hd, fun w h1 w0 w1 d1 => ?_⟩
  get_elem_tactic_trivial
  by_cases h9 : w = 9
  · rw [if_pos h9]
    refine ⟨n, 1000000, rfl, rfl, by decide, by decide, d1.at, fun a h2 a0 a1 d2 => ?_⟩
    get_elem_tactic_trivial
    refine ⟨by decide, .inl (.inl ⟨by omega, by omega⟩), n, 1000000, rfl, rfl, by decide, by decide, d2.at, fun b h3 b0 b1 d3 => ?_⟩
    get_elem_tactic_trivial
    refine ⟨by decide, .inl (.inl ⟨by omega, by omega⟩), n, 1000000, rfl, rfl, by decide, by decide, d3.at, fun c h4 e0 e1 d4 => ?_⟩
    get_elem_tactic_trivial
    have e12 : (10 : Int) ^ Int.toNat 12 = 1000000000000 := by decide +kernel
    have e6 : (10 : Int) ^ Int.toNat 6 = 1000000 := by decide +kernel
    rw [e12, e6]
    refine ⟨.inl (.inl ⟨by decide, by decide⟩), n, 2, rfl, rfl, by decide, by decide, d4.at, fun b2 h5 f0 f1 d5 => ?_⟩
    get_elem_tactic_trivial
    refine ⟨.inl (.inr ⟨by omega, by omega⟩), retG_of (q _ _ ?_ ((((d1.trans d2).trans d3).trans d4).trans d5))⟩
    have : b2 = 0 ∨ b2 = 1 := by omega
    refine isz_le (by decide) ?_
    rcases this with rfl | rfl <;> omega
  · rw [if_neg h9]
    unfold b_law_share_a3 b_law_share_a2 b_law_share_a1
    get_elem_tactic_trivial
    obtain ⟨z, hz, ez⟩ := small_at (L := [0, 0, 0, 0, 0, 1, 1, 1, 2, 0, 3, 5, -1, -1, -1, -2, -3, -4, -7]) w0 (by simpa using w1)
    refine Eq.mpr (e_ix_lst (h := h1 ++ [AO.lst (zsV [0, 0, 0, 0, 0, 1, 1, 1, 2, 0, 3, 5, -1, -1, -1, -2, -3, -4, -7])]) (Q := retG h R) get_l0 ez) ?_
    have zb : ∀ z ∈ [(0 : Int), 0, 0, 0, 0, 1, 1, 1, 2, 0, 3, 5, -1, -1, -1, -2, -3, -4, -7], isz z ≤ 64 := by decide
    exact ret_drawn c1 d1 rfl (q z _ (zb z hz) d1)
theorem pure_law_weight (x : AV) (h : AH) (R : AK) (c1 : clH h) (c2 : clBs h.length [x] = true) (q : sp_law_weight [x] h R (fun _ _ => False)) :
    b_law_weight (ends (retG h R)) [some x, none] h := by
  obtain ⟨n, rfl, hd, q⟩ := q
  unfold b_law_weight
  get_elem_tactic_trivial
  refine ⟨n, 13, rfl, rfl, by decide, by decide, hd, fun w h1 w0 w1 d1 => ?_⟩
  get_elem_tactic_trivial
  by_cases h6 : w = 6
  · rw [if_pos h6]
    refine ⟨n, 1000000, rfl, rfl, by decide, by decide, d1.at, fun a h2 a0 a1 d2 => ?_⟩
    get_elem_tactic_trivial
    refine ⟨.inl (.inl ⟨by omega, by omega⟩), n, 1000000, rfl, rfl, by decide, by decide, d2.at, fun b h3 b0 b1 d3 => ?_⟩
    get_elem_tactic_trivial
    exact retG_of (q _ _ (isz_le (by decide) (by omega)) (by omega) ((d1.trans d2).trans d3))
  · rw [if_neg h6]
    unfold b_law_weight_a2 b_law_weight_a1
    get_elem_tactic_trivial
    obtain ⟨z, hz, ez⟩ := small_at (L := [0, 0, 0, 1, 1, 1, 0, 2, 2, 3, 4, 5, 7]) w0 (by simpa using w1)
    refine Eq.mpr (e_ix_lst (h := h1 ++ [AO.lst (zsV [0, 0, 0, 1, 1, 1, 0, 2, 2, 3, 4, 5, 7])]) (Q := retG h R) get_l0 ez) ?_
    have zb : ∀ z ∈ [(0 : Int), 0, 0, 1, 1, 1, 0, 2, 2, 3, 4, 5, 7], isz z ≤ 44 ∧ 0 ≤ z := by decide
    exact ret_drawn c1 d1 rfl (q z _ (zb z hz).1 (zb z hz).2 d1)
/-! ### heaps that are changed at known places -/
theorem DrawAt.low {h F : AH} {n : Nat} (d : DrawAt F n) (hn : n < h.length) : DrawAt (F.take h.length) n := by
  obtain ⟨k, ns, at_, rest, seed, e1, e2, hk⟩ := d
  exact ⟨k, ns, at_, rest, seed, by rw [List.getElem?_take_of_lt hn]; exact e1, by rw [List.getElem?_take_of_lt (by omega)]; exact e2, hk⟩
theorem grown_of {h F : AH} {n : Nat} (hn : n < h.length) (hl : h.length ≤ F.length) (hs : ∀ i, i < h.length → i ≠ n → F[i]? = h[i]?) (d : DrawAt F n) : Grown h n F := by
  refine ⟨F.take h.length, F.drop h.length, (List.take_append_drop _ _).symm, by rw [List.length_take]; omega, fun i hi => ?_, d.low hn⟩
  by_cases hlt : i < h.length
  · rw [List.getElem?_take_of_lt hlt]
    exact hs i hlt hi
  · rw [List.getElem?_take_eq_none (by omega), List.getElem?_eq_none (by omega)]
structure Mut (h : AH) (S : Nat → Prop) (F : AH) : Prop where
  le : h.length ≤ F.length
  same : ∀ i, i < h.length → ¬ S i → F[i]? = h[i]?
theorem Mut.refl {h : AH} {S : Nat → Prop} : Mut h S h := ⟨Nat.le_refl _, fun _ _ _ => rfl⟩
theorem Mut.app {h F : AH} {S : Nat → Prop} (m : Mut h S F) (r : AH) : Mut h S (F ++ r) := ⟨by rw [List.length_append]; have := m.le; omega, fun i hi hs => by
  have := m.le
  rw [List.getElem?_append_left (by omega)]
  exact m.same i hi hs⟩
theorem Mut.set {h F : AH} {S : Nat → Prop} (m : Mut h S F) {p : Nat} {x : AO} (hp : S p ∨ h.length ≤ p) : Mut h S (F.set p x) := ⟨by rw [List.length_set]; exact m.le, fun i hi hs => by
  rw [List.getElem?_set_ne (fun e => by
    subst e
    rcases hp with hp | hp
    · exact hs hp
    · omega)]
  exact m.same i hi hs⟩
theorem Mut.draw {h F F2 : AH} {S : Nat → Prop} (m : Mut h S F) {n : Nat} (hn : S n) (d : Drawn F n F2) : Mut h S F2 := ⟨by rw [d.1]; exact m.le, fun i hi hs => by
  rw [d.get (show i ≠ n from fun e => hs (by rw [e]; exact hn))]
  exact m.same i hi hs⟩
theorem clO_draw {F : AH} {n N : Nat} (d : DrawAt F n) (hn : n < N) {o : AO} (e : F[n]? = some o) : clO N o = true := by
  obtain ⟨k, ns, at_, rest, seed, e1, e2, hk⟩ := d
  rw [e] at e1
  cases e1
  show (decide (k < N) && true) = true
  rw [decide_eq_true (by omega)]
  rfl
theorem clBs_rowsI {n : Nat} : ∀ rs : List (List Int), clBs n (rs.map rowI) = true
  | [] => rfl
  | r :: rs => by
    show (clBs n (zsV r) && clBs n (rs.map rowI)) = true
    rw [show clBs n (zsV r) = true from clBs_ints r, clBs_rowsI rs]
    rfl
/-- an end where lists that are known have changed -/
theorem ret_mut {h F : AH} {R : AK} {x : AV} {n a b : Nat} {xs ys : List AV} (c : clH h) (m : Mut h (fun i => i = n ∨ i = a ∨ i = b) F) (hn : n < h.length) (d : DrawAt F n) (ea : F[a]? = some (.lst xs)) (eb : F[b]? = some (.lst ys)) (ca : clBs h.length xs = true) (cb : clBs h.length ys = true) (cx : clB h.length x = true)
    (q : ∀ h1, h1.length = h.length → (∀ i, i < h.length → h1[i]? = F[i]?) → DrawAt h1 n → R x h1) : retG h R x F := by
  have hlen : (F.take h.length).length = h.length := by rw [List.length_take]; have := m.le; omega
  refine .inr (.inl ⟨F.take h.length, F.drop h.length, (List.take_append_drop _ _).symm, hlen, fun o ho => ?_, by rw [hlen]; exact cx, q _ hlen (fun i hi => List.getElem?_take_of_lt hi) (d.low hn)⟩)
  rw [hlen]
  obtain ⟨i, hi, rfl⟩ := List.getElem_of_mem ho
  rw [hlen] at hi
  have e : F[i]? = some (F.take h.length)[i] := by
    rw [← List.getElem?_take_of_lt hi]
    exact List.getElem?_eq_getElem (by omega)
  by_cases h1 : i = n
  · subst h1
    exact clO_draw d hi e
  by_cases h2 : i = a
  · subst h2
    rw [ea] at e
    rw [← Option.some.inj e]
    exact ca
  by_cases h3 : i = b
  · subst h3
    rw [eb] at e
    rw [← Option.some.inj e]
    exact cb
  · rw [m.same i hi (by rintro (z | z | z) <;> contradiction)] at e
    exact c _ (List.mem_of_getElem? e)
theorem pure_law_free_row (x y : AV) (h : AH) (R : AK) (c1 : clH h) (c2 : clBs h.length [x, y] = true) (q : sp_law_free_row [x, y] h R (fun _ _ => False)) :
    b_law_free_row (ends (retG h R)) [some x, some y, none] h := by
  obtain ⟨n, k, rfl, rfl, hk, hd, q⟩ := q
  unfold b_law_free_row
  get_elem_tactic_trivial
  refine ⟨n, 3, rfl, rfl, by decide, by decide, hd, fun s h1 s0 s1 d1 => ?_⟩
  get_elem_tactic_trivial
  refine lcT_draw (h1 := h1) (n := n) (items := zrange 0 (k + 1)) (guard := fun _ => True) (fun ys => ∃ zs : List Int, ys = zsV zs ∧ Bnd 64 zs) d1.at (fun K kk => ⟨by omega, by omega, by rw [show ((k : Int) + 1).toNat = k + 1 by omega]; exact kk⟩) (by rw [zr_len]; omega) (fun _ _ => trivial) ⟨[], rfl, by simp [Bnd]⟩ (fun i x acc h3 Q hx hi ⟨zs, e, hb⟩ d3 hq => ?_) (fun ys h3 ⟨zs, e, hb⟩ hl d3 => ?_)
  · get_elem_tactic_trivial
    refine ⟨n, rfl, d3.at.app _, fun z h4 hz d4 => ?_⟩
    obtain ⟨h5, rfl, d5⟩ := d4.cut d3.at.lt
    refine hq _ _ ⟨zs ++ [z], by simp [e, zsV], fun u hu => ?_⟩ d5
    rcases List.mem_append.mp hu with hu | hu
    · exact hb u hu
    · rw [List.mem_singleton.mp hu]
      exact hz
  · subst e
    rw [zsV_len, zr_len] at hl
    refine ⟨_, k, 64, zs, rfl, ?_, seq_ref (by rw [← d3.1]; exact get_l0), hl, hk, hb, by decide, by decide, fun r hr => ?_⟩
    · by_cases z : s = 0
      · exact .inr (by rw [z]; rfl)
      · exact .inl (by rw [if_neg (by simpa using z)])
    · exact ret_drawn c1 (d1.trans d3) (clBs_ints r) (q r _ hr (d1.trans d3))
theorem pure_law_summed (x y z : AV) (h : AH) (R : AK) (c1 : clH h) (c2 : clBs h.length [x, y, z] = true) (q : sp_law_summed [x, y, z] h R (fun _ _ => False)) :
    b_law_summed (ends (retG h R)) [some x, some y, some z, none, none, none, none, none] h := by
  obtain ⟨k, Zr, Zw, rs, ws, hx, hy, rfl, hk, h60, o, hl, hw, hZr, hZw, q⟩ := q
  unfold b_law_summed
  get_elem_tactic_trivial
  refine e_repL get_l0 (by omega) (by omega) ?_
  rw [show ((k : Int) + 2).toNat = k + 2 by omega]
  get_elem_tactic_trivial
  have s0 : List.replicate (k + 2) (AV.int 0) = zsV (sumsT (k + 2) rs ws 0) := by rw [sumsT_zero, zsV, List.map_replicate]
  rw [s0, x_for, x_zipM' (x := x) (y := y) (fun _ => rfl) (seq_old hx) (seq_old hy)]
  have lz : (zip2 (rs.map rowI) (zsV ws)).length = rs.length := by rw [zp2_len _ _ (by rw [zsV_len, List.length_map, hl]), List.length_map]
  have gx : ∀ h', Ext h h' → seqOf x h' = some (rs.map rowI) ∧ seqOf y h' = some (zsV ws) := fun h' ⟨r, e⟩ => by
    rw [e]
    exact ⟨seq_old hx, seq_old hy⟩
  refine ⟨fun i σ h' => ∃ (t : Nat) (a b : Option AV), Ext h h' ∧ h.length ≤ t ∧ h'[t]? = some (.lst (zsV (sumsT (k + 2) rs ws i))) ∧ σ = [some x, some y, some (.int (k : Int)), some (.ref t), a, b, none, none],
    ⟨h.length + 1, none, none, Ext.refl.app _, by omega, get_l1, rfl⟩, fun i z σ h' hz ⟨t, a, b, ex, ht, et, es⟩ => ⟨gx _ ex, ?_⟩, fun σ h' ⟨t, a, b, ex, ht, et, es⟩ => ⟨gx _ ex, ?_⟩⟩
  · subst es
    obtain ⟨rv, wv, hr', hw', rfl⟩ := zp_get _ _ hz
    obtain ⟨r, hr, rfl⟩ := map_get hr'
    obtain ⟨w, hwv, rfl⟩ := map_get hw'
    unfold b_law_summed_l1
    get_elem_tactic_trivial
    refine sum_loop o hl hw (by omega) hr hwv hk et (fun L => rfl) (fun u v acc Q hm hQ => ?_) ?_
    · get_elem_tactic_trivial
      exact ⟨hm, hQ⟩
    · exact ⟨h'.length, _, _, ex.app _, ex.le, get_l0, rfl⟩
  · subst es
    rw [lz, sumsT_all hl] at et
    get_elem_tactic_trivial
    exact ret_lst c1 ex ht et (clBs_ints _) q
theorem ins_len {α : Type} {xs : List α} {x : α} {a : Nat} (h : a ≤ xs.length) : (xs.take a ++ [x] ++ xs.drop a).length = xs.length + 1 := by
  rw [List.length_append, List.length_append, List.length_take, List.length_drop]
  show _ + 1 + _ = _
  omega
theorem ins_mem {α : Type} {xs : List α} {x y : α} {a : Nat} (h : y ∈ xs.take a ++ [x] ++ xs.drop a) : y ∈ xs ∨ y = x := by
  rcases List.mem_append.mp h with h | h
  · rcases List.mem_append.mp h with h | h
    · exact .inl (List.mem_of_mem_take h)
    · exact .inr (List.mem_singleton.mp h)
  · exact .inl (List.mem_of_mem_drop h)
theorem RowOk.mono {k Z Z' : Nat} {r : List Int} (o : RowOk k Z r) (h : Z ≤ Z') : RowOk k Z' r := ⟨o.len, o.hd, fun z hz => Nat.le_trans (o.bnd z hz) h⟩
theorem Bnd.mono {Z Z' : Nat} {zs : List Int} (b : Bnd Z zs) (h : Z ≤ Z') : Bnd Z' zs := fun z hz => Nat.le_trans (b z hz) h
theorem pure_law_close (x y z v : AV) (h : AH) (R : AK) (c1 : clH h) (c2 : clBs h.length [x, y, z, v] = true) (q : sp_law_close [x, y, z, v] h R (fun _ _ => False)) :
    b_law_close (ends (retG h R)) [some x, some y, some z, some v, none, none, none, none, none, none, none] h := by
  obtain ⟨n, r, w, u, k, Zr, Zw, rs, ws, ds, rfl, rfl, rfl, rfl, A, hk, h50, hZr0, hZr, hZw0, hZw, eu, hds, hdb, hnu, hur, huw, q⟩ := q
  have lr := get_lt A.r_
  have lw := get_lt A.w_
  have lu := get_lt eu
  have ln := A.dr.lt
  have slen := sums_len (n := k + 2) (fun r hr => (A.row r hr).len) A.len
  have sbnd := sums_bnd (n := k + 2) (fun r hr => (A.row r hr).bnd) A.bnd A.len A.le
  unfold b_law_close
  get_elem_tactic_trivial
  rw [e_len_lst eu]
  get_elem_tactic_trivial
  rw [zsV_len, hds]
  refine ⟨k, Zr, Zw, rs, ws, seq_ref A.r_, seq_ref A.w_, congrArg AV.int (by omega), hk, A.le, A.row, A.len, A.bnd, by omega, by omega, ?_⟩
  dsimp only
  obtain ⟨S, hS⟩ : ∃ S, S = sums (k + 2) rs ws := ⟨_, rfl⟩
  rw [← hS] at slen sbnd ⊢
  obtain ⟨H0, hH0⟩ : ∃ H0, H0 = h ++ [AO.lst (zsV S), .lst (zsV (S.drop 1))] := ⟨_, rfl⟩
  have su : seqOf (.ref u) H0 = some (zsV ds) := by rw [hH0]; exact seq_old (seq_ref eu)
  have sS : seqOf (.ref (h.length + 1)) H0 = some (zsV (S.drop 1)) := by rw [hH0]; exact seq_ref get_l1
  have nb : Bnd (Zr + Zw + 20) (List.zipWith (fun a b => a - b) ds (S.drop 1)) := fun z hz => by
    obtain ⟨j, hj, rfl⟩ := List.getElem_of_mem hz
    rw [List.getElem_zipWith]
    rw [List.length_zipWith] at hj
    have b1 := hdb _ (List.getElem_mem (l := ds) (n := j) (by omega))
    have b2 := sbnd _ (List.mem_of_mem_drop (List.getElem_mem (l := S.drop 1) (n := j) (by omega)))
    exact isz_sub (n := Zr + Zw + 19) (by omega) (by omega)
  have nl : (List.zipWith (fun a b => a - b) ds (S.drop 1)).length = k + 1 := by
    rw [List.length_zipWith, List.length_drop, slen, hds]
    omega
  rw [x_lcT, x_zipM' (x := .ref u) (y := .ref (h.length + 1)) (h1 := H0) (fun L => by get_elem_tactic_trivial; rw [e_sl_lst get_l0, show cutA (zsV S) (some 1) none = zsV (S.drop 1) from cut_drop S 1, hH0, len_l0, app_l]; rfl) su sS]
  refine lcB_zipI (f := fun a b => a - b) (by rw [List.length_drop, slen, hds]; omega) (by omega) (fun acc => ⟨seq_old su, seq_old sS⟩) (fun u v acc Q hu hv hQ => ?_) ?_
  · get_elem_tactic_trivial
    exact hQ
  generalize List.zipWith (fun a b => a - b) ds (S.drop 1) = ns at nb nl
  have lH0 : H0.length = h.length + 2 := by rw [hH0]; simp
  obtain ⟨H1, hH1⟩ : ∃ H1, H1 = H0 ++ [AO.lst (zsV ns)] := ⟨_, rfl⟩
  have eH1 : ∀ r, (H1 ++ r)[H0.length]? = some (.lst (zsV ns)) := fun r => by rw [hH1]; exact get_old get_l0
  have m1 : Mut h (fun i => i = n ∨ i = r ∨ i = w) H1 := by
    rw [hH1, hH0]
    exact (Mut.refl.app _).app _
  have d1 : DrawAt H1 n := by rw [hH1, hH0]; exact (A.dr.app _).app _
  have r1 : H1[r]? = some (.lst (rs.map rowI)) := by rw [hH1, hH0]; exact get_old (get_old A.r_)
  have w1 : H1[w]? = some (.lst (zsV ws)) := by rw [hH1, hH0]; exact get_old (get_old A.w_)
  have eH2 : H1[H0.length]? = some (.lst (zsV ns)) := by rw [hH1]; exact get_l0
  rw [← hH1, x_for, x_iseq (n := H0.length) (fun _ => rfl) eH2]
  refine ⟨fun i σ h' => h' = H1 ∧ ∃ (g : Int) (a : Option AV), 0 ≤ g ∧ isz g ≤ Zr + Zw + 20 ∧ σ = [some (.ref n), some (.ref r), some (.ref w), some (.ref u), some (.ref h.length), some (.ref H0.length), some (.int g), a, none, none, none], ⟨rfl, 0, _, Int.le_refl _, Nat.le_add_left 1 _, rfl⟩, fun i z σ h' hz ⟨eh, g, a, g0, g1, es⟩ => ⟨by rw [eh]; exact eH2, ?_⟩, fun σ h' ⟨eh, g, a, g0, g1, es⟩ => ⟨by rw [eh]; exact eH2, ?_⟩⟩
  · subst eh es
    obtain ⟨v, hv, rfl⟩ := map_get hz
    have vb := nb v (get_mem hv)
    unfold b_law_close_l1
    get_elem_tactic_trivial
    refine ⟨g, v, rfl, rfl, by omega, by omega, ?_⟩
    refine ⟨rfl, _, _, by omega, ?_, rfl⟩
    by_cases hv0 : v = 0
    · rw [hv0]
      show isz ((g.natAbs.gcd 0 : Nat) : Int) ≤ _
      rw [Nat.gcd_zero_right]
      exact Nat.le_trans (isz_mono (by rw [Int.natAbs_natCast]; exact Nat.le_refl _)) g1
    · refine Nat.le_trans (isz_mono (j := v) ?_) vb
      rw [Int.natAbs_natCast]
      exact Nat.gcd_le_right _ (by omega)
  · subst eh es
    clear hH1
    unfold b_law_close_r1
    get_elem_tactic_trivial
    rw [e_len_lst r1]
    get_elem_tactic_trivial
    rw [List.length_map]
    refine ⟨n, _, rfl, rfl, by omega, Nat.le_trans (isz_of (n := 8) (by decide) (by omega) (by omega)) (by decide), d1, fun at_ h2 at0 at1 d2 => ?_⟩
    obtain ⟨at_, rfl⟩ := Int.eq_ofNat_of_zero_le at0
    have hat : at_ ≤ rs.length := by omega
    have nr := A.nr
    have nw := A.nw
    have hrw := A.rw
    have r2 : h2[r]? = some (.lst (rs.map rowI)) := by rw [d2.get (by omega)]; exact r1
    rw [e_isLst r2]
    refine ⟨trivial, n, 2, rfl, rfl, by decide, by decide, d2.at, fun s h3 s0 s1 d3 => ?_⟩
    have d23 := d2.trans d3
    have e3 : h3[H0.length]? = some (.lst (zsV ns)) := by rw [d23.get (by omega)]; exact eH2
    get_elem_tactic_trivial
    refine ⟨s, k, Zr + Zw + 20, ns, rfl, by omega, seq_ref e3, nl, hk, nb, by omega, by omega, fun row hrow => ?_⟩
    have r3 : h3[r]? = some (.lst (rs.map rowI)) := by rw [d23.get (by omega)]; exact r1
    have w3 : h3[w]? = some (.lst (zsV ws)) := by rw [d23.get (by omega)]; exact w1
    dsimp only
    rw [e_insert r3]
    refine ⟨by rw [List.length_map]; omega, by omega, by omega, ?_⟩
    rw [Int.toNat_natCast]
    obtain ⟨rs', hrs'⟩ : ∃ rs', rs' = rs.take at_ ++ [row] ++ rs.drop at_ := ⟨_, rfl⟩
    have ers : (rs.map rowI).take at_ ++ [rowI row] ++ (rs.map rowI).drop at_ = rs'.map rowI := by
      rw [hrs', List.map_append, List.map_append, List.map_take, List.map_drop]
      rfl
    rw [ers]
    obtain ⟨H4, hH4⟩ : ∃ H4, H4 = h3.set r (.lst (rs'.map rowI)) := ⟨_, rfl⟩
    have r4 : H4[r]? = some (.lst (rs'.map rowI)) := by rw [hH4]; exact set_at r3
    have w4 : H4[w]? = some (.lst (zsV ws)) := by rw [hH4]; exact get_set w3 hrw
    have d4 : DrawAt H4 n := by rw [hH4]; exact d3.at.set nr
    have m4 : Mut h (fun i => i = n ∨ i = r ∨ i = w) H4 := by
      rw [hH4]
      exact (m1.draw (.inl rfl) d23).set (.inl (.inr (.inl rfl)))
    rw [← hH4, e_isLst w4]
    refine ⟨trivial, ?_⟩
    have lws := A.len
    have fin : ∀ (z : Int) H5, isz z ≤ Zr + Zw + 20 → Drawn H4 n H5 → insertR (.ref w) [.int (at_ : Int), .int z] H5 fun _ h1 => retG h R (.int (at_ : Int)) h1 := fun z H5 hz d5 => by
      have w5 : H5[w]? = some (.lst (zsV ws)) := by rw [d5.get (by omega)]; exact w4
      have r5 : H5[r]? = some (.lst (rs'.map rowI)) := by rw [d5.get (by omega)]; exact r4
      rw [e_insert w5]
      refine ⟨by rw [zsV_len]; omega, by omega, by omega, ?_⟩
      rw [Int.toNat_natCast]
      obtain ⟨ws', hws'⟩ : ∃ ws', ws' = ws.take at_ ++ [z] ++ ws.drop at_ := ⟨_, rfl⟩
      have ews : (zsV ws).take at_ ++ [.int z] ++ (zsV ws).drop at_ = zsV ws' := by
        rw [hws', zsV, zsV, List.map_append, List.map_append, List.map_take, List.map_drop]
        rfl
      rw [ews]
      refine ret_mut (n := n) (a := r) (b := w) c1 ((m4.draw (.inl rfl) d5).set (.inl (.inr (.inr rfl)))) ln (d5.at.set nw) (get_set r5 (Ne.symm hrw)) (set_at w5) (clBs_rowsI _) (clBs_ints _) rfl fun h1 hl1 hs1 hd1 => ?_
      refine q at_ h1 rs' ws' hat ⟨hd1, by rw [hs1 r lr]; exact get_set r5 (Ne.symm hrw), by rw [hs1 w lw]; exact set_at w5, nr, nw, hrw, ?_, fun x hx => ?_, ?_, fun y hy => ?_⟩ (by rw [hrs']; exact ins_len hat) hl1 fun i i1 i2 i3 => ?_
      · rw [hrs', ins_len hat]
        omega
      · rw [hrs'] at hx
        rcases ins_mem hx with hx | rfl
        · exact (A.row x hx).mono (by omega)
        · exact hrow
      · rw [hrs', hws', ins_len hat, ins_len (by omega), lws]
      · rw [hws'] at hy
        rcases ins_mem hy with hy | rfl
        · exact Nat.le_trans (A.bnd y hy) (by omega)
        · exact hz
      · by_cases hi : i < h.length
        · rw [hs1 i hi]
          exact ((m4.draw (.inl rfl) d5).set (x := .lst (zsV ws')) (.inl (.inr (.inr rfl)))).same i hi (by rintro (z | z | z) <;> contradiction)
        · rw [List.getElem?_eq_none (by omega), List.getElem?_eq_none (by omega)]
    by_cases hg : 0 < g
    · rw [if_pos hg]
      exact fin g H4 g1 (.refl d4)
    · rw [if_neg hg]
      refine ⟨n, 3, rfl, rfl, by decide, by decide, d4, fun t H5 t0 t1 d5 => ?_⟩
      exact fin t H5 (Nat.le_trans (isz_of (n := 4) (by decide) t0 (by omega)) (by omega)) d5
theorem zsV_set (zs : List Int) (j : Nat) (z : Int) : (zsV zs).set j (.int z) = zsV (zs.set j z) := (List.map_set ..).symm
theorem Bnd.set {Z : Nat} {zs : List Int} (b : Bnd Z zs) {j : Nat} {z : Int} (h : isz z ≤ Z) : Bnd Z (zs.set j z) := fun y hy => by
  rcases List.mem_or_eq_of_mem_set hy with hy | rfl
  · exact b y hy
  · exact h
theorem pure_law_odd (x y z v : AV) (h : AH) (R : AK) (c1 : clH h) (c2 : clBs h.length [x, y, z, v] = true) (q : sp_law_odd [x, y, z, v] h R (fun _ _ => False)) :
    b_law_odd (ends (retG h R)) [some x, some y, some z, some v, none] h := by
  obtain ⟨n, w, u, first, Zw, ws, ds, rfl, rfl, rfl, rfl, hf, hd, ew, eu, hnw, hnu, hwu, bw, hZw, lws, lds, bd, q⟩ := q
  have lw := get_lt ew
  have lu := get_lt eu
  have ln := hd.lt
  have l8 : ∀ i : Int, 0 ≤ i → i < 256 → isz i ≤ 9000 := fun i h0 h1 => Nat.le_trans (isz_of (n := 8) (by decide) h0 h1) (by decide)
  unfold b_law_odd
  get_elem_tactic_trivial
  refine ⟨n, 9, rfl, rfl, by decide, by decide, hd, fun way h1 y0 y1 d1 => ?_⟩
  get_elem_tactic_trivial
  have fin : ∀ F ws' ds', Mut h (fun i => i = n ∨ i = w ∨ i = u) F → DrawAt F n → F[w]? = some (.lst (zsV ws')) → F[u]? = some (.lst (zsV ds')) → ws'.length = ws.length → ds'.length = ds.length → Bnd Zw ws' → Bnd 80 ds' → retG h R .non F := fun F ws' ds' m d e1 e2 l1 l2 b1 b2 =>
    ret_mut (n := n) (a := w) (b := u) c1 m ln d e1 e2 (clBs_ints _) (clBs_ints _) rfl fun h1 hl1 hs1 hd1 => q h1 ws' ds' hd1 (by rw [hs1 w lw]; exact e1) (by rw [hs1 u lu]; exact e2) l1 l2 b1 b2 hl1 fun i i1 i2 i3 => by
      by_cases hi : i < h.length
      · rw [hs1 i hi]
        exact m.same i hi (by rintro (z | z | z) <;> contradiction)
      · rw [List.getElem?_eq_none (by omega), List.getElem?_eq_none (by omega)]
  have r1 : ∀ F ws', Mut h (fun i => i = n ∨ i = w ∨ i = u) F → DrawAt F n → F[w]? = some (.lst (zsV ws')) → F[u]? = some (.lst (zsV ds)) → ws'.length = ws.length → Bnd Zw ws' →
      b_law_odd_r1 (ends (retG h R)) [some (.ref n), some (.ref w), some (.ref u), some (.int (first : Int)), some (.int way)] F := fun F ws' m d e1 e2 l1 b1 => by
    unfold b_law_odd_r1
    get_elem_tactic_trivial
    by_cases h5 : way = 5
    rotate_left
    · rw [if_neg h5]
      exact fin F ws' ds m d e1 e2 l1 rfl b1 (bd.mono (by decide))
    rw [if_pos h5, e_len_lst e2]
    get_elem_tactic_trivial
    rw [zsV_len]
    by_cases hfl : (first : Int) < (ds.length : Int)
    rotate_left
    · rw [if_neg hfl]
      exact fin F ws' ds m d e1 e2 l1 rfl b1 (bd.mono (by decide))
    rw [if_pos hfl, e_len_lst e2]
    get_elem_tactic_trivial
    rw [zsV_len]
    refine ⟨n, _, rfl, rfl, by omega, l8 _ (by omega) (by omega), d, fun a F2 a0 a1 d2 => ?_⟩
    obtain ⟨a, rfl⟩ := Int.eq_ofNat_of_zero_le a0
    have hj : first + a < ds.length := by omega
    have e3 : F2[u]? = some (.lst (zsV ds)) := by rw [d2.get (by omega)]; exact e2
    have eij : ((first : Int) + (a : Int)) = ((first + a : Nat) : Int) := by omega
    have ez := List.getElem?_eq_getElem hj
    have bz := bd _ (List.getElem_mem hj)
    generalize ds[first + a] = z at ez bz
    get_elem_tactic_trivial
    rw [eij, e_ix_lst e3 (zsV_at ez)]
    refine ⟨n, 2, rfl, rfl, by decide, by decide, d2.at, fun b F3 b0 b1' d3 => ?_⟩
    get_elem_tactic_trivial
    have d23 := d2.trans d3
    have e4 : F3[u]? = some (.lst (zsV ds)) := by rw [d23.get (by omega)]; exact e2
    have e5 : F3[w]? = some (.lst (zsV ws')) := by rw [d23.get (by omega)]; exact e1
    rw [e_set_lst e4, zsV_set]
    refine ⟨.inl (.inl ⟨by decide, by decide⟩), by rw [zsV_len]; exact hj, ?_⟩
    have sb : isz (1 - 2 * b) ≤ 75 := isz_le (by decide) (by omega)
    refine fin _ ws' _ ((m.draw (.inl rfl) d23).set (.inl (.inr (.inr rfl)))) (d23.at.set hnu) (get_set e5 (Ne.symm hwu)) (set_at e4) l1 (List.length_set ..) b1 ?_
    exact (bd.mono (by decide)).set (Nat.le_trans (isz_add bz sb) (by decide))
  by_cases h4 : way = 4
  rotate_left
  · rw [if_neg h4]
    exact r1 h1 ws (Mut.refl.draw (.inl rfl) d1) d1.at (by rw [d1.get (by omega)]; exact ew) (by rw [d1.get (by omega)]; exact eu) rfl bw
  have ew1 : h1[w]? = some (.lst (zsV ws)) := by rw [d1.get (by omega)]; exact ew
  rw [if_pos h4, e_len_lst ew1]
  get_elem_tactic_trivial
  rw [zsV_len]
  by_cases hl0 : 0 < (ws.length : Int)
  rotate_left
  · rw [if_neg hl0]
    exact r1 h1 ws (Mut.refl.draw (.inl rfl) d1) d1.at ew1 (by rw [d1.get (by omega)]; exact eu) rfl bw
  rw [if_pos hl0]
  refine ⟨n, 3, rfl, rfl, by decide, by decide, d1.at, fun t h2 t0 t1 d2 => ?_⟩
  have d12 := d1.trans d2
  have ew2 : h2[w]? = some (.lst (zsV ws)) := by rw [d12.get (by omega)]; exact ew
  get_elem_tactic_trivial
  rw [e_len_lst ew2]
  rw [zsV_len]
  refine ⟨n, _, rfl, rfl, by omega, l8 _ (by omega) (by omega), d2.at, fun j h3 j0 j1 d3 => ?_⟩
  obtain ⟨j, rfl⟩ := Int.eq_ofNat_of_zero_le j0
  have d13 := d12.trans d3
  have ew3 : h3[w]? = some (.lst (zsV ws)) := by rw [d13.get (by omega)]; exact ew
  rw [e_set_lst ew3, zsV_set]
  refine ⟨by rw [zsV_len]; omega, ?_⟩
  exact r1 _ _ ((Mut.refl.draw (.inl rfl) d13).set (.inl (.inr (.inl rfl)))) (d13.at.set hnw) (set_at ew3) (get_set (by rw [d13.get (by omega)]; exact eu) hwu) (List.length_set ..) (bw.set (Nat.le_trans (isz_le (n := 8) (by decide) (by omega)) (by omega)))
end AL

/-! P19c: proofs judged: the cases, pure proofs. -/
namespace AL
open PySem
local macro_rules | `(tactic| get_elem_tactic_trivial) => `(tactic| simp -implicitDefEqProofs only [e_tru_non, e_tru_bl, e_tru_int, e_tru_tup, e_tru_rol, e_bl_bl, e_add_int, e_add_ib, e_add_str, e_add_tup, e_sub_int, e_mul_int, e_fdiv_int, e_mod_int, e_pow_int, e_shl_int, e_neg_int, e_iadd_int, e_iadd_str, e_isub_int, e_aeq_int, e_aeq_str, e_aeq_bl, e_aeq_non, e_aeq_tup, e_aeqs_nil, e_aeqs_cons, e_aeqs_nc, e_aeqs_cn, e_plain_int, e_plain_bl, e_plain_non, e_plain_str, e_plain_tup, e_eq, e_ne, e_lt_int, e_lt_str, e_le_int, e_gt_int, e_ge_int, e_isN, e_notN, e_isNon_int, e_isNon_str, e_isNon_tup, e_isNon_non, e_isNon_ref, e_isNon_bl, e_ix0, e_ix1, e_ix2, e_ix3, e_ix4, e_len_tup, e_len_rol, e_len_str, e_abs, e_int_int, e_int_bl, e_str_int, e_gcd, e_tuple_tup, e_list_tup, e_inst_ii, e_inst_ib, e_inst_tt, e_inst_it, e_inst_ti, e_inst_tb, e_inst_bb, e_inst_bi, e_inst_bt, e_inst_ss, e_inst_st, e_inst_si, e_inst_nt, e_gTup, e_gCons, e_gNil, e_gNms0, e_gNms1, e_gName, atA_0, atA_1, atA_2, atA_3, atA_4, get_l0, get_l1, get_l2, get_l3, set_l0, set_l1, set_l2, app_l, len_l0, len_l1, len_l2, x_c, x_var, x_op, x_un, x_nil, x_cons, x_tup, x_lst, x_call, x_cb, x_mt, x_tru, x_cmp, x_and, x_or, x_not, x_andV, x_orV, x_notV, x_if, x_chain, x_next, x_seq, x_brk, x_cont, x_drop, x_ret, x_retN, x_ifS, x_asg, x_gSub, x_par, x_aug, x_augS, x_rt, x_nx, x_yes, e_max2, e_min2, x_slice, x_oNone, x_oSome, e_sl_tup, e_sl_rol, gv, sv, wipeA, lenLe, true_and, and_true, if_true, if_false, ite_true, ite_false, beq_iff_eq, decide_eq_true_eq, Bool.false_eq_true, Bool.true_eq_false, not_false_eq_true, Bool.not_eq_true', decide_eq_false_iff_not, Bool.not_true, Bool.not_false, List.isEmpty_cons, List.isEmpty_nil, List.cons_append, List.nil_append, List.length_cons, List.length_nil])
/-- a comprehension over a list, items made one by one with draws between -/
theorem lcT_draw2 {it : ATI} {guard : AH → Prop} {g : ATG} {te : ATE} {vs : List Nat} {a : ASt} {items : List AV} {h0 h1 : AH} {n : Nat} {R : AK} (P : List AV → Prop) (hd : DrawAt h1 n) (hi : ∀ K, K items guard h1 → it a h0 K) (hz : items.length ≤ 1000000)
    (hg : ∀ h2 acc, Drawn h1 n h2 → guard (h2 ++ [.lst acc])) (h00 : P [])
    (hs : ∀ (i : Nat) x acc h2 (Q : AK), items[i]? = some x → acc.length = i → P acc → Drawn h1 n h2 → (∀ y h3, P (acc ++ [y]) → Drawn h2 n h3 → Q y (h3 ++ [.lst acc])) → g x (wipeA a vs) (h2 ++ [.lst acc]) fun a2 h3 => te a2 h3 Q)
    (q : ∀ ys h2, P ys → ys.length = items.length → Drawn h1 n h2 → R (.ref h1.length) (h2 ++ [.lst ys])) : lcT it g yesT te vs a h0 R := by
  refine hi _ ⟨fun i acc h => ∃ h2, h = h2 ++ [.lst acc] ∧ acc.length = i ∧ P acc ∧ Drawn h1 n h2, ⟨h1, rfl, rfl, h00, .refl hd⟩, fun i x acc h hx ⟨h2, e1, e2, e3, e4⟩ => ?_, fun acc h ⟨h2, e1, e2, e3, e4⟩ => ?_⟩
  · have hlt : i < items.length := (List.getElem?_eq_some_iff.mp hx).1
    subst e1
    refine ⟨hg h2 acc e4, hs i x acc h2 _ hx e2 e3 e4 fun y h3 p d => ?_⟩
    have hl : h3.length = h1.length := d.1.trans e4.1
    rw [← hl]
    exact ⟨get_l0, by omega, h3, set_l0, by simp [e2], p, e4.trans d⟩
  · subst e1
    have hl : h2.length = h1.length := e4.1
    refine ⟨hg _ _ e4, ?_, q acc h2 e3 e2 e4⟩
    rw [← hl]
    exact get_l0
/-- rows drawn -/
theorem lc_rows {it : ATI} {g : ATG} {te : ATE} {vs : List Nat} {a : ASt} {h0 h1 : AH} {n k m : Nat} {R : AK} (hd : DrawAt h1 n) (hi : ∀ K, K (zrange 0 m) (fun _ => True) h1 → it a h0 K) (hm : m ≤ 1000)
    (hs : ∀ x h2 (Q : AK), DrawAt h2 n → (∀ r h3, RowOk k 64 r → Drawn h2 n h3 → Q (rowI r) h3) → g x (wipeA a vs) h2 fun a2 h3 => te a2 h3 Q)
    (q : ∀ (rs : List (List Int)) h2, rs.length = m → (∀ r ∈ rs, RowOk k 64 r) → Drawn h1 n h2 → R (.ref h1.length) (h2 ++ [.lst (rs.map rowI)])) : lcT it g yesT te vs a h0 R := by
  refine lcT_draw (h1 := h1) (n := n) (items := zrange 0 m) (guard := fun _ => True) (fun ys => ∃ rs : List (List Int), ys = rs.map rowI ∧ ∀ r ∈ rs, RowOk k 64 r) hd hi (by rw [zr_len]; omega) (fun _ _ => trivial) ⟨[], rfl, by simp⟩ (fun i x acc h3 Q hx hi ⟨rs, e, hb⟩ d3 hq => ?_) (fun ys h3 ⟨rs, e, hb⟩ hl d3 => ?_)
  · refine hs x _ _ (d3.at.app _) fun r h4 hr d4 => ?_
    obtain ⟨h5, rfl, d5⟩ := d4.cut d3.at.lt
    refine hq _ _ ⟨rs ++ [r], by simp [e], fun u hu => ?_⟩ d5
    rcases List.mem_append.mp hu with hu | hu
    · exact hb u hu
    · rw [List.mem_singleton.mp hu]
      exact hr
  · subst e
    exact q rs h3 (by rw [List.length_map, zr_len] at hl; exact hl) hb d3
/-- weights drawn, one for each row of a list -/
theorem lc_weights {te : ATE} {g : ATG} {el : ATE} {vs : List Nat} {a : ASt} {h1 : AH} {n p : Nat} {xs : List AV} {R : AK} (hd : DrawAt h1 n) (he : ∀ Q : AK, te a h1 Q = Q (.ref p) h1) (ep : h1[p]? = some (.lst xs)) (hp : p ≠ n) (hm : xs.length ≤ 1000)
    (hs : ∀ x h2 (Q : AK), DrawAt h2 n → (∀ z h3, isz z ≤ 44 → 0 ≤ z → Drawn h2 n h3 → Q (.int z) h3) → g x (wipeA a vs) h2 fun a2 h3 => el a2 h3 Q)
    (q : ∀ (ws : List Int) h2, ws.length = xs.length → Bnd 44 ws → Drawn h1 n h2 → R (.ref h1.length) (h2 ++ [.lst (zsV ws)])) : lcT (iSeqT te) g yesT el vs a h1 R := by
  refine lcT_draw2 (h1 := h1) (n := n) (items := xs) (guard := fun h => h[p]? = some (.lst xs)) (fun ys => ∃ ws : List Int, ys = zsV ws ∧ Bnd 44 ws) hd (fun K kk => by rw [x_iseq he ep]; exact kk) (by omega) (fun h2 acc d => get_old (by rw [d.get hp]; exact ep)) ⟨[], rfl, by simp [Bnd]⟩ (fun i x acc h3 Q hx hi ⟨ws, e, hb⟩ d3 hq => ?_) (fun ys h3 ⟨ws, e, hb⟩ hl d3 => ?_)
  · refine hs x _ _ (d3.at.app _) fun z h4 hz h0 d4 => ?_
    obtain ⟨h5, rfl, d5⟩ := d4.cut d3.at.lt
    refine hq _ _ ⟨ws ++ [z], by simp [e, zsV], fun u hu => ?_⟩ d5
    rcases List.mem_append.mp hu with hu | hu
    · exact hb u hu
    · rw [List.mem_singleton.mp hu]
      exact hz
  · subst e
    exact q ws h3 (by rw [zsV_len] at hl; exact hl) hb d3
theorem clB_case {n : Nat} {k : Nat} {rs : List (List Int)} {p : AV} (h : Case k rs p) : clB n (.tup [.int (k : Int), rowsI rs, p]) = true := by
  show (clBs n (rs.map rowI) && (clB n p && true)) = true
  rw [clBs_rowsI]
  rcases h.2.2.2 with ⟨a, rfl, _⟩ | ⟨a, b, rfl, _⟩
  · show (true && ((clBs n (zsV a) && true) && true)) = true
    rw [show clBs n (zsV a) = true from clBs_ints a]
    rfl
  · show (true && ((clBs n (zsV a) && (clBs n (zsV b) && true)) && true)) = true
    rw [show clBs n (zsV a) = true from clBs_ints a, show clBs n (zsV b) = true from clBs_ints b]
    rfl
theorem pure_law_add_case (x : AV) (h : AH) (R : AK) (c1 : clH h) (c2 : clBs h.length [x] = true) (q : sp_law_add_case [x] h R (fun _ _ => False)) :
    b_law_add_case (ends (retG h R)) [some x, none, none, none, none, none, none, none] h := by
  obtain ⟨n, rfl, hd, q⟩ := q
  have ln := hd.lt
  have r1 : ∀ (k m : Nat) h1, k ≤ 12 → m ≤ 40 → Drawn h n h1 → b_law_add_case_r1 (ends (retG h R)) [some (.ref n), some (.int (k : Int)), some (.int (m : Int)), none, none, none, none, none] h1 := fun k m h1 hk hm d1 => by
    unfold b_law_add_case_r1
    get_elem_tactic_trivial
    refine lc_rows (k := k) (m := m) d1.at (fun K kk => ⟨by omega, by omega, by rw [Int.toNat_natCast]; exact kk⟩) (by omega) (fun x h2 Q d2 hQ => ?_) fun rs h2 lrs hrs d2 => ?_
    · get_elem_tactic_trivial
      exact ⟨n, k, rfl, rfl, by omega, d2, hQ⟩
    have lh2 : h2.length = h1.length := d2.1
    have lh1 : h1.length = h.length := d1.1
    rw [← lh2]
    obtain ⟨p, hp⟩ : ∃ p, p = h2.length := ⟨_, rfl⟩
    rw [← hp]
    have ep : (h2 ++ [AO.lst (rs.map rowI)])[p]? = some (.lst (rs.map rowI)) := by rw [hp]; exact get_l0
    have dp := d2.at.app [.lst (rs.map rowI)]
    refine lc_weights (p := p) (xs := rs.map rowI) dp (fun _ => rfl) ep (by omega) (by rw [List.length_map]; omega) (fun x h3 Q d3 hQ => ?_) fun ws h3 lws hws d3 => ?_
    · get_elem_tactic_trivial
      exact ⟨n, rfl, d3, hQ⟩
    rw [List.length_map] at lws
    obtain ⟨u, hu⟩ : ∃ u, u = (h2 ++ [AO.lst (rs.map rowI)]).length := ⟨_, rfl⟩
    have hu2 : u = p + 1 := by rw [hu, List.length_append, ← hp]; rfl
    have eu : (h3 ++ [AO.lst (zsV ws)])[u]? = some (.lst (zsV ws)) := by rw [hu, ← d3.1]; exact get_l0
    have ep3 : (h3 ++ [AO.lst (zsV ws)])[p]? = some (.lst (rs.map rowI)) := get_old (by rw [d3.get (by omega)]; exact ep)
    have g3 : Grown h n (h3 ++ [AO.lst (zsV ws)]) := (((Grown.refl hd).draw (d1.trans d2)).app _ |>.draw d3).app _
    rw [← hu]
    have l3 : (h3 ++ [AO.lst (zsV ws)]).length = p + 2 := by rw [List.length_append, d3.1, ← hu]; show u + 1 = _; omega
    generalize h3 ++ [AO.lst (zsV ws)] = F at eu ep3 g3 l3
    refine ⟨n, 5, rfl, rfl, by decide, by decide, g3.at, fun t h4 t0 t1 d4 => ?_⟩
    get_elem_tactic_trivial
    refine e_repL get_l1 (by omega) (by omega) ?_
    rw [Int.toNat_natCast, app_l, List.cons_append, List.cons_append, List.nil_append, show (h4 ++ [AO.lst [AV.int (t - 2)], AO.lst [AV.int 0]]).length = h4.length + 2 by simp]
    rw [e_add_lst get_l0 get_l2]
    refine ⟨by rw [List.length_replicate, List.length_cons, List.length_nil]; omega, ?_⟩
    have eds : [AV.int (t - 2)] ++ List.replicate k (AV.int 0) = zsV ((t - 2) :: List.replicate k 0) := by
      rw [zsV, List.map_cons, List.map_replicate]
      rfl
    rw [eds]
    obtain ⟨ds, hds⟩ : ∃ ds, ds = (t - 2) :: List.replicate k (0 : Int) := ⟨_, rfl⟩
    have lds : ds.length = k + 1 := by rw [hds, List.length_cons, List.length_replicate]
    have bds : Bnd 75 ds := fun z hz => by
      rw [hds] at hz
      rcases List.mem_cons.mp hz with rfl | hz
      · exact isz_le (by decide) (by omega)
      · rw [List.eq_of_mem_replicate hz]
        decide
    rw [← hds]
    have l4 : h4.length = p + 2 := by rw [d4.1, l3]
    rw [show (h4 ++ [AO.lst [AV.int (t - 2)], AO.lst [AV.int 0], AO.lst (List.replicate k (AV.int 0))]).length = p + 5 by rw [List.length_append, l4]; rfl]
    have g5 : Grown h n ((h4 ++ [AO.lst [AV.int (t - 2)], AO.lst [AV.int 0], AO.lst (List.replicate k (AV.int 0))]) ++ [AO.lst (zsV ds)]) := ((g3.draw d4).app _).app _
    have e5 : ((h4 ++ [AO.lst [AV.int (t - 2)], AO.lst [AV.int 0], AO.lst (List.replicate k (AV.int 0))]) ++ [AO.lst (zsV ds)])[p + 5]? = some (.lst (zsV ds)) := by
      have : (h4 ++ [AO.lst [AV.int (t - 2)], AO.lst [AV.int 0], AO.lst (List.replicate k (AV.int 0))]).length = p + 5 := by rw [List.length_append, l4]; rfl
      rw [← this]
      exact get_l0
    have eu5 : ((h4 ++ [AO.lst [AV.int (t - 2)], AO.lst [AV.int 0], AO.lst (List.replicate k (AV.int 0))]) ++ [AO.lst (zsV ds)])[u]? = some (.lst (zsV ws)) := get_old (get_old (by rw [d4.get (by omega)]; exact eu))
    have ep5 : ((h4 ++ [AO.lst [AV.int (t - 2)], AO.lst [AV.int 0], AO.lst (List.replicate k (AV.int 0))]) ++ [AO.lst (zsV ds)])[p]? = some (.lst (rs.map rowI)) := get_old (get_old (by rw [d4.get (by omega)]; exact ep3))
    have l5 : ((h4 ++ [AO.lst [AV.int (t - 2)], AO.lst [AV.int 0], AO.lst (List.replicate k (AV.int 0))]) ++ [AO.lst (zsV ds)]).length = p + 6 := by rw [List.length_append, List.length_append, l4]; rfl
    generalize (h4 ++ [AO.lst [AV.int (t - 2)], AO.lst [AV.int 0], AO.lst (List.replicate k (AV.int 0))]) ++ [AO.lst (zsV ds)] = G at g5 e5 eu5 ep5 l5
    have hnp : n < p := by rw [hp]; omega
    have hpp : h.length ≤ p := by omega
    refine ⟨n, u, p + 5, 1, 44, ws, ds, rfl, rfl, rfl, rfl, by decide, g5.at, eu5, e5, by omega, by omega, by omega, hws, by decide, by omega, by omega, bds, fun H6 ws6 ds6 dr6 ew6 ed6 lw6 ld6 bw6 bd6 l6 s6 => ?_⟩
    have ep6 : H6[p]? = some (.lst (rs.map rowI)) := by rw [s6 p (by omega) (by omega) (by omega)]; exact ep5
    dsimp only
    refine ⟨n, p, u, p + 5, k, 64, 44, rs, ws6, ds6, rfl, rfl, rfl, rfl, ⟨dr6, ep6, ew6, hnp, by omega, by omega, by omega, hrs, by omega, bw6⟩, by omega, by omega, by decide, by decide, by decide, by decide, ed6, by omega, bd6, by omega, by omega, by omega, fun a H7 rs7 ws7 ha7 A7 lr7 l7 s7 => ?_⟩
    dsimp only
    rw [e_tuple_lst A7.r_, e_tuple_lst A7.w_]
    have g7 : Grown h n H7 := by
      refine grown_of ln (by omega) (fun i hi hin => ?_) A7.dr
      rw [s7 i hin (by omega) (by omega), s6 i hin (by omega) (by omega)]
      exact g5.get hi hin
    have C : Case k rs7 (.tup [.str "add", .tup (zsV ws7)]) := ⟨⟨fun z => by rw [z] at lr7; simp at lr7, by omega, fun r hr => (A7.row r hr).mono (by decide)⟩, by omega, by omega, .inl ⟨ws7, rfl, A7.len, A7.bnd.mono (by decide)⟩⟩
    exact ret_grown c1 g7 (clB_case C) fun h8 d8 => q k rs7 _ h8 C d8
  unfold b_law_add_case
  get_elem_tactic_trivial
  refine ⟨n, 6, rfl, rfl, by decide, by decide, hd, fun k h1 k0 k1 d1 => ?_⟩
  get_elem_tactic_trivial
  refine ⟨n, 6, rfl, rfl, by decide, by decide, d1.at, fun m h2 m0 m1 d2 => ?_⟩
  get_elem_tactic_trivial
  refine ⟨n, 9, rfl, rfl, by decide, by decide, d2.at, fun b h3 d3 => ?_⟩
  get_elem_tactic_trivial
  have d13 := (d1.trans d2).trans d3
  obtain ⟨k, rfl⟩ := Int.eq_ofNat_of_zero_le k0
  obtain ⟨m, rfl⟩ := Int.eq_ofNat_of_zero_le m0
  cases b with
  | false => exact r1 k m h3 (by omega) (by omega) d13
  | true =>
    get_elem_tactic_trivial
    refine ⟨n, 13, rfl, rfl, by decide, by decide, d3.at, fun k h4 k0 k1 d4 => ?_⟩
    get_elem_tactic_trivial
    refine ⟨n, 41, rfl, rfl, by decide, by decide, d4.at, fun m h5 m0 m1 d5 => ?_⟩
    obtain ⟨k, rfl⟩ := Int.eq_ofNat_of_zero_le k0
    obtain ⟨m, rfl⟩ := Int.eq_ofNat_of_zero_le m0
    exact r1 k m h5 (by omega) (by omega) ((d13.trans d4).trans d5)
theorem due_new {h4 : AH} {x y : Int} {j : Nat} {Q : AK} (hj : j ≤ 100) (q : Q (.ref (h4.length + 3)) (h4 ++ [AO.lst [.int x, .int y], .lst [.int 0], .lst (List.replicate j (.int 0)), .lst (zsV (x :: y :: List.replicate j 0))])) :
    repLR (.ref (h4.length + 1)) (.int (j : Int)) (h4 ++ [AO.lst [.int x, .int y], .lst [.int 0]]) fun z h2 => addR (.ref h4.length) z h2 Q := by
  refine e_repL get_l1 (by omega) (by omega) ?_
  rw [Int.toNat_natCast, app_l, List.cons_append, List.cons_append, List.nil_append, show (h4 ++ [AO.lst [AV.int x, AV.int y], AO.lst [AV.int 0]]).length = h4.length + 2 by simp]
  rw [e_add_lst get_l0 get_l2]
  refine ⟨by rw [List.length_replicate, List.length_cons, List.length_cons, List.length_nil]; omega, ?_⟩
  have e : [AV.int x, AV.int y] ++ List.replicate j (AV.int 0) = zsV (x :: y :: List.replicate j 0) := by
    rw [zsV, List.map_cons, List.map_cons, List.map_replicate]
    rfl
  rw [e, app_l, show (h4 ++ [AO.lst [AV.int x, AV.int y], AO.lst [AV.int 0], AO.lst (List.replicate j (AV.int 0))]).length = h4.length + 3 by simp]
  exact q
theorem due_bnd {x y : Int} {j : Nat} (hx : isz x ≤ 75) (hy : isz y ≤ 75) : Bnd 75 (x :: y :: List.replicate j (0 : Int)) := fun z hz => by
  rcases List.mem_cons.mp hz with rfl | hz
  · exact hx
  rcases List.mem_cons.mp hz with rfl | hz
  · exact hy
  · rw [List.eq_of_mem_replicate hz]
    decide
theorem zsV_ins (zs : List Int) (a : Nat) (z : Int) : (zsV zs).take a ++ [.int z] ++ (zsV zs).drop a = zsV (zs.take a ++ [z] ++ zs.drop a) := by
  rw [zsV, zsV, List.map_append, List.map_append, List.map_take, List.map_drop]
  rfl
theorem Bnd.ins {Z : Nat} {zs : List Int} (b : Bnd Z zs) {a : Nat} {z : Int} (h : isz z ≤ Z) : Bnd Z (zs.take a ++ [z] ++ zs.drop a) := fun y hy => by
  rcases ins_mem hy with hy | rfl
  · exact b y hy
  · exact h
theorem pure_law_round_case (x : AV) (h : AH) (R : AK) (c1 : clH h) (c2 : clBs h.length [x] = true) (q : sp_law_round_case [x] h R (fun _ _ => False)) :
    b_law_round_case (ends (retG h R)) [some x, none, none, none, none, none, none, none, none, none, none, none] h := by
  obtain ⟨n, rfl, hd, q⟩ := q
  have ln := hd.lt
  unfold b_law_round_case
  get_elem_tactic_trivial
  refine ⟨n, 4, rfl, rfl, by decide, by decide, hd, fun kk h1 k0 k1 d1 => ?_⟩
  obtain ⟨kk, rfl⟩ := Int.eq_ofNat_of_zero_le k0
  get_elem_tactic_trivial
  rw [show (1 + (kk : Int)) = ((kk + 1 : Nat) : Int) by omega]
  obtain ⟨k, hk⟩ : ∃ k, k = kk + 1 := ⟨_, rfl⟩
  rw [← hk, x_lcT]
  unfold iRng1T
  get_elem_tactic_trivial
  refine ⟨n, 5, rfl, rfl, by decide, by decide, d1.at, fun m h2 m0 m1 d2 => ?_⟩
  obtain ⟨m, rfl⟩ := Int.eq_ofNat_of_zero_le m0
  dsimp only
  rw [Int.toNat_natCast]
  refine ⟨by omega, by omega, ?_⟩
  unfold lcB
  have d12 := d1.trans d2
  refine lc_rows (k := k) (m := m) d2.at (fun K kk => kk) (by omega) (fun x h2 Q d2 hQ => ?_) fun rs h3 lrs hrs d3 => ?_
  · get_elem_tactic_trivial
    exact ⟨n, k, rfl, rfl, by omega, d2, hQ⟩
  have lh3 : h3.length = h2.length := d3.1
  have lh2 : h2.length = h.length := d12.1
  rw [← lh3]
  obtain ⟨p, hp⟩ : ∃ p, p = h3.length := ⟨_, rfl⟩
  rw [← hp]
  have ep : (h3 ++ [AO.lst (rs.map rowI)])[p]? = some (.lst (rs.map rowI)) := by rw [hp]; exact get_l0
  have gA : Grown h n (h3 ++ [AO.lst (rs.map rowI)]) := ((Grown.refl hd).draw (d12.trans d3)).app _
  have lA : (h3 ++ [AO.lst (rs.map rowI)]).length = p + 1 := by rw [List.length_append, ← hp]; rfl
  generalize h3 ++ [AO.lst (rs.map rowI)] = A at ep gA lA
  refine lc_weights (p := p) (xs := rs.map rowI) gA.at (fun _ => rfl) ep (by omega) (by rw [List.length_map]; omega) (fun x h3 Q d3 hQ => ?_) fun lows hB llows blows dB => ?_
  · get_elem_tactic_trivial
    exact ⟨n, rfl, d3, hQ⟩
  rw [List.length_map] at llows
  rw [lA]
  have epB : (hB ++ [AO.lst (zsV lows)])[p]? = some (.lst (rs.map rowI)) := get_old (by rw [dB.get (by omega)]; exact ep)
  have elB : (hB ++ [AO.lst (zsV lows)])[p + 1]? = some (.lst (zsV lows)) := by rw [← lA, ← dB.1]; exact get_l0
  have gB : Grown h n (hB ++ [AO.lst (zsV lows)]) := (gA.draw dB).app _
  have lB : (hB ++ [AO.lst (zsV lows)]).length = p + 2 := by rw [List.length_append, dB.1, lA]; rfl
  generalize hB ++ [AO.lst (zsV lows)] = B at epB elB gB lB
  refine lc_weights (p := p) (xs := rs.map rowI) gB.at (fun _ => rfl) epB (by omega) (by rw [List.length_map]; omega) (fun x h3 Q d3 hQ => ?_) fun highs hC lhighs bhighs dC => ?_
  · get_elem_tactic_trivial
    exact ⟨n, rfl, d3, hQ⟩
  rw [List.length_map] at lhighs
  rw [lB]
  have epC : (hC ++ [AO.lst (zsV highs)])[p]? = some (.lst (rs.map rowI)) := get_old (by rw [dC.get (by omega)]; exact epB)
  have elC : (hC ++ [AO.lst (zsV highs)])[p + 1]? = some (.lst (zsV lows)) := get_old (by rw [dC.get (by omega)]; exact elB)
  have egC : (hC ++ [AO.lst (zsV highs)])[p + 2]? = some (.lst (zsV highs)) := by rw [← lB, ← dC.1]; exact get_l0
  have gC : Grown h n (hC ++ [AO.lst (zsV highs)]) := (gB.draw dC).app _
  have lC : (hC ++ [AO.lst (zsV highs)]).length = p + 3 := by rw [List.length_append, dC.1, lB]; rfl
  generalize hC ++ [AO.lst (zsV highs)] = C at epC elC egC gC lC
  refine ⟨n, 41, rfl, rfl, by decide, by decide, gC.at, fun v0 hD w0 w1 dD => ?_⟩
  get_elem_tactic_trivial
  refine ⟨n, rfl, dD.at, fun v1 hE hv1 dE => ?_⟩
  get_elem_tactic_trivial
  refine ⟨n, 7, rfl, rfl, by decide, by decide, dE.at, fun up hF u0 u1 dF => ?_⟩
  get_elem_tactic_trivial
  refine ⟨n, 7, rfl, rfl, by decide, by decide, dF.at, fun down hG o0 o1 dG => ?_⟩
  get_elem_tactic_trivial
  have bval : isz (v0 - 20 + v1) ≤ 65 := isz_add (n := 64) (isz_le (by decide) (by omega)) hv1
  obtain ⟨val, hval⟩ : ∃ val, val = v0 - 20 + v1 := ⟨_, rfl⟩
  rw [← hval] at bval ⊢
  have mval : ∀ c : Int, c.natAbs < 8 → isz (c * val) ≤ 70 := fun c hc => by
    have := isz_mul c val
    have : isz c ≤ 3 := isz_le (by decide) (by omega)
    omega
  have sm : ∀ c : Int, -100 ≤ c → c ≤ 100 → isz c ≤ 70 := fun c h0 h1 => isz_le (by decide) (by omega)
  refine ⟨.inl (.inl ⟨by omega, by omega⟩), ?_⟩
  have hk1 : (k : Int) - 1 = (kk : Int) := by omega
  have hnp : n < p := by omega
  refine ⟨n, _, rfl, rfl, by omega, Nat.le_trans (isz_of (n := 8) (by decide) (by omega) (by omega)) (by decide), dG.at, fun t hH t0 t1 dH => ?_⟩
  get_elem_tactic_trivial
  rw [hk1]
  have dCH := (((dD.trans dE).trans dF).trans dG).trans dH
  have gH := gC.draw dCH
  have lH : hH.length = p + 3 := by rw [dCH.1, lC]
  refine due_new (by omega) ?_
  have bx : isz (-(1 + up) * val - t) ≤ 75 := Nat.le_trans (isz_sub (n := 70) (mval _ (by omega)) (sm t (by omega) (by omega))) (by decide)
  obtain ⟨ds, hds⟩ : ∃ ds, ds = (-(1 + up) * val - t) :: (1 + up) :: List.replicate kk (0 : Int) := ⟨_, rfl⟩
  have lds : ds.length = k + 1 := by rw [hds, List.length_cons, List.length_cons, List.length_replicate, hk]
  have bds : Bnd 75 ds := by rw [hds]; exact due_bnd bx (Nat.le_trans (sm _ (by omega) (by omega)) (by decide))
  rw [← hds, lH]
  obtain ⟨D, hD⟩ : ∃ D, D = hH ++ [AO.lst [AV.int (-(1 + up) * val - t), AV.int (1 + up)], AO.lst [AV.int 0], AO.lst (List.replicate kk (AV.int 0)), AO.lst (zsV ds)] := ⟨_, rfl⟩
  rw [← hD]
  have gD : Grown h n D := by rw [hD]; exact gH.app _
  have lD : D.length = p + 7 := by rw [hD, List.length_append, lH]; rfl
  have epD : D[p]? = some (.lst (rs.map rowI)) := by rw [hD]; exact get_old (by rw [dCH.get (by omega)]; exact epC)
  have elD : D[p + 1]? = some (.lst (zsV lows)) := by rw [hD]; exact get_old (by rw [dCH.get (by omega)]; exact elC)
  have egD : D[p + 2]? = some (.lst (zsV highs)) := by rw [hD]; exact get_old (by rw [dCH.get (by omega)]; exact egC)
  have euD : D[p + 3 + 3]? = some (.lst (zsV ds)) := by rw [hD, ← lH]; exact get_l3
  refine ⟨n, p + 1, p + 3 + 3, 2, 44, lows, ds, rfl, rfl, rfl, rfl, by decide, gD.at, elD, euD, by omega, by omega, by omega, blows, by decide, by omega, by omega, bds, fun H1 lo1 ds1 dr1 elo1 eds1 llo1 lds1 blo1 bds1 lH1 sH1 => ?_⟩
  have ep1 : H1[p]? = some (.lst (rs.map rowI)) := by rw [sH1 p (by omega) (by omega) (by omega)]; exact epD
  have eg1 : H1[p + 2]? = some (.lst (zsV highs)) := by rw [sH1 (p + 2) (by omega) (by omega) (by omega)]; exact egD
  dsimp only
  refine ⟨n, p, p + 1, p + 3 + 3, k, 64, 44, rs, lo1, ds1, rfl, rfl, rfl, rfl, ⟨dr1, ep1, elo1, hnp, by omega, by omega, by omega, hrs, by omega, blo1⟩, by omega, by omega, by decide, by decide, by decide, by decide, eds1, by omega, bds1, by omega, by omega, by omega, fun a2 H2 rs2 lo2 ha2 A2 lrs2 lH2 sH2 => ?_⟩
  have eg2 : H2[p + 2]? = some (.lst (zsV highs)) := by rw [sH2 (p + 2) (by omega) (by omega) (by omega)]; exact eg1
  dsimp only
  rw [e_isLst eg2, e_insert eg2, Int.toNat_natCast, zsV_ins]
  refine ⟨trivial, by rw [zsV_len]; omega, by omega, by omega, ?_⟩
  obtain ⟨hi3, hhi3⟩ : ∃ hi3, hi3 = highs.take a2 ++ [0] ++ highs.drop a2 := ⟨_, rfl⟩
  have lhi3 : hi3.length = rs2.length := by rw [hhi3, ins_len (by omega)]; omega
  have bhi3 : Bnd 44 hi3 := by rw [hhi3]; exact bhighs.ins (by decide)
  rw [← hhi3]
  obtain ⟨H3, hH3⟩ : ∃ H3, H3 = H2.set (p + 2) (.lst (zsV hi3)) := ⟨_, rfl⟩
  rw [← hH3]
  have dr3 : DrawAt H3 n := by rw [hH3]; exact A2.dr.set (by omega)
  have ep3 : H3[p]? = some (.lst (rs2.map rowI)) := by rw [hH3]; exact get_set A2.r_ (by omega)
  have el3 : H3[p + 1]? = some (.lst (zsV lo2)) := by rw [hH3]; exact get_set A2.w_ (by omega)
  have eg3 : H3[p + 2]? = some (.lst (zsV hi3)) := by rw [hH3]; exact set_at eg2
  have lH3 : H3.length = p + 7 := by rw [hH3, List.length_set, lH2, lH1, lD]
  have g3 : Grown h n H3 := by
    refine grown_of ln (by omega) (fun i hi hin => ?_) dr3
    rw [hH3, List.getElem?_set_ne (by omega), sH2 i hin (by omega) (by omega), sH1 i hin (by omega) (by omega)]
    exact gD.get hi hin
  clear hH3 hD
  refine ⟨.inl (.inl ⟨by omega, by omega⟩), ?_⟩
  refine ⟨n, _, rfl, rfl, by omega, Nat.le_trans (isz_of (n := 8) (by decide) (by omega) (by omega)) (by decide), dr3, fun t2 hJ t20 t21 dJ => ?_⟩
  get_elem_tactic_trivial
  have gJ := g3.draw dJ
  have lJ : hJ.length = p + 7 := by rw [dJ.1, lH3]
  refine due_new (by omega) ?_
  have bx2 : isz ((1 + down) * val + t2 - 1) ≤ 75 := Nat.le_trans (isz_sub (n := 71) (isz_add (n := 70) (mval _ (by omega)) (sm t2 (by omega) (by omega))) (by decide)) (by decide)
  obtain ⟨ds4, hds4⟩ : ∃ ds4, ds4 = ((1 + down) * val + t2 - 1) :: (-(1 + down)) :: List.replicate kk (0 : Int) := ⟨_, rfl⟩
  have lds4 : ds4.length = k + 1 := by rw [hds4, List.length_cons, List.length_cons, List.length_replicate, hk]
  have bds4 : Bnd 75 ds4 := by rw [hds4]; exact due_bnd bx2 (Nat.le_trans (sm _ (by omega) (by omega)) (by decide))
  rw [← hds4, lJ]
  obtain ⟨E, hE⟩ : ∃ E, E = hJ ++ [AO.lst [AV.int ((1 + down) * val + t2 - 1), AV.int (-(1 + down))], AO.lst [AV.int 0], AO.lst (List.replicate kk (AV.int 0)), AO.lst (zsV ds4)] := ⟨_, rfl⟩
  rw [← hE]
  have gE : Grown h n E := by rw [hE]; exact gJ.app _
  have lE : E.length = p + 11 := by rw [hE, List.length_append, lJ]; rfl
  have epE : E[p]? = some (.lst (rs2.map rowI)) := by rw [hE]; exact get_old (by rw [dJ.get (by omega)]; exact ep3)
  have elE : E[p + 1]? = some (.lst (zsV lo2)) := by rw [hE]; exact get_old (by rw [dJ.get (by omega)]; exact el3)
  have egE : E[p + 2]? = some (.lst (zsV hi3)) := by rw [hE]; exact get_old (by rw [dJ.get (by omega)]; exact eg3)
  have euE : E[p + 7 + 3]? = some (.lst (zsV ds4)) := by rw [hE, ← lJ]; exact get_l3
  have lrs3 := A2.le
  refine ⟨n, p + 2, p + 7 + 3, 2, 44, hi3, ds4, rfl, rfl, rfl, rfl, by decide, gE.at, egE, euE, by omega, by omega, by omega, bhi3, by decide, by omega, by omega, bds4, fun H5 hi5 ds5 dr5 ehi5 eds5 lhi5 lds5 bhi5 bds5 lH5 sH5 => ?_⟩
  have ep5 : H5[p]? = some (.lst (rs2.map rowI)) := by rw [sH5 p (by omega) (by omega) (by omega)]; exact epE
  have el5 : H5[p + 1]? = some (.lst (zsV lo2)) := by rw [sH5 (p + 1) (by omega) (by omega) (by omega)]; exact elE
  dsimp only
  refine ⟨n, p, p + 2, p + 7 + 3, k, 64 + 44 + 20, 44, rs2, hi5, ds5, rfl, rfl, rfl, rfl, ⟨dr5, ep5, ehi5, hnp, by omega, by omega, by omega, A2.row, by omega, bhi5⟩, by omega, by omega, by decide, by decide, by decide, by decide, eds5, by omega, bds5, by omega, by omega, by omega, fun a6 H6 rs6 hi6 ha6 A6 lrs6 lH6 sH6 => ?_⟩
  have el6 : H6[p + 1]? = some (.lst (zsV lo2)) := by rw [sH6 (p + 1) (by omega) (by omega) (by omega)]; exact el5
  dsimp only
  rw [e_isLst el6, e_insert el6, Int.toNat_natCast, zsV_ins]
  have lA2 := A2.len
  refine ⟨trivial, by rw [zsV_len]; omega, by omega, by omega, ?_⟩
  obtain ⟨lo7, hlo7⟩ : ∃ lo7, lo7 = lo2.take a6 ++ [0] ++ lo2.drop a6 := ⟨_, rfl⟩
  have llo7 : lo7.length = rs6.length := by rw [hlo7, ins_len (by omega)]; omega
  have blo7 : Bnd 128 lo7 := by rw [hlo7]; exact A2.bnd.ins (by decide)
  rw [← hlo7]
  have er7 : (H6.set (p + 1) (.lst (zsV lo7)))[p]? = some (.lst (rs6.map rowI)) := get_set A6.r_ (by omega)
  have el7 : (H6.set (p + 1) (.lst (zsV lo7)))[p + 1]? = some (.lst (zsV lo7)) := set_at el6
  have eg7 : (H6.set (p + 1) (.lst (zsV lo7)))[p + 2]? = some (.lst (zsV hi6)) := get_set A6.w_ (by omega)
  rw [e_tuple_lst er7, e_tuple_lst el7, e_tuple_lst eg7]
  have g7 : Grown h n (H6.set (p + 1) (.lst (zsV lo7))) := by
    refine grown_of ln (by rw [List.length_set]; omega) (fun i hi hin => ?_) (A6.dr.set (by omega))
    rw [List.getElem?_set_ne (by omega), sH6 i hin (by omega) (by omega), sH5 i hin (by omega) (by omega)]
    exact gE.get hi hin
  have C : Case k rs6 (.tup [.str "round", .tup (zsV lo7), .tup (zsV hi6)]) := ⟨⟨fun z => by rw [z] at lrs6; simp at lrs6, by omega, fun r hr => (A6.row r hr).mono (by decide)⟩, by omega, by omega, .inr ⟨lo7, hi6, rfl, llo7, A6.len, blo7.mono (by decide), A6.bnd.mono (by decide)⟩⟩
  exact ret_grown c1 g7 (clB_case C) fun h8 d8 => q k rs6 _ h8 C d8
end AL

/-! P19d: proofs judged: changed proofs, the law, pure proofs. -/
namespace AL
open PySem
local macro_rules | `(tactic| get_elem_tactic_trivial) => `(tactic| simp -implicitDefEqProofs only [e_tru_non, e_tru_bl, e_tru_int, e_tru_tup, e_tru_rol, e_bl_bl, e_add_int, e_add_ib, e_add_str, e_add_tup, e_sub_int, e_mul_int, e_fdiv_int, e_mod_int, e_pow_int, e_shl_int, e_neg_int, e_iadd_int, e_iadd_str, e_isub_int, e_aeq_int, e_aeq_str, e_aeq_bl, e_aeq_non, e_aeq_tup, e_aeqs_nil, e_aeqs_cons, e_aeqs_nc, e_aeqs_cn, e_plain_int, e_plain_bl, e_plain_non, e_plain_str, e_plain_tup, e_eq, e_ne, e_lt_int, e_lt_str, e_le_int, e_gt_int, e_ge_int, e_isN, e_notN, e_isNon_int, e_isNon_str, e_isNon_tup, e_isNon_non, e_isNon_ref, e_isNon_bl, e_ix0, e_ix1, e_ix2, e_ix3, e_ix4, e_len_tup, e_len_rol, e_len_str, e_abs, e_int_int, e_int_bl, e_str_int, e_gcd, e_tuple_tup, e_list_tup, e_inst_ii, e_inst_ib, e_inst_tt, e_inst_it, e_inst_ti, e_inst_tb, e_inst_bb, e_inst_bi, e_inst_bt, e_inst_ss, e_inst_st, e_inst_si, e_inst_nt, e_gTup, e_gCons, e_gNil, e_gNms0, e_gNms1, e_gName, atA_0, atA_1, atA_2, atA_3, atA_4, get_l0, get_l1, get_l2, get_l3, set_l0, set_l1, set_l2, app_l, len_l0, len_l1, len_l2, x_c, x_var, x_op, x_un, x_nil, x_cons, x_tup, x_lst, x_call, x_cb, x_mt, x_tru, x_cmp, x_and, x_or, x_not, x_andV, x_orV, x_notV, x_if, x_chain, x_next, x_seq, x_brk, x_cont, x_drop, x_ret, x_retN, x_ifS, x_asg, x_gSub, x_par, x_aug, x_augS, x_rt, x_nx, x_yes, e_max2, e_min2, x_slice, x_oNone, x_oSome, e_sl_tup, e_sl_rol, gv, sv, wipeA, lenLe, true_and, and_true, if_true, if_false, ite_true, ite_false, beq_iff_eq, decide_eq_true_eq, Bool.false_eq_true, Bool.true_eq_false, not_false_eq_true, Bool.not_eq_true', decide_eq_false_iff_not, Bool.not_true, Bool.not_false, List.isEmpty_cons, List.isEmpty_nil, List.cons_append, List.nil_append, List.length_cons, List.length_nil])
theorem wv_ints {h : AH} {zs : List Int} (hl : zs.length ≤ 70) (hb : Bnd 300 zs) : WV h (.tup (zsV zs)) := ⟨by rw [zsV_len]; exact hl, fun x hx => by
  obtain ⟨z, hz, rfl⟩ := List.mem_map.mp hx
  exact decide_eq_true (hb z hz)⟩
/-- a list of leaves, put into a tuple -/
structure LB (xs : List AV) : Prop where
  le : xs.length ≤ 60
  lf : ∀ x ∈ xs, leafB 300 x = true
theorem LB.wv {h : AH} {xs : List AV} (l : LB xs) : WV h (.tup xs) := ⟨by have := l.le; omega, l.lf⟩
theorem LB.ints {zs : List Int} (hl : zs.length ≤ 60) (hb : Bnd 300 zs) : LB (zsV zs) := ⟨by rw [zsV_len]; exact hl, fun x hx => by
  obtain ⟨z, hz, rfl⟩ := List.mem_map.mp hx
  exact decide_eq_true (hb z hz)⟩
theorem LB.set {xs : List AV} (l : LB xs) {j : Nat} {x : AV} (hx : leafB 300 x = true) : LB (xs.set j x) := ⟨by rw [List.length_set]; exact l.le, fun y hy => by
  rcases List.mem_or_eq_of_mem_set hy with hy | rfl
  · exact l.lf y hy
  · exact hx⟩
theorem leafI {z : Int} (h : isz z ≤ 300) : leafB 300 (.int z) = true := decide_eq_true h
theorem pure_law_bent_weights (x y : AV) (h : AH) (R : AK) (c1 : clH h) (c2 : clBs h.length [x, y] = true) (q : sp_law_bent_weights [x, y] h R (fun _ _ => False)) :
    b_law_bent_weights (ends (retG h R)) [some x, some y, none, none, none, none, none, none] h := by
  obtain ⟨n, ws, rfl, rfl, hne, hl, hb, hd, q⟩ := q
  have ln := hd.lt
  have hpos : 0 < ws.length := by
    have : ws.length ≠ 0 := fun z => hne (List.eq_nil_of_length_eq_zero z)
    omega
  have l8 : ∀ i : Int, 0 < i → i < 256 → isz i ≤ 9000 := fun i h0 h1 => Nat.le_trans (isz_of (n := 8) (by decide) (by omega) h1) (by decide)
  unfold b_law_bent_weights
  get_elem_tactic_trivial
  obtain ⟨p, hp⟩ : ∃ p, p = h.length := ⟨_, rfl⟩
  have e0 : (h ++ [AO.lst (zsV ws)])[p]? = some (.lst (zsV ws)) := by rw [hp]; exact get_l0
  have g0 : Grown h n (h ++ [AO.lst (zsV ws)]) := (Grown.refl hd).app _
  rw [← hp, e_len_lst e0]
  rw [zsV_len]
  refine ⟨n, _, rfl, rfl, by omega, l8 _ (by omega) (by omega), g0.at, fun a h1 a0 a1 d1 => ?_⟩
  obtain ⟨a, rfl⟩ := Int.eq_ofNat_of_zero_le a0
  have e1 : h1[p]? = some (.lst (zsV ws)) := by rw [d1.get (by omega)]; exact e0
  rw [e_len_lst e1]
  rw [zsV_len]
  refine ⟨n, _, rfl, rfl, by omega, l8 _ (by omega) (by omega), d1.at, fun b h2 b0 b1 d2 => ?_⟩
  obtain ⟨b, rfl⟩ := Int.eq_ofNat_of_zero_le b0
  refine ⟨n, 10, rfl, rfl, by decide, by decide, d2.at, fun way F y0 y1 d3 => ?_⟩
  get_elem_tactic_trivial
  have gF := ((g0.draw d1).draw d2).draw d3
  have eF : F[p]? = some (.lst (zsV ws)) := by rw [((d1.trans d2).trans d3).get (by omega)]; exact e0
  have ha : a < ws.length := by omega
  have hbb : b < ws.length := by omega
  have ea := zsV_at (List.getElem?_eq_getElem ha)
  have eb := zsV_at (List.getElem?_eq_getElem hbb)
  have ba := hb _ (List.getElem_mem ha)
  have bb := hb _ (List.getElem_mem hbb)
  generalize ws[a] = wa at ea ba
  generalize ws[b] = wb at eb bb
  have L0 : LB (zsV ws) := .ints (by omega) (hb.mono (by decide))
  have lz : (zsV ws).length = ws.length := zsV_len ws
  -- the end: a tuple of what stands at a list
  have r1 : ∀ (t : Nat) G xs (x3 x4 x5 x6 x7 : Option AV), Grown h n G → G[t]? = some (.lst xs) → LB xs → b_law_bent_weights_r1 (ends (retG h R)) [some (.ref n), some (.tup (zsV ws)), some (.ref t), x3, x4, x5, x6, x7] G := fun t G xs x3 x4 x5 x6 x7 g e l => by
    unfold b_law_bent_weights_r1
    get_elem_tactic_trivial
    rw [e_tuple_lst e]
    exact retG_of (q _ G l.wv g)
  have put : ∀ xs, LB xs → Grown h n (F.set p (.lst xs)) ∧ (F.set p (.lst xs))[p]? = some (.lst xs) := fun xs _ => ⟨gF.set (by omega), set_at eF⟩
  by_cases w0 : way = 0
  · rw [if_pos w0, e_ix_lst eF ea]
    get_elem_tactic_trivial
    rw [e_set_lst eF]
    have L := L0.set (j := a) (x := .int (wa + 1)) (leafI (Nat.le_trans (isz_add ba (isz_le (by decide) (by decide))) (by decide)))
    exact ⟨by rw [lz]; exact ha, r1 p _ _ _ _ _ _ _ (put _ L).1 (put _ L).2 L⟩
  rw [if_neg w0]
  by_cases w1 : way = 1
  · rw [if_pos w1, e_ix_lst eF ea]
    get_elem_tactic_trivial
    rw [e_set_lst eF]
    have L := L0.set (j := a) (x := .int (wa - 1)) (leafI (Nat.le_trans (isz_sub ba (isz_le (by decide) (by decide))) (by decide)))
    exact ⟨by rw [lz]; exact ha, r1 p _ _ _ _ _ _ _ (put _ L).1 (put _ L).2 L⟩
  rw [if_neg w1]
  by_cases w2 : way = 2
  · rw [if_pos w2, e_ix_lst eF eb, e_ix_lst eF ea]
    rw [e_set_lst eF]
    have La := L0.set (j := a) (x := .int wb) (leafI (Nat.le_trans bb (by decide)))
    have L := La.set (j := b) (x := .int wa) (leafI (Nat.le_trans ba (by decide)))
    refine ⟨by rw [lz]; exact ha, ?_⟩
    rw [e_set_lst (set_at eF)]
    exact ⟨by rw [List.length_set, lz]; exact hbb, r1 p _ _ _ _ _ _ _ ((put _ La).1.set (by omega)) (set_at (set_at eF)) L⟩
  rw [if_neg w2]
  by_cases w3 : way = 3
  · rw [if_pos w3, e_isLst eF, e_append eF]
    refine ⟨trivial, by rw [lz]; omega, ?_⟩
    have L : LB (zsV ws ++ [.int 0]) := ⟨by rw [List.length_append, lz]; show _ + 1 ≤ _; omega, fun x hx => by
      rcases List.mem_append.mp hx with hx | hx
      · exact L0.lf x hx
      · rw [List.mem_singleton.mp hx]
        rfl⟩
    exact r1 p _ _ _ _ _ _ _ (put _ L).1 (put _ L).2 L
  rw [if_neg w3]
  by_cases w4 : way = 4
  · rw [if_pos w4, e_isLst eF, e_popI eF (show (zsV ws)[a]? = _ from ea)]
    have L : LB ((zsV ws).eraseIdx a) := ⟨by have := List.length_eraseIdx_le (zsV ws) a; omega, fun x hx => L0.lf x (List.mem_of_mem_eraseIdx hx)⟩
    exact ⟨trivial, by omega, r1 p _ _ _ _ _ _ _ (put _ L).1 (put _ L).2 L⟩
  rw [if_neg w4]
  have mul : ∀ z h3, isz z ≤ 44 → Drawn F n h3 → lcT (iSeqT (varT 2)) (gNameT 7) yesT (opT mulR (varT 7) (varT 6)) [7] [some (.ref n), some (.tup (zsV ws)), some (.ref p), some (.int (a : Int)), some (.int (b : Int)), some (.int way), some (.int z), none] h3 fun x_1 h1 =>
      b_law_bent_weights_r1 (ends (retG h R)) [some (.ref n), some (.tup (zsV ws)), some x_1, some (.int (a : Int)), some (.int (b : Int)), some (.int way), some (.int z), none] h1 := fun z h3 hz d => by
    have e3 : h3[p]? = some (.lst (zsV ws)) := by rw [d.get (by omega)]; exact eF
    refine lcT_seq (x := .ref p) (xs := zsV ws) (ys := zsV (ws.map (· * z))) (fun _ => rfl) (seq_ref e3) (by rw [zsV_len, zsV_len, List.length_map]) (by rw [lz]; omega) (fun i u y acc Q hu hy hQ => ?_) ?_
    · obtain ⟨v, hv, rfl⟩ := map_get hu
      obtain ⟨w, hw, rfl⟩ := map_get hy
      rw [List.getElem?_map, hv] at hw
      cases hw
      get_elem_tactic_trivial
      exact ⟨mulOk_bits (hb v (get_mem hv)) hz (by decide), hQ⟩
    · refine r1 _ _ _ _ _ _ _ _ ((gF.draw d).app _) get_l0 (.ints (by rw [List.length_map]; omega) fun u hu => ?_)
      obtain ⟨v, hv, rfl⟩ := List.mem_map.mp hu
      have := isz_mul v z
      have := hb v hv
      omega
  by_cases w5 : way = 5
  · rw [if_pos w5]
    exact ⟨n, rfl, gF.at, fun z h3 hz h0 d => mul z h3 hz d⟩
  rw [if_neg w5]
  by_cases w9 : way = 9
  · rw [if_pos w9]
    exact ⟨n, rfl, gF.at, fun z h3 hz h0 d => mul z h3 hz d⟩
  rw [if_neg w9]
  have nF := gF.at.lt
  by_cases w6 : way = 6
  · rw [if_pos w6]
    refine ⟨n, _, rfl, seq_ref get_l0, by simp, by simp, fun z => ?_, gF.at.app _, fun v G hv d => ?_⟩
    · have := AV.ref.inj z
      omega
    · have lf : leafB 300 v = true := by
        simp only [List.mem_cons, List.not_mem_nil, or_false] at hv
        rcases hv with rfl | rfl | rfl | rfl | rfl | rfl <;> rfl
      have eG : G[p]? = some (.lst (zsV ws)) := by rw [d.get (by omega)]; exact get_old eF
      dsimp only
      rw [e_set_lst eG]
      have L := L0.set (j := a) lf
      exact ⟨by rw [lz]; exact ha, r1 p _ _ _ _ _ _ _ (((gF.app _).draw d).set (by omega)) (set_at eG) L⟩
  rw [if_neg w6]
  by_cases w7 : way = 7
  · rw [if_pos w7, e_ix_lst eF ea]
    get_elem_tactic_trivial
    rw [e_set_lst eF]
    have L := L0.set (j := a) (x := .int (-wa)) (leafI (by rw [isz_neg]; exact Nat.le_trans ba (by decide)))
    exact ⟨by rw [lz]; exact ha, r1 p _ _ _ _ _ _ _ (put _ L).1 (put _ L).2 L⟩
  rw [if_neg w7]
  refine ⟨n, _, rfl, seq_ref get_l0, by simp, by simp, fun z => ?_, gF.at.app _, fun v G hv d => ?_⟩
  · have := AV.ref.inj z
    omega
  · refine retG_of (q v G ?_ ((gF.app _).draw d))
    have eG : G[p]? = some (.lst (zsV ws)) := by rw [d.get (by omega)]; exact get_old eF
    simp only [List.mem_cons, List.not_mem_nil, or_false] at hv
    rcases hv with rfl | rfl | rfl | rfl | rfl
    · exact ⟨_, eG⟩
    · exact ⟨_, eG⟩
    · trivial
    · trivial
    · trivial
theorem pv_mk {h : AH} {x : AV} {xs : List AV} (hl : xs.length ≤ 60) (hx : plainN 30 x = true) (h0 : WV h x) (hw : ∀ y ∈ xs, WV h y) : PV h (.tup (x :: xs)) := ⟨by rw [List.length_cons]; omega, fun y hy => by
  rcases List.mem_cons.mp hy with rfl | hy
  · exact h0
  · exact hw y hy, fun y hy => by
  cases hy
  exact hx⟩
theorem plain_zs (n : Nat) (zs : List Int) : plainN (n + 1) (.tup (zsV zs)) = true := by
  rw [e_plain_tup, List.all_eq_true]
  intro x hx
  obtain ⟨z, _, rfl⟩ := List.mem_map.mp hx
  exact e_plain_int
/-- a proof as a word and rows of weights -/
structure Pf (s : Str) (its : List AV) : Prop where
  st : s.cps.all (· < 0x110000) = true
  ne : its ≠ []
  le : its.length ≤ 2
  it : ∀ x ∈ its, ∃ w, x = .tup (zsV w) ∧ w ≠ [] ∧ w.length ≤ 50 ∧ Bnd 200 w
theorem Case.pf {k : Nat} {rs : List (List Int)} {p : AV} (c : Case k rs p) : ∃ s its, p = .tup (.str s :: its) ∧ Pf s its := by
  have hne : rs.length ≠ 0 := fun z => c.1.ne (List.eq_nil_of_length_eq_zero z)
  have ne : ∀ {w : List Int}, w.length = rs.length → w ≠ [] := fun e z => by
    rw [z] at e
    exact hne e.symm
  rcases c.2.2.2 with ⟨a, rfl, h1, h2⟩ | ⟨a, b, rfl, h1, h2, h3, h4⟩
  · refine ⟨"add", [.tup (zsV a)], rfl, by decide +kernel, by simp, by simp, fun x hx => ?_⟩
    rw [List.mem_singleton.mp hx]
    exact ⟨a, rfl, ne h1, by rw [h1]; exact c.2.2.1, h2⟩
  · refine ⟨"round", [.tup (zsV a), .tup (zsV b)], rfl, by decide +kernel, by simp, by simp, fun x hx => ?_⟩
    simp only [List.mem_cons, List.not_mem_nil, or_false] at hx
    rcases hx with rfl | rfl
    · exact ⟨a, rfl, ne h1, by rw [h1]; exact c.2.2.1, h3⟩
    · exact ⟨b, rfl, ne h2, by rw [h2]; exact c.2.2.1, h4⟩
theorem Pf.wv {s : Str} {its : List AV} (P : Pf s its) {h : AH} {x : AV} (hx : x ∈ its) : WV h x := by
  obtain ⟨w, rfl, _, h1, h2⟩ := P.it x hx
  exact wv_ints (by omega) (h2.mono (by decide))
theorem Pf.plain {s : Str} {its : List AV} (P : Pf s its) : plainN 30 (.tup (.str s :: its)) = true := by
  rw [e_plain_tup, List.all_eq_true]
  intro x hx
  rcases List.mem_cons.mp hx with rfl | hx
  · rw [e_plain_str]
    exact P.st
  · obtain ⟨w, rfl, _⟩ := P.it x hx
    exact plain_zs 28 w
theorem pure_law_bent_proof (x y : AV) (h : AH) (R : AK) (c1 : clH h) (c2 : clBs h.length [x, y] = true) (q : sp_law_bent_proof [x, y] h R (fun _ _ => False)) :
    b_law_bent_proof (ends (retG h R)) [some x, some y, none, none, none] h := by
  obtain ⟨n, k, rs, rfl, c, hd, q⟩ := q
  obtain ⟨s, its, rfl, P⟩ := c.pf
  have ln := hd.lt
  have lits := P.le
  have lpos : 0 < its.length := by
    have : its.length ≠ 0 := fun z => P.ne (List.eq_nil_of_length_eq_zero z)
    omega
  have pst : plainN 30 (.str s) = true := by rw [e_plain_str]; exact P.st
  unfold b_law_bent_proof
  get_elem_tactic_trivial
  refine ⟨n, 14, rfl, rfl, by decide, by decide, hd, fun way h1 y0 y1 d1 => ?_⟩
  get_elem_tactic_trivial
  refine ⟨n, _, rfl, rfl, by omega, Nat.le_trans (isz_of (n := 8) (by decide) (by omega) (by omega)) (by decide), d1.at, fun j F j0 j1 d2 => ?_⟩
  obtain ⟨j, rfl⟩ := Int.eq_ofNat_of_zero_le j0
  have hj : j < its.length := by omega
  have gF := (Grown.refl hd).draw (d1.trans d2)
  have ej : (1 + (j : Int)) = ((j + 1 : Nat) : Int) := by omega
  obtain ⟨w, ew, wne, wl, wb⟩ := P.it its[j] (List.getElem_mem hj)
  have eat : atA (AV.str s :: its) ((j + 1 : Nat) : Int) = some (.tup (zsV w)) := by
    show (AV.str s :: its)[j + 1]? = _
    rw [List.getElem?_cons_succ, List.getElem?_eq_getElem hj, ew]
  have cut1 : cutA (AV.str s :: its) none (some ((j + 1 : Nat) : Int)) = .str s :: its.take j := cutA_to _ (j + 1)
  have cut2 : cutA (AV.str s :: its) (some (((j + 1 : Nat) : Int) + 1)) none = its.drop (j + 1) := by
    rw [show (((j + 1 : Nat) : Int) + 1) = ((j + 2 : Nat) : Int) by omega, cutA_from]
    rfl
  have cut3 : cutA (AV.str s :: its) (some 1) none = its := cutA_from _ 1
  have wvw : ∀ h, WV h (.tup (zsV w)) := fun h => wv_ints (by omega) (wb.mono (by decide))
  have ltk : (its.take j).length ≤ 2 := by rw [List.length_take]; omega
  have ldr : (its.drop (j + 1)).length ≤ 2 := by rw [List.length_drop]; omega
  rw [e_add_int, ej]
  get_elem_tactic_trivial
  by_cases w8 : way < 8
  · rw [if_pos w8, cut1, e_ix_tup eat]
    get_elem_tactic_trivial
    refine ⟨n, w, rfl, rfl, wne, wl, wb, gF.at, fun v G hv gG => ?_⟩
    get_elem_tactic_trivial
    rw [cut2]
    refine ⟨by omega, by rw [List.length_append, List.length_cons, List.length_nil]; omega, ?_⟩
    have gH : Grown h n G := by
      obtain ⟨G1, r, rfl, d3⟩ := gG
      exact (gF.draw d3).app r
    refine retG_of (q _ G ?_ gH)
    refine pv_mk (by rw [List.length_append, List.length_append]; show _ + 1 + _ ≤ _; omega) pst trivial fun y hy => ?_
    rcases List.mem_append.mp hy with hy | hy
    · rcases List.mem_append.mp hy with hy | hy
      · exact P.wv (List.mem_of_mem_take hy)
      · rw [List.mem_singleton.mp hy]
        exact hv
    · exact P.wv (List.mem_of_mem_drop hy)
  rw [if_neg w8]
  have nF := gF.at.lt
  by_cases e8 : way = 8
  · rw [if_pos e8]
    refine ⟨n, _, rfl, seq_ref get_l0, by simp, by simp, fun z => ?_, gF.at.app _, fun v G hv d => ?_⟩
    · have := AV.ref.inj z
      omega
    · get_elem_tactic_trivial
      rw [cut3]
      have pv : plainN 30 v = true ∧ ∀ h, WV h v := by
        simp only [List.mem_cons, List.not_mem_nil, or_false] at hv
        rcases hv with rfl | rfl | rfl | rfl | rfl | rfl | rfl | rfl
        · exact ⟨by decide +kernel, fun _ => trivial⟩
        · exact ⟨by decide +kernel, fun _ => trivial⟩
        · exact ⟨by decide +kernel, fun _ => trivial⟩
        · exact ⟨by decide +kernel, fun _ => trivial⟩
        · exact ⟨by decide +kernel, fun _ => trivial⟩
        · exact ⟨by decide +kernel, fun _ => trivial⟩
        · exact ⟨by decide +kernel, fun _ => trivial⟩
        · exact ⟨by decide +kernel, fun _ => ⟨by decide, fun x hx => by rw [List.mem_singleton.mp hx]; rfl⟩⟩
      refine ⟨by omega, retG_of (q _ G (pv_mk (by omega) pv.1 (pv.2 _) fun y hy => P.wv hy) ((gF.app _).draw d))⟩
  rw [if_neg e8]
  by_cases e9 : way = 9
  · rw [if_pos e9, e_ix_tup eat]
    refine ⟨by omega, retG_of (q _ F ?_ gF)⟩
    refine pv_mk (by rw [List.length_append]; show _ + 1 ≤ _; omega) pst trivial fun y hy => ?_
    rcases List.mem_append.mp hy with hy | hy
    · exact P.wv hy
    · rw [List.mem_singleton.mp hy]
      exact wvw _
  rw [if_neg e9]
  by_cases e10 : way = 10
  · rw [if_pos e10, cut1, cut2]
    refine ⟨by rw [List.length_cons]; omega, retG_of (q _ F ?_ gF)⟩
    refine pv_mk (by show (its.take j ++ its.drop (j + 1)).length ≤ 60; rw [List.length_append]; omega) pst trivial fun y hy => ?_
    rcases List.mem_append.mp (show y ∈ its.take j ++ its.drop (j + 1) from hy) with hy | hy
    · exact P.wv (List.mem_of_mem_take hy)
    · exact P.wv (List.mem_of_mem_drop hy)
  rw [if_neg e10]
  by_cases e11 : way = 11
  · rw [if_pos e11]
    refine lcT_map (h1 := F) (items := zrange 1 its.length) (ys := (List.range its.length).map fun i => its.getD (its.length - 1 - i) .non) (guard := fun _ => True) (fun K kk => ?_) (by rw [zr_len]; simp) (by rw [zr_len]; omega) (fun _ => trivial) (fun i x y acc Q hx hy hQ => ?_) ?_
    · unfold iRng2T
      get_elem_tactic_trivial
      rw [show (((its.length + 1 : Nat) : Int) - 1).toNat = its.length by omega]
      exact ⟨⟨by omega, by omega, by omega, by omega⟩, kk⟩
    · obtain ⟨hi, rfl⟩ := zr_get hx
      obtain ⟨i', hi', rfl⟩ := map_get hy
      rw [List.getElem?_range hi] at hi'
      cases hi'
      get_elem_tactic_trivial
      have hlt : its.length - 1 - i < its.length := by omega
      have e : (((its.length + 1 : Nat) : Int) - (1 + (i : Int))) = ((its.length - 1 - i + 1 : Nat) : Int) := by omega
      rw [e, e_ix_tup (v := its.getD (its.length - 1 - i) .non) (by
        show (AV.str s :: its)[its.length - 1 - i + 1]? = _
        rw [List.getElem?_cons_succ, List.getD_eq_getElem?_getD, List.getElem?_eq_getElem hlt]
        rfl)]
      exact hQ
    · rw [e_tuple_lst get_l0]
      get_elem_tactic_trivial
      refine ⟨by simp; omega, retG_of (q _ _ (pv_mk (by simp; omega) pst trivial fun y hy => ?_) (gF.app _))⟩
      obtain ⟨i, hi, rfl⟩ := List.mem_map.mp hy
      have hi := List.mem_range.mp hi
      have hlt : its.length - 1 - i < its.length := by omega
      refine P.wv ?_
      rw [List.getD_eq_getElem?_getD, List.getElem?_eq_getElem hlt]
      exact List.getElem_mem hlt
  rw [if_neg e11]
  have e1 : atA (AV.str s :: its) 1 = some its[0] := by
    show (AV.str s :: its)[1]? = _
    rw [List.getElem?_cons_succ, List.getElem?_eq_getElem lpos]
  obtain ⟨w1, ew1, wne1, wl1, wb1⟩ := P.it its[0] (List.getElem_mem lpos)
  rw [ew1] at e1
  have wv1 : ∀ h, WV h (.tup (zsV w1)) := fun h => wv_ints (by omega) (wb1.mono (by decide))
  by_cases e12 : way = 12
  · rw [if_pos e12]
    unfold b_law_bent_proof_a1
    get_elem_tactic_trivial
    rw [e_ix_tup e1]
    get_elem_tactic_trivial
    refine ⟨n, _, rfl, seq_ref get_l1, by simp, by simp, fun z => ?_, gF.at.app _, fun v G hv d => ?_⟩
    · have := AV.ref.inj z
      omega
    · have gG : Grown h n G := (gF.app _).draw d
      have eG : G[F.length]? = some (.lst (.str s :: its)) := by rw [d.get (by omega)]; exact get_l0
      refine retG_of (q v G ?_ gG)
      simp only [List.mem_cons, List.not_mem_nil, or_false] at hv
      rcases hv with rfl | rfl | rfl | rfl | rfl | rfl | rfl | rfl | rfl
      · trivial
      · trivial
      · trivial
      · exact ⟨by decide, by simp, by simp⟩
      · exact ⟨_, eG⟩
      · exact pv_mk (by decide) (by decide +kernel) trivial (by simp)
      · exact pv_mk (by decide) (by decide +kernel) trivial (by simp)
      · refine pv_mk (by decide) P.plain ⟨by rw [List.length_cons]; omega, fun x hx => ?_⟩ (by simp)
        rcases List.mem_cons.mp hx with rfl | hx
        · rfl
        · obtain ⟨w, rfl, _⟩ := P.it x hx
          rfl
      · refine ⟨by rw [zsV_len]; omega, fun x hx => ?_, fun x hx => ?_⟩
        · obtain ⟨z, _, rfl⟩ := List.mem_map.mp hx
          trivial
        · obtain ⟨z, _, rfl⟩ := List.mem_map.mp (List.mem_of_mem_head? hx)
          exact e_plain_int
  rw [if_neg e12]
  have el : atA (AV.str s :: its) (-1) = some its[its.length - 1] := atA_m1 (by
    rw [List.length_cons, Nat.add_sub_cancel]
    rw [List.getElem?_cons, if_neg (by omega)]
    exact List.getElem?_eq_getElem (by omega))
  obtain ⟨w2, ew2, wne2, wl2, wb2⟩ := P.it its[its.length - 1] (List.getElem_mem (by omega))
  rw [ew2] at el
  have wv2 : ∀ h, WV h (.tup (zsV w2)) := fun h => wv_ints (by omega) (wb2.mono (by decide))
  rw [e_ix_tup eat, e_ix_tup eat, e_ix_tup eat, e_ix_tup el, e_ix_tup e1]
  refine ⟨n, _, rfl, seq_ref get_l0, by simp, by simp, fun z => ?_, gF.at.app _, fun v G hv d => ?_⟩
  · have := AV.ref.inj z
    omega
  · refine retG_of (q v G ?_ ((gF.app _).draw d))
    simp only [List.mem_cons, List.not_mem_nil, or_false] at hv
    rcases hv with rfl | rfl | rfl
    · exact pv_mk (by simp) (by decide +kernel) trivial fun y hy => by
        simp only [List.mem_cons, List.not_mem_nil, or_false] at hy
        rcases hy with rfl | rfl <;> exact wvw _
    · exact pv_mk (by simp) (by decide +kernel) trivial fun y hy => by
        rw [List.mem_singleton.mp hy]
        exact wvw _
    · exact pv_mk (by simp) (by decide +kernel) trivial fun y hy => by
        simp only [List.mem_cons, List.not_mem_nil, or_false] at hy
        rcases hy with rfl | rfl
        · exact wv2 _
        · exact wv1 _
end AL

/-! P19e: proofs judged: changed rows, the law, pure proofs. -/
namespace AL
open PySem
local macro_rules | `(tactic| get_elem_tactic_trivial) => `(tactic| simp -implicitDefEqProofs only [e_tru_non, e_tru_bl, e_tru_int, e_tru_tup, e_tru_rol, e_bl_bl, e_add_int, e_add_ib, e_add_str, e_add_tup, e_sub_int, e_mul_int, e_fdiv_int, e_mod_int, e_pow_int, e_shl_int, e_neg_int, e_iadd_int, e_iadd_str, e_isub_int, e_aeq_int, e_aeq_str, e_aeq_bl, e_aeq_non, e_aeq_tup, e_aeqs_nil, e_aeqs_cons, e_aeqs_nc, e_aeqs_cn, e_plain_int, e_plain_bl, e_plain_non, e_plain_str, e_plain_tup, e_eq, e_ne, e_lt_int, e_lt_str, e_le_int, e_gt_int, e_ge_int, e_isN, e_notN, e_isNon_int, e_isNon_str, e_isNon_tup, e_isNon_non, e_isNon_ref, e_isNon_bl, e_ix0, e_ix1, e_ix2, e_ix3, e_ix4, e_len_tup, e_len_rol, e_len_str, e_abs, e_int_int, e_int_bl, e_str_int, e_gcd, e_tuple_tup, e_list_tup, e_inst_ii, e_inst_ib, e_inst_tt, e_inst_it, e_inst_ti, e_inst_tb, e_inst_bb, e_inst_bi, e_inst_bt, e_inst_ss, e_inst_st, e_inst_si, e_inst_nt, e_gTup, e_gCons, e_gNil, e_gNms0, e_gNms1, e_gName, atA_0, atA_1, atA_2, atA_3, atA_4, get_l0, get_l1, get_l2, get_l3, set_l0, set_l1, set_l2, app_l, len_l0, len_l1, len_l2, x_c, x_var, x_op, x_un, x_nil, x_cons, x_tup, x_lst, x_call, x_cb, x_mt, x_tru, x_cmp, x_and, x_or, x_not, x_andV, x_orV, x_notV, x_if, x_chain, x_next, x_seq, x_brk, x_cont, x_drop, x_ret, x_retN, x_ifS, x_asg, x_gSub, x_par, x_aug, x_augS, x_rt, x_nx, x_yes, e_max2, e_min2, x_slice, x_oNone, x_oSome, e_sl_tup, e_sl_rol, gv, sv, wipeA, lenLe, true_and, and_true, if_true, if_false, ite_true, ite_false, beq_iff_eq, decide_eq_true_eq, Bool.false_eq_true, Bool.true_eq_false, not_false_eq_true, Bool.not_eq_true', decide_eq_false_iff_not, Bool.not_true, Bool.not_false, List.isEmpty_cons, List.isEmpty_nil, List.cons_append, List.nil_append, List.length_cons, List.length_nil])
theorem pure_law_bent_rows (x y : AV) (h : AH) (R : AK) (c1 : clH h) (c2 : clBs h.length [x, y] = true) (q : sp_law_bent_rows [x, y] h R (fun _ _ => False)) :
    b_law_bent_rows (ends (retG h R)) [some x, some y, none, none, none, none, none, none] h := by
  obtain ⟨n, k, rs, rfl, rfl, o, hk, h50, hd, q⟩ := q
  have ln := hd.lt
  obtain ⟨r0, rest, hrs⟩ := o.cons
  have hpos : 0 < rs.length := by rw [hrs]; simp
  have l8 : ∀ i : Int, 0 < i → i < 256 → isz i ≤ 9000 := fun i h0 h1 => Nat.le_trans (isz_of (n := 8) (by decide) (by omega) h1) (by decide)
  unfold b_law_bent_rows rowsI
  get_elem_tactic_trivial
  obtain ⟨p, hp⟩ : ∃ p, p = h.length := ⟨_, rfl⟩
  have e0 : (h ++ [AO.lst (rs.map rowI)])[p]? = some (.lst (rs.map rowI)) := by rw [hp]; exact get_l0
  have g0 : Grown h n (h ++ [AO.lst (rs.map rowI)]) := (Grown.refl hd).app _
  rw [← hp, e_len_lst e0]
  rw [rowsI_len]
  refine ⟨n, _, rfl, rfl, by omega, l8 _ (by omega) (by omega), g0.at, fun a h1 a0 a1 d1 => ?_⟩
  obtain ⟨a, rfl⟩ := Int.eq_ofNat_of_zero_le a0
  have e1 : h1[p]? = some (.lst (rs.map rowI)) := by rw [d1.get (by omega)]; exact e0
  rw [e_len_lst e1]
  rw [rowsI_len]
  refine ⟨n, _, rfl, rfl, by omega, l8 _ (by omega) (by omega), d1.at, fun b h2 b0 b1 d2 => ?_⟩
  obtain ⟨b, rfl⟩ := Int.eq_ofNat_of_zero_le b0
  refine ⟨n, 4, rfl, rfl, by decide, by decide, d2.at, fun way F y0 y1 d3 => ?_⟩
  get_elem_tactic_trivial
  have gF := ((g0.draw d1).draw d2).draw d3
  have eF : F[p]? = some (.lst (rs.map rowI)) := by rw [((d1.trans d2).trans d3).get (by omega)]; exact e0
  have ha : a < rs.length := by omega
  have hbb : b < rs.length := by omega
  have ea : atA (rs.map rowI) (a : Int) = _ := atA_map (List.getElem?_eq_getElem ha)
  have eb : atA (rs.map rowI) (b : Int) = _ := atA_map (List.getElem?_eq_getElem hbb)
  have oa := o.row _ (List.getElem_mem ha)
  have ob := o.row _ (List.getElem_mem hbb)
  generalize rs[a] = ra at ea oa
  generalize rs[b] = rb at eb ob
  have lz := rowsI_len rs
  have nF := gF.at.lt
  have O : RowsOk k 250 rs := ⟨o.ne, o.le, fun r hr => (o.row r hr).mono (by decide)⟩
  have r2 : ∀ G (ss : List (List Int)) (x3 x4 x5 x6 x7 : Option AV), Grown h n G → G[p]? = some (.lst (ss.map rowI)) → RowsOk k 250 ss → ss.length = rs.length → b_law_bent_rows_r2 (ends (retG h R)) [some (.ref n), some (.tup (rs.map rowI)), some (.ref p), x3, x4, x5, x6, x7] G := fun G ss x3 x4 x5 x6 x7 g e O l => by
    unfold b_law_bent_rows_r2
    get_elem_tactic_trivial
    rw [e_tuple_lst e]
    exact ret_grown c1 g (clBs_rowsI ss) fun h3 d3 => q ss h3 O l d3
  have Oset : ∀ (ss : List (List Int)) (j : Nat) (r : List Int), RowsOk k 250 ss → RowOk k 250 r → RowsOk k 250 (ss.set j r) := fun ss j r O hr => ⟨fun z => O.ne (by
    have := congrArg List.length z
    rw [List.length_set] at this
    exact List.eq_nil_of_length_eq_zero this), by rw [List.length_set]; exact O.le, fun x hx => by
    rcases List.mem_or_eq_of_mem_set hx with hx | rfl
    · exact O.row x hx
    · exact hr⟩
  have sets : ∀ (ss : List (List Int)) (j : Nat) (r : List Int), (ss.map rowI).set j (rowI r) = (ss.set j r).map rowI := fun ss j r => (List.map_set ..).symm
  by_cases w0 : way = 0
  · rw [if_pos w0, e_ix_lst eF eb, e_ix_lst eF ea, e_set_lst eF, sets]
    refine ⟨by rw [lz]; exact ha, ?_⟩
    rw [e_set_lst (set_at eF), sets]
    refine ⟨by rw [List.length_map, List.length_set]; exact hbb, ?_⟩
    exact r2 _ _ _ _ _ _ _ ((gF.set (by omega)).set (by omega)) (set_at (set_at eF)) (Oset _ _ _ (Oset _ _ _ O (ob.mono (by decide))) (oa.mono (by decide))) (by rw [List.length_set, List.length_set])
  rw [if_neg w0]
  have hh : atA (zsV ra) 0 = some (.int (ra.headD 0)) := zsV_at (i := 0) (headD_get (by rw [oa.len]; omega))
  have cut1 : cutA (zsV ra) (some 1) none = zsV (ra.drop 1) := cut_drop ra 1
  have tl : (ra.drop 1).length = k + 1 := by rw [List.length_drop, oa.len]; omega
  have tb : Bnd 200 (ra.drop 1) := fun z hz => oa.bnd z (List.mem_of_mem_drop hz)
  by_cases w1 : way = 1
  · rw [if_pos w1, e_ix_lst eF ea]
    unfold rowI
    rw [e_ix_tup hh]
    rw [e_sub_int, e_ix_lst eF ea]
    unfold rowI
    get_elem_tactic_trivial
    rw [cut1]
    refine ⟨by rw [zsV_len]; omega, ?_⟩
    rw [e_set_lst eF]
    have e2 : AV.tup (.int (1 - ra.headD 0) :: zsV (ra.drop 1)) = rowI ((1 - ra.headD 0) :: ra.drop 1) := rfl
    rw [e2, sets]
    refine ⟨by rw [lz]; exact ha, ?_⟩
    refine r2 _ _ _ _ _ _ _ (gF.set (by omega)) (set_at eF) (Oset _ _ _ O ⟨by rw [List.length_cons, tl], ?_, fun z hz => ?_⟩) (by rw [List.length_set])
    · show 1 - ra.headD 0 = 0 ∨ 1 - ra.headD 0 = 1
      rcases oa.hd with e | e <;> omega
    · rcases List.mem_cons.mp hz with rfl | hz
      · rcases oa.hd with e | e <;> rw [e] <;> decide
      · exact Nat.le_trans (tb z hz) (by decide)
  rw [if_neg w1, e_ix_lst eF ea]
  unfold rowI
  get_elem_tactic_trivial
  rw [cut1]
  have em : (fun r : List Int => AV.tup (zsV r)) = rowI := rfl
  rw [em]
  obtain ⟨G, hG⟩ : ∃ G, G = F ++ [AO.lst (zsV (ra.drop 1))] := ⟨_, rfl⟩
  rw [← hG]
  have gG : Grown h n G := by rw [hG]; exact gF.app _
  have eG : G[p]? = some (.lst (rs.map rowI)) := by rw [hG]; exact get_old eF
  have uG : G[F.length]? = some (.lst (zsV (ra.drop 1))) := by rw [hG]; exact get_l0
  clear hG
  have lp := get_lt eF
  have r1 : ∀ (j : Nat) G, j < k + 1 → Grown h n G → G[p]? = some (.lst (rs.map rowI)) → G[F.length]? = some (.lst (zsV (ra.drop 1))) → b_law_bent_rows_r1 { (ends (retG h R)) with nx := b_law_bent_rows_r2 (ends (retG h R)) } [some (.ref n), some (.tup (rs.map rowI)), some (.ref p), some (.int (a : Int)), some (.int (b : Int)), some (.int way), some (.ref F.length), some (.int (j : Int))] G := fun j G hj gG eG uG => by
    have ej := List.getElem?_eq_getElem (l := ra.drop 1) (i := j) (by omega)
    have bj := tb _ (List.getElem_mem (l := ra.drop 1) (n := j) (by omega))
    generalize (ra.drop 1)[j] = z at ej bj
    unfold b_law_bent_rows_r1
    get_elem_tactic_trivial
    rw [e_ix_lst uG (zsV_at ej)]
    refine ⟨n, 2, rfl, rfl, by decide, by decide, gG.at, fun t H t0 t1 dH => ?_⟩
    have uH : H[F.length]? = some (.lst (zsV (ra.drop 1))) := by rw [dH.get (by omega)]; exact uG
    have eH : H[p]? = some (.lst (rs.map rowI)) := by rw [dH.get (by omega)]; exact eG
    get_elem_tactic_trivial
    rw [e_set_lst uH, zsV_set]
    refine ⟨.inl (.inl ⟨by decide, by decide⟩), by rw [zsV_len]; omega, ?_⟩
    have eI : (H.set F.length (.lst (zsV ((ra.drop 1).set j (z + (2 * t - 1))))))[p]? = some (.lst (rs.map rowI)) := get_set eH (by omega)
    have uI : (H.set F.length (.lst (zsV ((ra.drop 1).set j (z + (2 * t - 1))))))[F.length]? = some (.lst (zsV ((ra.drop 1).set j (z + (2 * t - 1))))) := set_at uH
    have gI : Grown h n (H.set F.length (.lst (zsV ((ra.drop 1).set j (z + (2 * t - 1)))))) := (gG.draw dH).set (by omega)
    generalize H.set F.length (.lst (zsV ((ra.drop 1).set j (z + (2 * t - 1))))) = I at eI uI gI
    rw [e_ix_lst eI ea]
    unfold rowI
    rw [e_ix_tup hh]
    have nb : Bnd 201 ((ra.drop 1).set j (z + (2 * t - 1))) := (tb.mono (by decide)).set (isz_add bj (isz_le (by decide) (by omega)))
    refine ⟨ra.headD 0, k, 201, _, rfl, oa.hd, seq_ref uI, by rw [List.length_set, tl], by omega, nb, by decide, by decide, fun r hr => ?_⟩
    dsimp only
    rw [e_set_lst eI, sets]
    refine ⟨by rw [lz]; exact ha, ?_⟩
    exact r2 _ _ _ _ _ _ _ (gI.set (by omega)) (set_at eI) (Oset _ _ _ O (hr.mono (by decide))) (by rw [List.length_set])
  by_cases w3 : way = 3
  · rw [if_pos w3, e_len_lst uG]
    rw [zsV_len, tl]
    refine ⟨n, _, rfl, rfl, by omega, l8 _ (by omega) (by omega), gG.at, fun j H j0 j1 dH => ?_⟩
    obtain ⟨j, rfl⟩ := Int.eq_ofNat_of_zero_le j0
    exact r1 j H (by omega) (gG.draw dH) (by rw [dH.get (by omega)]; exact eG) (by rw [dH.get (by omega)]; exact uG)
  · rw [if_neg w3]
    exact r1 0 G (by omega) gG eG uG
theorem pure_law_agree (x y z u : AV) (h : AH) (R : AK) (c1 : clH h) (c2 : clBs h.length [x, y, z, u] = true) (q : sp_law_agree [x, y, z, u] h R (fun _ _ => False)) :
    b_law_agree (ends (retG h R)) [some x, some y, some z, some u, none] h := by
  obtain ⟨k, rs, rfl, o, hk, rfl, pv, whole, rfl, hwh, q⟩ := q
  unfold b_law_agree
  get_elem_tactic_trivial
  refine ⟨k, rs, rfl, o, hk, rfl, pv, whole, rfl, hwh, ?_⟩
  get_elem_tactic_trivial
  refine ⟨k, rs, rfl, o, hk, pv, whole, rfl, hwh, ?_⟩
  get_elem_tactic_trivial
  rw [beq_self_eq_true]
  exact retG_of q
theorem pure_law_mixes (x y z : AV) (h : AH) (R : AK) (c1 : clH h) (c2 : clBs h.length [x, y, z] = true) (q : sp_law_mixes [x, y, z] h R (fun _ _ => False)) :
    b_law_mixes (ends (retG h R)) [some x, some y, some z, none, none, none, none] h := by
  obtain ⟨k, rs, rfl, o, hk, ws, rfl, hl, hw, rfl, q⟩ := q
  have h60 := o.le
  obtain ⟨r0, rest, hrs⟩ := o.cons
  unfold b_law_mixes
  get_elem_tactic_trivial
  refine e_min1 (xs := ws) (fun z => by rw [z, hrs] at hl; simp at hl) fun m hm hmin => ?_
  get_elem_tactic_trivial
  by_cases h0 : m < 0
  · rw [if_pos h0]
    exact retG_of q
  rw [if_neg h0]
  have hp : ∀ w ∈ ws, 0 ≤ w := fun w hw => by
    have := hmin w hw
    omega
  refine ⟨k, rs, rfl, o, hk, ws, rfl, hl, hw, hp, ?_⟩
  dsimp only
  refine ⟨k, 250, 300, rs, ws, rfl, rfl, rfl, hk, h60, o.row, hl, hw, by decide, by decide, ?_⟩
  have sl := sums_len (n := k + 2) o.len hl
  obtain ⟨s0, sr, hs⟩ : ∃ s0 sr, sums (k + 2) rs ws = s0 :: sr := by
    match hss : sums (k + 2) rs ws with
    | [] => rw [hss] at sl; simp at sl
    | a :: b => exact ⟨a, b, rfl⟩
  rw [hs] at sl ⊢
  have sl2 : sr.length + 1 = k + 2 := by simpa using sl
  have a0 : atA (zsV (s0 :: sr)) 0 = some (.int s0) := rfl
  get_elem_tactic_trivial
  rw [e_ix_lst get_l0 a0]
  get_elem_tactic_trivial
  rw [e_sl_lst get_l0, show cutA (zsV (s0 :: sr)) (some 1) none = zsV sr from cut_drop (s0 :: sr) 1]
  get_elem_tactic_trivial
  rw [e_tuple_lst get_l1]
  get_elem_tactic_trivial
  obtain ⟨ts, hts⟩ : ∃ ts, ts = (if 0 < s0 then (1 : Int) else 0) :: sr := ⟨_, rfl⟩
  have e1 : AV.int (if 0 < s0 then 1 else 0) :: zsV sr = zsV ts := by rw [hts]; rfl
  have e2 : (if 0 < (s0 :: sr).headD 0 then (1 : Int) else 0) :: List.drop 1 (s0 :: sr) = ts := by rw [hts]; rfl
  have lts : ts.length = k + 2 := by rw [hts, List.length_cons, sl2]
  rw [e1, e2]
  refine ⟨by rw [zsV_len]; omega, ?_⟩
  refine lcT_map (items := zsV ts) (ys := (ts.map fun _ => true).map AV.bl) (guard := fun _ => True) (fun K k => by rw [x_iseq_tup (xs := zsV ts) (fun _ => rfl)]; exact k) (by rw [zsV_len]; simp) (by rw [zsV_len]; omega) (fun _ => trivial) (fun i x y acc Q hx hy hQ => ?_) ?_
  · obtain ⟨v, _, rfl⟩ := map_get hx
    obtain ⟨b, hb, rfl⟩ := map_get hy
    obtain ⟨_, _, rfl⟩ := map_get hb
    get_elem_tactic_trivial
    exact ⟨trivial, by rw [app_l] at hQ; exact hQ⟩
  rw [e_all get_l0]
  have ha : ((ts.map fun _ => true).all id) = true := by simp
  rw [ha]
  get_elem_tactic_trivial
  have hpn : (zsV ts).all (plainN 39) = true := by
    rw [List.all_eq_true]
    intro x hx
    obtain ⟨v, _, rfl⟩ := List.mem_map.mp hx
    exact e_plain_int
  have hpp : plainN 40 (.tup (zsV ts)) = true := hpn
  have hae : aeqs (zsV ts) (zsV ts) = true := aeqs_self _ fun x hx => by
    obtain ⟨v, _, rfl⟩ := List.mem_map.mp hx
    exact aeq_self 1 _ e_plain_int
  rw [hae]
  exact ⟨hpn, hpn, ret_ext c1 (Ext.refl.app _) rfl q⟩
theorem Case.its {k : Nat} {rs : List (List Int)} {p : AV} (c : Case k rs p) : ∃ s its, p = .tup (.str s :: its) ∧ Pf s its ∧ ∀ x ∈ its, ∃ w, x = .tup (zsV w) ∧ w.length = rs.length ∧ Bnd 200 w := by
  obtain ⟨s, its, e, P⟩ := c.pf
  refine ⟨s, its, e, P, ?_⟩
  rcases c.2.2.2 with ⟨a, ea, h1, h2⟩ | ⟨a, b, ea, h1, h2, h3, h4⟩
  · rw [ea] at e
    have : its = [.tup (zsV a)] := by
      injection e with e
      injection e with e1 e2
      exact e2.symm
    intro x hx
    rw [this, List.mem_singleton] at hx
    exact ⟨a, hx, h1, h2⟩
  · rw [ea] at e
    have : its = [.tup (zsV a), .tup (zsV b)] := by
      injection e with e
      injection e with e1 e2
      exact e2.symm
    intro x hx
    rw [this] at hx
    simp only [List.mem_cons, List.not_mem_nil, or_false] at hx
    rcases hx with rfl | rfl
    · exact ⟨a, rfl, h1, h3⟩
    · exact ⟨b, rfl, h2, h4⟩
theorem Pf.pv {s : Str} {its : List AV} (P : Pf s its) (h : AH) : PV h (.tup (.str s :: its)) := pv_mk (by have := P.le; omega) (by rw [e_plain_str]; exact P.st) trivial fun y hy => P.wv hy
theorem Grown.trans {h h1 h2 : AH} {n : Nat} (g : Grown h n h1) (g2 : Grown h1 n h2) : Grown h n h2 := by
  obtain ⟨h3, r, rfl, d⟩ := g2
  exact (g.draw d).app r
theorem lst_drawn {h h' : AH} {n k : Nat} (d : Drawn h n h') (w : ∃ xs, h[k]? = some (.lst xs)) : ∃ xs, h'[k]? = some (.lst xs) := by
  by_cases e : k = n
  · subst e
    obtain ⟨_, _, _, _, _, e, _⟩ := d.at
    exact ⟨_, e⟩
  · rw [d.get e]
    exact w
theorem wv_drawn {h h' : AH} {n : Nat} (d : Drawn h n h') : ∀ {x : AV}, WV h x → WV h' x
  | .ref _, w => lst_drawn d w
  | .tup _, w => w
  | .non, _ => trivial
  | .bl _, _ => trivial
  | .int _, _ => trivial
  | .str _, _ => trivial
theorem pv_drawn {h h' : AH} {n : Nat} (d : Drawn h n h') : ∀ {x : AV}, PV h x → PV h' x
  | .ref _, w => lst_drawn d w
  | .tup _, w => ⟨w.1, fun x hx => wv_drawn d (w.2.1 x hx), w.2.2⟩
  | .non, _ => trivial
  | .bl _, _ => trivial
  | .int _, _ => trivial
  | .str _, _ => trivial
def plus0 : AV → AV
  | .tup xs => .tup (xs ++ [.int 0])
  | _ => .non
theorem pure_law_holds_all (x y z u : AV) (h : AH) (R : AK) (c1 : clH h) (c2 : clBs h.length [x, y, z, u] = true) (q : sp_law_holds_all [x, y, z, u] h R (fun _ _ => False)) :
    b_law_holds_all (ends (retG h R)) [some x, some y, some z, some u, none, none, none, none, none, none] h := by
  obtain ⟨n, k, rs, rfl, hd, rfl, rfl, c, q⟩ := q
  obtain ⟨s, its, rfl, P, hits⟩ := c.its
  have o := c.1
  have hk := c.2.1
  have h50 := c.2.2.1
  have O : RowsOk k 250 rs := ⟨o.ne, o.le, fun r hr => (o.row r hr).mono (by decide)⟩
  have ln := hd.lt
  have fin : ∀ F, Grown h n F → retG h R (.bl true) F := fun F g => ret_grown c1 g rfl fun h1 d1 => q h1 d1
  obtain ⟨zs, hzs⟩ : ∃ zs : List Int, zs = if 0 < k then [0, 1] else [0] := ⟨_, rfl⟩
  have whole : ∀ z ∈ zs, z = 0 ∨ (z = 1 ∧ 0 < k) := fun z hz => by
    rw [hzs] at hz
    split at hz
    · simp at hz
      omega
    · simp at hz
      omega
  have zne : zs ≠ [] := by rw [hzs]; split <;> simp
  have zle : zs.length ≤ 2 := by rw [hzs]; split <;> simp
  obtain ⟨L, hL⟩ : ∃ L, L = h.length := ⟨_, rfl⟩
  have g0 : Grown h n (h ++ [AO.lst (zsV zs)]) := (Grown.refl hd).app _
  have e0 : (h ++ [AO.lst (zsV zs)])[L]? = some (.lst (zsV zs)) := by rw [hL]; exact get_l0
  have start : ∀ Q : AK, Q (.ref L) (h ++ [AO.lst (zsV zs)]) → (if (0 : Int) < (k : Int) then Q (.ref h.length) (h ++ [AO.lst [.int 0, .int 1]]) else Q (.ref h.length) (h ++ [AO.lst [.int 0]])) := fun Q hQ => by
    rw [hL, hzs] at hQ
    by_cases hk0 : 0 < k
    · rw [if_pos (by omega)]
      rw [if_pos hk0] at hQ
      exact hQ
    · rw [if_neg (by omega)]
      rw [if_neg hk0] at hQ
      exact hQ
  unfold b_law_holds_all
  get_elem_tactic_trivial
  refine start (fun v H => forT (iSeqT (varT 4)) (gNameT 5) b_law_holds_all_l1 _ [_, _, _, _, some v, none, none, none, none, none] H) ?_
  have cut3 : cutA (AV.str s :: its) (some 1) none = its := cutA_from _ 1
  obtain ⟨H0, hH0⟩ : ∃ H0, H0 = h ++ [AO.lst (zsV zs)] := ⟨_, rfl⟩
  rw [← hH0] at e0 g0 ⊢
  clear hH0
  have lits := P.le
  have RWi : ∀ (p : Nat → List (List Int) → Prop), p k rs → RW (rowsI rs) p := fun p z => ⟨k, rs, rfl, O, by omega, z⟩
  have pick : ∀ F (Q : AK), Grown h n F → F[L]? = some (.lst (zsV zs)) → (∀ z G, z ∈ zs → Grown h n G → G[L]? = some (.lst (zsV zs)) → Drawn F n G → Q (.int z) G) → sp_law_pick [.ref n, .ref L] F Q (fun _ _ => False) := fun F Q g e hQ => by
    have := g.lt
    refine ⟨n, zsV zs, rfl, seq_ref e, fun z => zne (List.map_eq_nil_iff.mp z), by rw [zsV_len]; omega, fun z => ?_, g.at, fun v G hv d => ?_⟩
    · have := AV.ref.inj z
      omega
    · obtain ⟨z, hz, rfl⟩ := List.mem_map.mp hv
      exact hQ z G hz (g.draw d) (by rw [d.get (by omega)]; exact e) d
  rw [x_for, x_iseq (n := L) (fun _ => rfl) e0]
  refine ⟨fun i σ h' => h' = H0 ∧ ∃ x5, σ = [some (.ref n), some (.int (k : Int)), some (rowsI rs), some (.tup (.str s :: its)), some (.ref L), x5, none, none, none, none], ⟨rfl, _, rfl⟩, fun i z σ h' hz ⟨eh, x5, es⟩ => ⟨by rw [eh]; exact e0, ?_⟩, fun σ h' ⟨eh, x5, es⟩ => ⟨by rw [eh]; exact e0, ?_⟩⟩
  · subst eh es
    obtain ⟨z, hzz, rfl⟩ := map_get hz
    unfold b_law_holds_all_l1
    get_elem_tactic_trivial
    refine RWi _ ⟨rfl, P.pv _, z, rfl, whole z (get_mem hzz), ?_⟩
    get_elem_tactic_trivial
    exact ⟨_, rfl⟩
  subst eh es
  unfold b_law_holds_all_r4
  get_elem_tactic_trivial
  rw [x_for]
  unfold iSeqT
  get_elem_tactic_trivial
  rw [cut3]
  refine ⟨fun i σ h2 => h2 = h' ∧ ∃ x6, σ = [some (.ref n), some (.int (k : Int)), some (rowsI rs), some (.tup (.str s :: its)), some (.ref L), x5, x6, none, none, none], ⟨rfl, _, rfl⟩, fun i z σ h2 hz ⟨eh, x6, es⟩ => ?_, fun σ h2 ⟨eh, x6, es⟩ => ?_⟩
  · subst eh es
    obtain ⟨w, rfl, hwl, hwb⟩ := hits z (get_mem hz)
    unfold b_law_holds_all_l2
    get_elem_tactic_trivial
    refine RWi _ ⟨w, rfl, hwl, hwb.mono (by decide), rfl, ?_⟩
    get_elem_tactic_trivial
    exact ⟨_, rfl⟩
  subst eh es
  unfold b_law_holds_all_r3 rowsI
  get_elem_tactic_trivial
  refine ⟨n, k, rfl, rfl, by omega, g0.at, fun r G hr dG => ?_⟩
  have gG := g0.draw dG
  have eG : G[L]? = some (.lst (zsV zs)) := by rw [dG.get (by have := g0.lt; omega)]; exact e0
  get_elem_tactic_trivial
  have erl : rs.map rowI ++ [rowI r] = (rs ++ [r]).map rowI := by rw [List.map_append]; rfl
  rw [rowsI_len, erl, x_lcT]
  unfold iSeqT
  get_elem_tactic_trivial
  rw [cut3]
  obtain ⟨its2, hits2⟩ : ∃ its2, its2 = its.map plus0 := ⟨_, rfl⟩
  have hits3 : ∀ x ∈ its2, ∃ w, x = .tup (zsV w) ∧ w.length = rs.length + 1 ∧ Bnd 200 w := fun x hx => by
    rw [hits2] at hx
    obtain ⟨y, hy, rfl⟩ := List.mem_map.mp hx
    obtain ⟨w, rfl, hwl, hwb⟩ := hits y hy
    refine ⟨w ++ [0], by simp [zsV, plus0], by rw [List.length_append, hwl]; rfl, fun z hz => ?_⟩
    rcases List.mem_append.mp hz with hz | hz
    · exact hwb z hz
    · rw [List.mem_singleton.mp hz]
      decide
  have le2 : its2.length ≤ 2 := by rw [hits2, List.length_map]; exact lits
  have P2 : ∀ H, PV H (.tup (.str s :: its2)) := fun H => pv_mk (by omega) (by rw [e_plain_str]; exact P.st) trivial fun x hx => by
    obtain ⟨w, rfl, h1, h2⟩ := hits3 x hx
    exact wv_ints (by omega) (h2.mono (by decide))
  obtain ⟨w0, wr, hw0, hw1⟩ : ∃ w0 wr, its2 = .tup (zsV w0) :: wr ∧ w0.length = rs.length + 1 ∧ Bnd 200 w0 := by
    match hi : its2 with
    | [] => exact absurd (List.map_eq_nil_iff.mp hits2.symm) P.ne
    | x :: r =>
      obtain ⟨w, rfl, h1⟩ := hits3 x (by simp)
      exact ⟨w, r, rfl, h1⟩
  have O2 : RowsOk k 250 (rs ++ [r]) := ⟨by simp, by rw [List.length_append]; show _ + 1 ≤ _; omega, fun x hx => by
    rcases List.mem_append.mp hx with hx | hx
    · exact O.row x hx
    · rw [List.mem_singleton.mp hx]
      exact hr.mono (by decide)⟩
  have RWl : ∀ (p : Nat → List (List Int) → Prop), p k (rs ++ [r]) → RW (.tup ((rs ++ [r]).map rowI)) p := fun p z => ⟨k, rs ++ [r], rfl, O2, by omega, z⟩
  refine ⟨by omega, ?_⟩
  unfold lcB
  refine lcT_map (h1 := G) (items := its) (ys := its2) (guard := fun _ => True) (fun K k => k) (by rw [hits2, List.length_map]) (by omega) (fun _ => trivial) (fun i x y acc Q hx hy hQ => ?_) ?_
  · rw [hits2, List.getElem?_map, hx] at hy
    obtain ⟨w, rfl, hwl, hwb⟩ := hits x (get_mem hx)
    cases hy
    get_elem_tactic_trivial
    exact ⟨by rw [zsV_len]; omega, hQ⟩
  rw [e_tuple_lst get_l0]
  get_elem_tactic_trivial
  refine ⟨by omega, ?_⟩
  refine pick _ _ (gG.app _) (get_old eG) fun z1 G1 z1h g1 e1 _ => ?_
  refine RWl _ ⟨rfl, P2 _, z1, rfl, whole z1 z1h, ?_⟩
  get_elem_tactic_trivial
  have a1 : atA (.str s :: its2) 1 = some (.tup (zsV w0)) := by rw [hw0]; rfl
  rw [e_ix_tup a1]
  refine RWl _ ⟨w0, rfl, by rw [hw1.1, List.length_append]; rfl, hw1.2.mono (by decide), rfl, ?_⟩
  get_elem_tactic_trivial
  rw [x_for]
  unfold iRng1T
  get_elem_tactic_trivial
  refine ⟨by decide, by decide, ?_⟩
  refine ⟨fun i σ H => (Grown h n H ∧ H[L]? = some (.lst (zsV zs))) ∧ ∃ x9, σ = [some (.ref n), some (.int (k : Int)), some (.tup (rs.map rowI)), some (.tup (.str s :: its)), some (.ref L), x5, x6, some (.tup ((rs ++ [r]).map rowI)), some (.tup (.str s :: its2)), x9], ⟨⟨g1, e1⟩, _, rfl⟩, fun i z σ H hz ⟨⟨gH, eH⟩, x9, es⟩ => ?_, fun σ H ⟨⟨gH, eH⟩, x9, es⟩ => ?_⟩
  · subst es
    unfold b_law_holds_all_l3
    get_elem_tactic_trivial
    refine ⟨n, k, rs, rfl, c, gH.at, fun v H1 pv1 g2 => ?_⟩
    get_elem_tactic_trivial
    refine pick _ _ (gH.trans g2) (by rw [g2.get (get_lt eH) (by have := g0.lt; omega)]; exact eH) fun z3 G3 z3h g3 e3 d3 => ?_
    refine RWi _ ⟨rfl, pv_drawn d3 pv1, z3, rfl, whole z3 z3h, ?_⟩
    get_elem_tactic_trivial
    exact ⟨⟨g3, e3⟩, _, rfl⟩
  subst es
  unfold b_law_holds_all_r2
  get_elem_tactic_trivial
  rw [x_for]
  unfold iRng1T
  get_elem_tactic_trivial
  refine ⟨by decide, by decide, ?_⟩
  refine ⟨fun i σ H => (Grown h n H ∧ H[L]? = some (.lst (zsV zs))) ∧ ∃ x9, σ = [some (.ref n), some (.int (k : Int)), some (.tup (rs.map rowI)), some (.tup (.str s :: its)), some (.ref L), x5, x6, some (.tup ((rs ++ [r]).map rowI)), some (.tup (.str s :: its2)), x9], ⟨⟨gH, eH⟩, _, rfl⟩, fun i z σ H hz ⟨⟨gH, eH⟩, x9, es⟩ => ?_, fun σ H ⟨⟨gH, eH⟩, x9, es⟩ => ?_⟩
  · subst es
    unfold b_law_holds_all_l4
    get_elem_tactic_trivial
    refine ⟨n, k, rs, rfl, rfl, o, hk, h50, gH.at, fun rs4 H1 o4 l4 d2 => ?_⟩
    get_elem_tactic_trivial
    refine pick _ _ (gH.draw d2) (by rw [d2.get (by have := g0.lt; omega)]; exact eH) fun z3 G3 z3h g3 e3 d3 => ?_
    refine ⟨k, rs4, rfl, o4, by omega, rfl, P.pv _, z3, rfl, whole z3 z3h, ?_⟩
    get_elem_tactic_trivial
    exact ⟨⟨g3, e3⟩, _, rfl⟩
  subst es
  unfold b_law_holds_all_r1
  get_elem_tactic_trivial
  have al : ∃ z, z ∈ zs ∧ atA (zsV zs) (-1) = some (.int z) := by
    rw [hzs]
    split
    · exact ⟨1, by simp, rfl⟩
    · exact ⟨0, by simp, rfl⟩
  obtain ⟨z, hz, az⟩ := al
  rw [e_ix_lst eH az]
  refine RWi _ ⟨rfl, P.pv _, z, rfl, whole z hz, ?_⟩
  exact fin _ gH
theorem pure_law (x : AV) (h : AH) (R : AK) (c1 : clH h) (c2 : clBs h.length [x] = true) (q : sp_law [x] h R (fun _ _ => False)) :
    b_law (ends (retG h R)) [some x, none, none, none, none, none] h := by
  obtain ⟨ns, rfl, hl, q⟩ := q
  unfold b_law
  get_elem_tactic_trivial
  refine ⟨ns, rfl, hl, ?_⟩
  get_elem_tactic_trivial
  have d0 : DrawAt (h ++ [.lst (ns.map AV.int), .lst [.ref h.length, .int 0, .int 0, .int 7, .int 3]]) (h.length + 1) := ⟨h.length, ns, 0, 0, 7, get_l1, get_l0, by omega⟩
  obtain ⟨n, hn⟩ : ∃ n, n = h.length + 1 := ⟨_, rfl⟩
  rw [← hn] at d0 ⊢
  generalize h ++ [.lst (ns.map AV.int), .lst [.ref h.length, .int 0, .int 0, .int 7, .int 3]] = H0 at d0
  rw [x_for]
  unfold iRng1T
  get_elem_tactic_trivial
  refine ⟨by decide, by decide, ?_⟩
  refine ⟨fun i σ H => DrawAt H n ∧ ∃ x2 x3 x4 x5, σ = [some (.rol (ns.map AV.int)), some (.ref n), x2, x3, x4, x5], ⟨d0, _, _, _, _, rfl⟩, fun i z σ H hz ⟨dH, x2, x3, x4, x5, es⟩ => ?_, fun σ H ⟨dH, x2, x3, x4, x5, es⟩ => ?_⟩
  · subst es
    have next : ∀ k rs p H2 bk ct, Case k rs p → DrawAt H2 n → b_law_r1 { nx := fun σ H => DrawAt H n ∧ ∃ x2 x3 x4 x5, σ = [some (.rol (ns.map AV.int)), some (.ref n), x2, x3, x4, x5], rt := retG h R, bk := bk, ct := ct } [some (.rol (ns.map AV.int)), some (.ref n), some z, some (.int ((k : Nat) : Int)), some (rowsI rs), some p] H2 := fun k rs p H2 bk ct c d => by
      unfold b_law_r1
      get_elem_tactic_trivial
      refine ⟨n, k, rs, rfl, d, rfl, rfl, c, fun H3 d3 => ?_⟩
      get_elem_tactic_trivial
      exact ⟨d3.at, _, _, _, _, rfl⟩
    unfold b_law_l1
    get_elem_tactic_trivial
    refine ⟨n, 2, rfl, rfl, by decide, by decide, dH, fun t H1 t0 t1 d1 => ?_⟩
    get_elem_tactic_trivial
    split
    · refine ⟨n, rfl, d1.at, fun k rs p H2 c d2 => ?_⟩
      get_elem_tactic_trivial
      exact next k rs p H2 _ _ c d2.at
    · refine ⟨n, rfl, d1.at, fun k rs p H2 c d2 => ?_⟩
      get_elem_tactic_trivial
      exact next k rs p H2 _ _ c d2.at
  · subst es
    exact retG_of (q _)
end AL

namespace AL
open PySem PySem.Spec PyProof.Rows L2
def topS (i : Nat) : Stmt := PySem.Challenge.pw_wishpanes_k19_proofs_judged.main.body.getD i (.Pass ⟨0, 0, 0, 0⟩)
structure Txt (K : PySem.W.Frag) (mg : Str → Option Value) : Prop where
  abs : mg "abs" = none
  all : mg "all" = none
  any : mg "any" = none
  bool : mg "bool" = none
  gcd : mg "gcd" = some (.builtin "math.gcd")
  int : mg "int" = none
  isinstance : mg "isinstance" = none
  len : mg "len" = none
  list : mg "list" = none
  min : mg "min" = none
  range : mg "range" = none
  tuple : mg "tuple" = none
  zip : mg "zip" = none
section
variable {P : Program} {w : World} {K : PySem.W.Frag} {mg : Str → Option Value} {base : Heap}
abbrev st_ratio : Stmt := topS 2
theorem sc_ratio : FnScope ["n", "d", "common"] ["n", "d"] (defScope st_ratio) := ⟨rfl, rfl, rfl, by decide +kernel, rfl, by decide +kernel, by decide +kernel⟩
theorem cal_ratio (T : Txt K mg) (DF : DefIs K mg "ratio" st_ratio) : Cal P w K mg base 1 "ratio" ["n", "d"] sp_ratio :=
  .mk_ DF (fun F => F.binds (fun _ _ _ _ _ _ us hl => match us, hl with | [_, _], _ => rfl)) fun F => okA F sc_ratio (fun _ _ _ _ q => A2_len q) (fun cdv A outer s H E hr =>
    (ass_cons (as_if (at_cmp op_ltA (ae_var 1 (pv 1)) ae_int (nomark _)) (ass_cons (as_set (i := 0) sc_ratio.nd rfl (Or.inl rfl) (ae_un un_negA (ae_var 0 (pv 0))))
    (ass_one (as_set (i := 1) sc_ratio.nd rfl (Or.inl rfl) (ae_un un_negA (ae_var 1 (pv 1)))))) ass_nil)
    (ass_cons (as_if (at_cmp (op_eqA hr.units) (ae_var 1 (pv 1)) ae_int (nomark _)) (ass_one (as_ret (ae_tup (aa_cons (ae_var 0 (pv 0)) (aa_cons ae_int aa_nil))))) ass_nil)
    (ass_cons (as_set (i := 2) sc_ratio.nd rfl (Or.inl rfl) (ae_callBfun call_gcdA (by rfl) T.gcd (aa_cons (ae_var 0 (pv 0)) (aa_cons (ae_var 1 (pv 1)) aa_nil))))
    (ass_cons (as_if (at_cmp (op_eqA hr.units) (ae_var 2 (pv 2)) ae_int (nomark _)) (ass_one (as_ret (ae_tup (aa_cons (ae_var 0 (pv 0)) (aa_cons (ae_var 1 (pv 1)) aa_nil))))) ass_nil)
    (ass_one (as_ret (ae_tup (aa_cons (ae_op op_fdivA (ae_var 0 (pv 0)) (ae_var 2 (pv 2))) (aa_cons (ae_op op_fdivA (ae_var 1 (pv 1)) (ae_var 2 (pv 2))) aa_nil))))))))))
    fun xs h R c1 c2 q => match xs, q with | [x0, x1], q => pure_ratio x0 x1 h R c1 c2 q
abbrev st_whole_number : Stmt := topS 3
theorem sc_whole_number : FnScope ["value"] ["value"] (defScope st_whole_number) := ⟨rfl, rfl, rfl, by decide +kernel, rfl, by decide +kernel, by decide +kernel⟩
theorem cal_whole_number (T : Txt K mg) (DF : DefIs K mg "whole_number" st_whole_number) : Cal P w K mg base 1 "whole_number" ["value"] sp_whole_number :=
  .mk_ DF (fun F => F.binds (fun _ _ _ _ _ _ us hl => match us, hl with | [_], _ => rfl)) fun F => okA F sc_whole_number (fun _ _ _ _ q => A1_len q) (fun cdv A outer s H E hr =>
    (ass_one (as_ret (ae_and (ae_callB call_instA (by rfl) T.isinstance (by decide +kernel) (aa_cons (ae_var 0 (pv 0)) (aa_cons (ae_ty (by rfl) T.int (by decide +kernel)) aa_nil))) (ae_one (ae_not (ae_callB call_instA (by rfl) T.isinstance (by decide +kernel) (aa_cons (ae_var 0 (pv 0)) (aa_cons (ae_ty (by rfl) T.bool (by decide +kernel)) aa_nil)))))))))
    fun xs h R c1 c2 q => match xs, q with | [x0], q => pure_whole_number x0 h R c1 c2 q
abbrev st_floor_of : Stmt := topS 4
theorem sc_floor_of : FnScope ["a"] ["a"] (defScope st_floor_of) := ⟨rfl, rfl, rfl, by decide +kernel, rfl, by decide +kernel, by decide +kernel⟩
theorem cal_floor_of (T : Txt K mg) (DF : DefIs K mg "floor_of" st_floor_of) : Cal P w K mg base 1 "floor_of" ["a"] sp_floor_of :=
  .mk_ DF (fun F => F.binds (fun _ _ _ _ _ _ us hl => match us, hl with | [_], _ => rfl)) fun F => okA F sc_floor_of (fun _ _ _ _ q => A1_len q) (fun cdv A outer s H E hr =>
    (ass_one (as_ret (ae_op op_fdivA (ae_ix (ix_A (hu_of hr)) (ae_var 0 (pv 0)) ae_int (fun _ _ => rfl)) (ae_ix (ix_A (hu_of hr)) (ae_var 0 (pv 0)) ae_int (fun _ _ => rfl))))))
    fun xs h R c1 c2 q => match xs, q with | [x0], q => pure_floor_of x0 h R c1 c2 q
abbrev st_ceiling_of : Stmt := topS 5
theorem sc_ceiling_of : FnScope ["a"] ["a"] (defScope st_ceiling_of) := ⟨rfl, rfl, rfl, by decide +kernel, rfl, by decide +kernel, by decide +kernel⟩
theorem cal_ceiling_of (T : Txt K mg) (DF : DefIs K mg "ceiling_of" st_ceiling_of) : Cal P w K mg base 1 "ceiling_of" ["a"] sp_ceiling_of :=
  .mk_ DF (fun F => F.binds (fun _ _ _ _ _ _ us hl => match us, hl with | [_], _ => rfl)) fun F => okA F sc_ceiling_of (fun _ _ _ _ q => A1_len q) (fun cdv A outer s H E hr =>
    (ass_one (as_ret (ae_un un_negA (ae_op op_fdivA (ae_un un_negA (ae_ix (ix_A (hu_of hr)) (ae_var 0 (pv 0)) ae_int (fun _ _ => rfl))) (ae_ix (ix_A (hu_of hr)) (ae_var 0 (pv 0)) ae_int (fun _ _ => rfl)))))))
    fun xs h R c1 c2 q => match xs, q with | [x0], q => pure_ceiling_of x0 h R c1 c2 q
abbrev st_mixed : Stmt := topS 7
theorem sc_mixed : FnScope ["rows", "weights", "strict", "total", "row", "weight", "number", "x", "y"] ["rows", "weights"] (defScope st_mixed) := ⟨rfl, rfl, rfl, by decide +kernel, rfl, by decide +kernel, by decide +kernel⟩
theorem cal_mixed (T : Txt K mg) (DF : DefIs K mg "mixed" st_mixed) : Cal P w K mg base 1 "mixed" ["rows", "weights"] sp_mixed :=
  .mk_ DF (fun F => F.binds (fun _ _ _ _ _ _ us hl => match us, hl with | [_, _], _ => rfl)) fun F => okA F sc_mixed (fun _ _ _ _ q => A2_len q) (fun cdv A outer s H E hr =>
    (ass_cons (as_set (i := 2) sc_mixed.nd rfl (Or.inl rfl) ae_int)
    (ass_cons (as_setLc (i := 3) (gr := (gName 6)) rfl sc_mixed.nd rfl rfl (sw_true rfl rfl rfl (by decide +kernel)) (ai_seq (ae_slice sl_A (ae_ix (ix_A (hu_of hr)) (ae_var 0 (pv 0)) ae_int (fun _ _ => rfl)) (ao_some ae_int) ao_none)) (blkOk_by (N := ["rows", "weights", "strict", "total", "row", "weight", "number", "x", "y"]) (sc := defScope st_mixed) (own := [("number", 6)]) (by decide +kernel)) (cg_name (by decide)) (fun _ _ _ _ _ hq q => hq _ _ q) (fun _ _ _ _ _ => pg_name (i := 6) sc_mixed.nd rfl (Or.inl rfl)) (fun _ _ _ _ _ => ats_nil) (fun _ _ _ _ _ => ae_int))
    (ass_cons (as_for PassesOwn.never rfl (ai_zipM (by rfl) T.zip (aa_cons (ae_var 0 (pv 0)) (aa_cons (ae_var 1 (pv 1)) aa_nil))) (ag_tup rfl (ags_cons (ag_name (i := 4) sc_mixed.nd rfl (Or.inl rfl)) (ags_cons (ag_name (i := 5) sc_mixed.nd rfl (Or.inr rfl)) ags_nil))) (ass_one (as_if (at_cmp (op_neA hr.units) (ae_var 5 (pv 5)) ae_int (nomark _)) (ass_cons (as_if (at_cmp (op_eqA hr.units) (ae_ix (ix_A (hu_of hr)) (ae_var 4 (pv 4)) ae_int (fun _ _ => rfl)) ae_int (nomark _)) (ass_one (as_set (i := 2) sc_mixed.nd rfl (Or.inl rfl) ae_int)) ass_nil)
    (ass_one (as_setLc (i := 3) (gr := (gTup _ 2 (rNms [7, 8]))) rfl sc_mixed.nd rfl rfl (sw_true rfl rfl rfl (by decide +kernel)) (ai_zipM (by rfl) T.zip (aa_cons (ae_var 3 (pv 3)) (aa_cons (ae_slice sl_A (ae_var 4 (pv 4)) (ao_some ae_int) ao_none) aa_nil))) (blkOk_by (N := ["rows", "weights", "strict", "total", "row", "weight", "number", "x", "y"]) (sc := defScope st_mixed) (own := [("x", 7), ("y", 8)]) (by decide +kernel)) (cg_tup (cgs_nms [7, 8] (by decide))) (gTup_mono [7, 8]) (fun _ _ _ _ _ => pg_tup rfl (pgs_cons (pg_name (i := 7) sc_mixed.nd rfl (Or.inl rfl)) (pgs_cons (pg_name (i := 8) sc_mixed.nd rfl (Or.inl rfl)) pgs_nil))) (fun _ _ _ _ _ => ats_nil) (fun _ _ _ _ _ => (ae_op op_addA (ae_var 7 (pv 7)) (ae_op op_mulA (ae_var 5 (pv 5)) (ae_var 8 (pv 8)))))))) ass_nil)))
    (ass_one (as_ret (ae_op op_addA (ae_tup (aa_cons (ae_var 2 (pv 2)) aa_nil)) (ae_callTy call_tupleA (by rfl) T.tuple (by decide +kernel) (aa_cons (ae_var 3 (pv 3)) aa_nil)))))))))
    fun xs h R c1 c2 q => match xs, q with | [x0, x1], q => pure_mixed x0 x1 h R c1 c2 q
abbrev st_good_weights : Stmt := topS 8
theorem sc_good_weights : FnScope ["weights", "many", "weight"] ["weights", "many"] (defScope st_good_weights) := ⟨rfl, rfl, rfl, by decide +kernel, rfl, by decide +kernel, by decide +kernel⟩
theorem cal_good_weights (T : Txt K mg) (DF : DefIs K mg "good_weights" st_good_weights) (C_whole_number : Cal P w K mg base 1 "whole_number" ["value"] sp_whole_number) : Cal P w K mg base 2 "good_weights" ["weights", "many"] sp_good_weights :=
  .mk_ DF (fun F => F.binds (fun _ _ _ _ _ _ us hl => match us, hl with | [_, _], _ => rfl)) fun F => okA F sc_good_weights (fun _ _ _ _ q => A2_len q) (fun cdv A outer s H E hr =>
    (ass_cons (as_if (at_w (aw_or (at_not (at_tru tru_A (ae_callB call_instA (by rfl) T.isinstance (by decide +kernel) (aa_cons (ae_var 0 (pv 0)) (aa_cons (ae_ty (by rfl) T.tuple (by decide +kernel)) aa_nil))))) (aw_or1 (at_cmp (op_neA hr.units) (ae_callB call_lenA (by rfl) T.len (by decide +kernel) (aa_cons (ae_var 0 (pv 0)) aa_nil)) (ae_var 1 (pv 1)) (nomark _))))) (ass_one (as_ret ae_bl)) ass_nil)
    (ass_cons (as_for PassesOwn.never rfl (ai_seq (ae_var 0 (pv 0))) (ag_name (i := 2) sc_good_weights.nd rfl (Or.inl rfl)) (ass_one (as_if (at_w (aw_or (at_not (at_tru tru_A (ae_cal C_whole_number (hr.mono (by decide)) (by rfl) (aa_cons (ae_var 2 (pv 2)) aa_nil)))) (aw_or1 (at_cmp op_ltA (ae_var 2 (pv 2)) ae_int (nomark _))))) (ass_one (as_ret ae_bl)) ass_nil)))
    (ass_one (as_ret ae_bl)))))
    fun xs h R c1 c2 q => match xs, q with | [x0, x1], q => pure_good_weights x0 x1 h R c1 c2 q
abbrev st_all_zero : Stmt := topS 9
theorem sc_all_zero : FnScope ["numbers", "number"] ["numbers"] (defScope st_all_zero) := ⟨rfl, rfl, rfl, by decide +kernel, rfl, by decide +kernel, by decide +kernel⟩
theorem cal_all_zero (T : Txt K mg) (DF : DefIs K mg "all_zero" st_all_zero) : Cal P w K mg base 1 "all_zero" ["numbers"] sp_all_zero :=
  .mk_ DF (fun F => F.binds (fun _ _ _ _ _ _ us hl => match us, hl with | [_], _ => rfl)) fun F => okA F sc_all_zero (fun _ _ _ _ q => A1_len q) (fun cdv A outer s H E hr =>
    (ass_cons (as_for PassesOwn.never rfl (ai_seq (ae_var 0 (pv 0))) (ag_name (i := 1) sc_all_zero.nd rfl (Or.inl rfl)) (ass_one (as_if (at_cmp (op_neA hr.units) (ae_var 1 (pv 1)) ae_int (nomark _)) (ass_one (as_ret ae_bl)) ass_nil)))
    (ass_one (as_ret ae_bl))))
    fun xs h R c1 c2 q => match xs, q with | [x0], q => pure_all_zero x0 h R c1 c2 q
abbrev st_adds_up : Stmt := topS 10
theorem sc_adds_up : FnScope ["rows", "weights", "total"] ["rows", "weights"] (defScope st_adds_up) := ⟨rfl, rfl, rfl, by decide +kernel, rfl, by decide +kernel, by decide +kernel⟩
theorem cal_adds_up (T : Txt K mg) (DF : DefIs K mg "adds_up" st_adds_up) (C_mixed : Cal P w K mg base 1 "mixed" ["rows", "weights"] sp_mixed) (C_good_weights : Cal P w K mg base 2 "good_weights" ["weights", "many"] sp_good_weights) (C_all_zero : Cal P w K mg base 1 "all_zero" ["numbers"] sp_all_zero) : Cal P w K mg base 3 "adds_up" ["rows", "weights"] sp_adds_up :=
  .mk_ DF (fun F => F.binds (fun _ _ _ _ _ _ us hl => match us, hl with | [_, _], _ => rfl)) fun F => okA F sc_adds_up (fun _ _ _ _ q => A2_len q) (fun cdv A outer s H E hr =>
    (ass_cons (as_if (at_not (at_tru tru_A (ae_cal C_good_weights (hr.mono (by decide)) (by rfl) (aa_cons (ae_var 1 (pv 1)) (aa_cons (ae_callB call_lenA (by rfl) T.len (by decide +kernel) (aa_cons (ae_var 0 (pv 0)) aa_nil)) aa_nil))))) (ass_one (as_ret ae_bl)) ass_nil)
    (ass_cons (as_set (i := 2) sc_adds_up.nd rfl (Or.inl rfl) (ae_cal C_mixed (hr.mono (by decide)) (by rfl) (aa_cons (ae_var 0 (pv 0)) (aa_cons (ae_var 1 (pv 1)) aa_nil))))
    (ass_cons (as_if (at_not (at_tru tru_A (ae_cal C_all_zero (hr.mono (by decide)) (by rfl) (aa_cons (ae_slice sl_A (ae_var 2 (pv 2)) (ao_some ae_int) ao_none) aa_nil)))) (ass_one (as_ret ae_bl)) ass_nil)
    (ass_one (as_ret (ae_or (ae_cmp op_ltA (ae_ix (ix_A (hu_of hr)) (ae_var 2 (pv 2)) ae_int (fun _ _ => rfl)) ae_int (nomark _)) (ae_one (ae_and (ae_cmp (op_eqA hr.units) (ae_ix (ix_A (hu_of hr)) (ae_var 2 (pv 2)) ae_int (fun _ _ => rfl)) ae_int (nomark _)) (ae_one (ae_cmp (op_eqA hr.units) (ae_ix (ix_A (hu_of hr)) (ae_var 2 (pv 2)) ae_int (fun _ _ => rfl)) ae_int (nomark _))))))))))))
    fun xs h R c1 c2 q => match xs, q with | [x0, x1], q => pure_adds_up x0 x1 h R c1 c2 q
abbrev st_first_bound : Stmt := topS 11
theorem sc_first_bound : FnScope ["rows", "weights", "side", "total", "value"] ["rows", "weights", "side"] (defScope st_first_bound) := ⟨rfl, rfl, rfl, by decide +kernel, rfl, by decide +kernel, by decide +kernel⟩
theorem cal_first_bound (T : Txt K mg) (DF : DefIs K mg "first_bound" st_first_bound) (C_ratio : Cal P w K mg base 1 "ratio" ["n", "d"] sp_ratio) (C_floor_of : Cal P w K mg base 1 "floor_of" ["a"] sp_floor_of) (C_ceiling_of : Cal P w K mg base 1 "ceiling_of" ["a"] sp_ceiling_of) (C_mixed : Cal P w K mg base 1 "mixed" ["rows", "weights"] sp_mixed) (C_good_weights : Cal P w K mg base 2 "good_weights" ["weights", "many"] sp_good_weights) (C_all_zero : Cal P w K mg base 1 "all_zero" ["numbers"] sp_all_zero) : Cal P w K mg base 3 "first_bound" ["rows", "weights", "side"] sp_first_bound :=
  .mk_ DF (fun F => F.binds (fun _ _ _ _ _ _ us hl => match us, hl with | [_, _, _], _ => rfl)) fun F => okA F sc_first_bound (fun _ _ _ _ q => A3_len q) (fun cdv A outer s H E hr =>
    (ass_cons (as_if (at_not (at_tru tru_A (ae_cal C_good_weights (hr.mono (by decide)) (by rfl) (aa_cons (ae_var 1 (pv 1)) (aa_cons (ae_callB call_lenA (by rfl) T.len (by decide +kernel) (aa_cons (ae_var 0 (pv 0)) aa_nil)) aa_nil))))) (ass_one (as_ret ae_non)) ass_nil)
    (ass_cons (as_set (i := 3) sc_first_bound.nd rfl (Or.inl rfl) (ae_cal C_mixed (hr.mono (by decide)) (by rfl) (aa_cons (ae_var 0 (pv 0)) (aa_cons (ae_var 1 (pv 1)) aa_nil))))
    (ass_cons (as_if (at_w (aw_or (at_cmp op_ltA (ae_callB call_lenA (by rfl) T.len (by decide +kernel) (aa_cons (ae_var 3 (pv 3)) aa_nil)) ae_int (nomark _)) (aw_or (at_not (at_tru tru_A (ae_cal C_all_zero (hr.mono (by decide)) (by rfl) (aa_cons (ae_slice sl_A (ae_var 3 (pv 3)) (ao_some ae_int) ao_none) aa_nil)))) (aw_or1 (at_cmp op_leA (ae_op op_mulA (ae_ix (ix_A (hu_of hr)) (ae_var 3 (pv 3)) ae_int (fun _ _ => rfl)) (ae_var 2 (pv 2))) ae_int (nomark _)))))) (ass_one (as_ret ae_non)) ass_nil)
    (ass_cons (as_set (i := 4) sc_first_bound.nd rfl (Or.inl rfl) (ae_cal C_ratio (hr.mono (by decide)) (by rfl) (aa_cons (ae_un un_negA (ae_ix (ix_A (hu_of hr)) (ae_var 3 (pv 3)) ae_int (fun _ _ => rfl))) (aa_cons (ae_ix (ix_A (hu_of hr)) (ae_var 3 (pv 3)) ae_int (fun _ _ => rfl)) aa_nil))))
    (ass_cons (as_if (at_cmp (op_eqA hr.units) (ae_var 2 (pv 2)) ae_int (nomark _)) (ass_cons (as_if (at_cmp (op_eqA hr.units) (ae_ix (ix_A (hu_of hr)) (ae_var 3 (pv 3)) ae_int (fun _ _ => rfl)) ae_int (nomark _)) (ass_one (as_ret (ae_op op_addA (ae_cal C_floor_of (hr.mono (by decide)) (by rfl) (aa_cons (ae_var 4 (pv 4)) aa_nil)) ae_int))) ass_nil)
    (ass_one (as_ret (ae_cal C_ceiling_of (hr.mono (by decide)) (by rfl) (aa_cons (ae_var 4 (pv 4)) aa_nil))))) ass_nil)
    (ass_cons (as_if (at_cmp (op_eqA hr.units) (ae_ix (ix_A (hu_of hr)) (ae_var 3 (pv 3)) ae_int (fun _ _ => rfl)) ae_int (nomark _)) (ass_one (as_ret (ae_op op_subA (ae_cal C_ceiling_of (hr.mono (by decide)) (by rfl) (aa_cons (ae_var 4 (pv 4)) aa_nil)) ae_int))) ass_nil)
    (ass_one (as_ret (ae_cal C_floor_of (hr.mono (by decide)) (by rfl) (aa_cons (ae_var 4 (pv 4)) aa_nil)))))))))))
    fun xs h R c1 c2 q => match xs, q with | [x0, x1, x2], q => pure_first_bound x0 x1 x2 h R c1 c2 q
abbrev st_shows_empty : Stmt := topS 12
theorem sc_shows_empty : FnScope ["rows", "k", "proof", "whole", "low", "high"] ["rows", "k", "proof", "whole"] (defScope st_shows_empty) := ⟨rfl, rfl, rfl, by decide +kernel, rfl, by decide +kernel, by decide +kernel⟩
theorem cal_shows_empty (T : Txt K mg) (DF : DefIs K mg "shows_empty" st_shows_empty) (C_adds_up : Cal P w K mg base 3 "adds_up" ["rows", "weights"] sp_adds_up) (C_first_bound : Cal P w K mg base 3 "first_bound" ["rows", "weights", "side"] sp_first_bound) : Cal P w K mg base 4 "shows_empty" ["rows", "k", "proof", "whole"] sp_shows_empty :=
  .mk_ DF (fun F => F.binds (fun _ _ _ _ _ _ us hl => match us, hl with | [_, _, _, _], _ => rfl)) fun F => okA F sc_shows_empty (fun _ _ _ _ q => A4_len q) (fun cdv A outer s H E hr =>
    (ass_cons (as_if (at_w (aw_or (at_not (at_tru tru_A (ae_callB call_instA (by rfl) T.isinstance (by decide +kernel) (aa_cons (ae_var 2 (pv 2)) (aa_cons (ae_ty (by rfl) T.tuple (by decide +kernel)) aa_nil))))) (aw_or1 (at_not (at_tru tru_A (ae_var 0 (pv 0))))))) (ass_one (as_ret ae_bl)) ass_nil)
    (ass_cons (as_if (at_w (aw_and (at_cmp (op_eqA hr.units) (ae_callB call_lenA (by rfl) T.len (by decide +kernel) (aa_cons (ae_var 2 (pv 2)) aa_nil)) ae_int (nomark _)) (aw_and1 (at_cmp (op_eqA hr.units) (ae_ix (ix_A (hu_of hr)) (ae_var 2 (pv 2)) ae_int (fun _ _ => rfl)) ae_str (nomark _))))) (ass_one (as_ret (ae_cal C_adds_up (hr.mono (by decide)) (by rfl) (aa_cons (ae_var 0 (pv 0)) (aa_cons (ae_ix (ix_A (hu_of hr)) (ae_var 2 (pv 2)) ae_int (fun _ _ => rfl)) aa_nil))))) ass_nil)
    (ass_cons (as_if (at_w (aw_and (at_cmp (op_eqA hr.units) (ae_callB call_lenA (by rfl) T.len (by decide +kernel) (aa_cons (ae_var 2 (pv 2)) aa_nil)) ae_int (nomark _)) (aw_and (at_cmp (op_eqA hr.units) (ae_ix (ix_A (hu_of hr)) (ae_var 2 (pv 2)) ae_int (fun _ _ => rfl)) ae_str (nomark _)) (aw_and (at_cmp (op_eqA hr.units) (ae_var 3 (pv 3)) ae_int (nomark _)) (aw_and1 (at_cmp op_gtA (ae_var 1 (pv 1)) ae_int (nomark _))))))) (ass_cons (as_set (i := 4) sc_shows_empty.nd rfl (Or.inl rfl) (ae_cal C_first_bound (hr.mono (by decide)) (by rfl) (aa_cons (ae_var 0 (pv 0)) (aa_cons (ae_ix (ix_A (hu_of hr)) (ae_var 2 (pv 2)) ae_int (fun _ _ => rfl)) (aa_cons ae_int aa_nil)))))
    (ass_cons (as_set (i := 5) sc_shows_empty.nd rfl (Or.inl rfl) (ae_cal C_first_bound (hr.mono (by decide)) (by rfl) (aa_cons (ae_var 0 (pv 0)) (aa_cons (ae_ix (ix_A (hu_of hr)) (ae_var 2 (pv 2)) ae_int (fun _ _ => rfl)) (aa_cons (ae_un un_negA ae_int) aa_nil)))))
    (ass_one (as_ret (ae_and (ae_cmp op_notNA (ae_var 4 (pv 4)) ae_non (nomark _)) (ae_and (ae_cmp op_notNA (ae_var 5 (pv 5)) ae_non (nomark _)) (ae_one (ae_cmp op_gtA (ae_var 4 (pv 4)) (ae_var 5 (pv 5)) (nomark _))))))))) ass_nil)
    (ass_one (as_ret ae_bl))))))
    fun xs h R c1 c2 q => match xs, q with | [x0, x1, x2, x3], q => pure_shows_empty x0 x1 x2 x3 h R c1 c2 q
abbrev st_law_begin : Stmt := topS 14
theorem sc_law_begin : FnScope ["script", "cell"] ["script"] (defScope st_law_begin) := ⟨rfl, rfl, rfl, by decide +kernel, rfl, by decide +kernel, by decide +kernel⟩
theorem cal_law_begin (T : Txt K mg) (DF : DefIs K mg "_law_begin" st_law_begin) : Cal P w K mg base 1 "_law_begin" ["script"] sp_law_begin :=
  .mk_ DF (fun F => F.binds (fun _ _ _ _ _ _ us hl => match us, hl with | [_], _ => rfl)) fun F => okA F sc_law_begin (fun _ _ _ _ q => A1_len q) (fun cdv A outer s H E hr =>
    (ass_one (as_ret (ae_lst (aa_cons (ae_lc (gr := (gName 1)) rfl sc_law_begin.nd (ai_seq (ae_var 0 (pv 0))) (blkOk_by (N := ["script", "cell"]) (sc := defScope st_law_begin) (own := [("cell", 1)]) (by decide +kernel)) (cg_name (by decide)) (fun _ _ _ _ _ hq q => hq _ _ q) (fun _ _ _ _ _ => pg_name (i := 1) sc_law_begin.nd rfl (Or.inl rfl)) (fun _ _ _ _ _ => ats_nil) (fun _ _ _ _ _ => (ae_callTy call_intA (by rfl) T.int (by decide +kernel) (aa_cons (ae_var 1 (pv 1)) aa_nil)))) (aa_cons ae_int (aa_cons ae_int (aa_cons ae_int (aa_cons ae_int aa_nil)))))))))
    fun xs h R c1 c2 q => match xs, q with | [x0], q => pure_law_begin x0 h R c1 c2 q
abbrev st_law_draw : Stmt := topS 15
theorem sc_law_draw : FnScope ["d", "many", "found", "size", "cell"] ["d", "many"] (defScope st_law_draw) := ⟨rfl, rfl, rfl, by decide +kernel, rfl, by decide +kernel, by decide +kernel⟩
theorem cal_law_draw (T : Txt K mg) (DF : DefIs K mg "_law_draw" st_law_draw) : Cal P w K mg base 1 "_law_draw" ["d", "many"] sp_law_draw :=
  .mk_ DF (fun F => F.binds (fun _ _ _ _ _ _ us hl => match us, hl with | [_, _], _ => rfl)) fun F => okA F sc_law_draw (fun _ _ _ _ q => A2_len q) (fun cdv A outer s H E hr =>
    (ass_cons (as_if (at_cmp op_gtA (ae_ix (ix_A (hu_of hr)) (ae_var 0 (pv 0)) ae_int (fun _ _ => rfl)) ae_int (nomark _)) (ass_cons (as_set (i := 2) sc_law_draw.nd rfl (Or.inl rfl) (ae_ix (ix_A (hu_of hr)) (ae_var 0 (pv 0)) ae_int (fun _ _ => rfl)))
    (ass_cons (as_asg (ae_op op_fdivA (ae_var 2 (pv 2)) (ae_var 1 (pv 1))) (ag_sub (ae_var 0 (pv 0)) ae_int (set_A (hu_of hr))))
    (ass_one (as_ret (ae_op op_modA (ae_callTy call_intA (by rfl) T.int (by decide +kernel) (aa_cons (ae_var 2 (pv 2)) aa_nil)) (ae_var 1 (pv 1))))))) ass_nil)
    (ass_cons (as_set (i := 3) sc_law_draw.nd rfl (Or.inl rfl) ae_int)
    (ass_cons (as_if (at_cmp op_ltA (ae_ix (ix_A (hu_of hr)) (ae_var 0 (pv 0)) ae_int (fun _ _ => rfl)) (ae_callB call_lenA (by rfl) T.len (by decide +kernel) (aa_cons (ae_ix (ix_A (hu_of hr)) (ae_var 0 (pv 0)) ae_int (fun _ _ => rfl)) aa_nil)) (nomark _)) (ass_cons (as_set (i := 4) sc_law_draw.nd rfl (Or.inl rfl) (ae_ix (ix_A (hu_of hr)) (ae_ix (ix_A (hu_of hr)) (ae_var 0 (pv 0)) ae_int (fun _ _ => rfl)) (ae_ix (ix_A (hu_of hr)) (ae_var 0 (pv 0)) ae_int (fun _ _ => rfl)) (fun _ _ => rfl)))
    (ass_one (as_set (i := 3) sc_law_draw.nd rfl (Or.inl rfl) (ae_op op_addA (ae_op op_mulA ae_int (ae_callB call_absA (by rfl) T.abs (by decide +kernel) (aa_cons (ae_var 4 (pv 4)) aa_nil))) (ae_callTy call_intA (by rfl) T.int (by decide +kernel) (aa_cons (ae_cmp op_ltA (ae_var 4 (pv 4)) ae_int (nomark _)) aa_nil)))))) ass_nil)
    (ass_cons (as_augS (ae_var 0 (pv 0)) ae_int (get_A (hu_of hr)) ae_int ip_addA (set_A (hu_of hr)))
    (ass_cons (as_if (at_cmp op_geA (ae_var 3 (pv 3)) (ae_op op_mulA ae_int (ae_op op_powA ae_int ae_int)) (nomark _)) (ass_cons (as_set (i := 2) sc_law_draw.nd rfl (Or.inl rfl) (ae_op op_modA (ae_callTy call_intA (by rfl) T.int (by decide +kernel) (aa_cons (ae_op op_fdivA (ae_var 3 (pv 3)) ae_int) aa_nil)) (ae_op op_shlA ae_int ae_int)))
    (ass_cons (as_asg (ae_op op_fdivA (ae_var 2 (pv 2)) (ae_var 1 (pv 1))) (ag_sub (ae_var 0 (pv 0)) ae_int (set_A (hu_of hr))))
    (ass_one (as_ret (ae_op op_modA (ae_callTy call_intA (by rfl) T.int (by decide +kernel) (aa_cons (ae_var 2 (pv 2)) aa_nil)) (ae_var 1 (pv 1))))))) ass_nil)
    (ass_cons (as_asg (ae_op op_modA (ae_callTy call_intA (by rfl) T.int (by decide +kernel) (aa_cons (ae_op op_addA (ae_op op_addA (ae_op op_addA (ae_op op_mulA (ae_ix (ix_A (hu_of hr)) (ae_var 0 (pv 0)) ae_int (fun _ _ => rfl)) ae_int) (ae_op op_mulA (ae_op op_modA (ae_callTy call_intA (by rfl) T.int (by decide +kernel) (aa_cons (ae_var 3 (pv 3)) aa_nil)) ae_int) ae_int)) (ae_op op_mulA (ae_ix (ix_A (hu_of hr)) (ae_var 0 (pv 0)) ae_int (fun _ _ => rfl)) ae_int)) ae_int) aa_nil)) ae_int) (ag_sub (ae_var 0 (pv 0)) ae_int (set_A (hu_of hr))))
    (ass_one (as_ret (ae_op op_modA (ae_callTy call_intA (by rfl) T.int (by decide +kernel) (aa_cons (ae_op op_fdivA (ae_ix (ix_A (hu_of hr)) (ae_var 0 (pv 0)) ae_int (fun _ _ => rfl)) ae_int) aa_nil)) (ae_var 1 (pv 1))))))))))))
    fun xs h R c1 c2 q => match xs, q with | [x0, x1], q => pure_law_draw x0 x1 h R c1 c2 q
abbrev st_law_pick : Stmt := topS 16
theorem sc_law_pick : FnScope ["d", "row"] ["d", "row"] (defScope st_law_pick) := ⟨rfl, rfl, rfl, by decide +kernel, rfl, by decide +kernel, by decide +kernel⟩
theorem cal_law_pick (T : Txt K mg) (DF : DefIs K mg "_law_pick" st_law_pick) (C_law_draw : Cal P w K mg base 1 "_law_draw" ["d", "many"] sp_law_draw) : Cal P w K mg base 2 "_law_pick" ["d", "row"] sp_law_pick :=
  .mk_ DF (fun F => F.binds (fun _ _ _ _ _ _ us hl => match us, hl with | [_, _], _ => rfl)) fun F => okA F sc_law_pick (fun _ _ _ _ q => A2_len q) (fun cdv A outer s H E hr =>
    (ass_one (as_ret (ae_ix (ix_A (hu_of hr)) (ae_var 1 (pv 1)) (ae_cal C_law_draw (hr.mono (by decide)) (by rfl) (aa_cons (ae_var 0 (pv 0)) (aa_cons (ae_callB call_lenA (by rfl) T.len (by decide +kernel) (aa_cons (ae_var 1 (pv 1)) aa_nil)) aa_nil))) (fun _ _ => rfl)))))
    fun xs h R c1 c2 q => match xs, q with | [x0, x1], q => pure_law_pick x0 x1 h R c1 c2 q
abbrev st_law_rare : Stmt := topS 17
theorem sc_law_rare : FnScope ["d", "many"] ["d", "many"] (defScope st_law_rare) := ⟨rfl, rfl, rfl, by decide +kernel, rfl, by decide +kernel, by decide +kernel⟩
theorem cal_law_rare (T : Txt K mg) (DF : DefIs K mg "_law_rare" st_law_rare) (C_law_draw : Cal P w K mg base 1 "_law_draw" ["d", "many"] sp_law_draw) : Cal P w K mg base 2 "_law_rare" ["d", "many"] sp_law_rare :=
  .mk_ DF (fun F => F.binds (fun _ _ _ _ _ _ us hl => match us, hl with | [_, _], _ => rfl)) fun F => okA F sc_law_rare (fun _ _ _ _ q => A2_len q) (fun cdv A outer s H E hr =>
    (ass_one (as_ret (ae_cmp (op_eqA hr.units) (ae_cal C_law_draw (hr.mono (by decide)) (by rfl) (aa_cons (ae_var 0 (pv 0)) (aa_cons (ae_var 1 (pv 1)) aa_nil))) (ae_op op_fdivA (ae_var 1 (pv 1)) ae_int) (nomark _)))))
    fun xs h R c1 c2 q => match xs, q with | [x0, x1], q => pure_law_rare x0 x1 h R c1 c2 q
abbrev st_law_gcd : Stmt := topS 18
theorem sc_law_gcd : FnScope ["a", "b", "k"] ["a", "b"] (defScope st_law_gcd) := ⟨rfl, rfl, rfl, by decide +kernel, rfl, by decide +kernel, by decide +kernel⟩
theorem cal_law_gcd (T : Txt K mg) (DF : DefIs K mg "_law_gcd" st_law_gcd) : Cal P w K mg base 1 "_law_gcd" ["a", "b"] sp_law_gcd :=
  .mk_ DF (fun F => F.binds (fun _ _ _ _ _ _ us hl => match us, hl with | [_, _], _ => rfl)) fun F => okA F sc_law_gcd (fun _ _ _ _ q => A2_len q) (fun cdv A outer s H E hr =>
    (ass_cons (as_set (i := 0) sc_law_gcd.nd rfl (Or.inl rfl) (ae_callB call_absA (by rfl) T.abs (by decide +kernel) (aa_cons (ae_var 0 (pv 0)) aa_nil)))
    (ass_cons (as_set (i := 1) sc_law_gcd.nd rfl (Or.inl rfl) (ae_callB call_absA (by rfl) T.abs (by decide +kernel) (aa_cons (ae_var 1 (pv 1)) aa_nil)))
    (ass_cons (as_for PassesOwn.never rfl (ai_range1 (by rfl) T.range (aa_cons ae_int aa_nil)) (ag_name (i := 2) sc_law_gcd.nd rfl (Or.inl rfl)) (ass_cons (as_if (at_cmp (op_eqA hr.units) (ae_var 1 (pv 1)) ae_int (nomark _)) (ass_one as_break) ass_nil)
    (ass_one (as_par (i := 0) (j := 1) rfl sc_law_gcd.nd rfl rfl (by decide) rfl rfl (aa_cons (ae_var 1 (pv 1)) (aa_cons (ae_op op_modA (ae_callTy call_intA (by rfl) T.int (by decide +kernel) (aa_cons (ae_var 0 (pv 0)) aa_nil)) (ae_var 1 (pv 1))) aa_nil)) (by rfl)))))
    (ass_one (as_ret (ae_var 0 (pv 0))))))))
    fun xs h R c1 c2 q => match xs, q with | [x0, x1], q => pure_law_gcd x0 x1 h R c1 c2 q
abbrev st_law_is_int : Stmt := topS 19
theorem sc_law_is_int : FnScope ["thing"] ["thing"] (defScope st_law_is_int) := ⟨rfl, rfl, rfl, by decide +kernel, rfl, by decide +kernel, by decide +kernel⟩
theorem cal_law_is_int (T : Txt K mg) (DF : DefIs K mg "_law_is_int" st_law_is_int) : Cal P w K mg base 1 "_law_is_int" ["thing"] sp_law_is_int :=
  .mk_ DF (fun F => F.binds (fun _ _ _ _ _ _ us hl => match us, hl with | [_], _ => rfl)) fun F => okA F sc_law_is_int (fun _ _ _ _ q => A1_len q) (fun cdv A outer s H E hr =>
    (ass_one (as_ret (ae_and (ae_callB call_instA (by rfl) T.isinstance (by decide +kernel) (aa_cons (ae_var 0 (pv 0)) (aa_cons (ae_ty (by rfl) T.int (by decide +kernel)) aa_nil))) (ae_one (ae_not (ae_callB call_instA (by rfl) T.isinstance (by decide +kernel) (aa_cons (ae_var 0 (pv 0)) (aa_cons (ae_ty (by rfl) T.bool (by decide +kernel)) aa_nil)))))))))
    fun xs h R c1 c2 q => match xs, q with | [x0], q => pure_law_is_int x0 h R c1 c2 q
abbrev st_law_lowest : Stmt := topS 20
theorem sc_law_lowest : FnScope ["row", "g", "number"] ["row"] (defScope st_law_lowest) := ⟨rfl, rfl, rfl, by decide +kernel, rfl, by decide +kernel, by decide +kernel⟩
theorem cal_law_lowest (T : Txt K mg) (DF : DefIs K mg "_law_lowest" st_law_lowest) (C_law_gcd : Cal P w K mg base 1 "_law_gcd" ["a", "b"] sp_law_gcd) : Cal P w K mg base 2 "_law_lowest" ["row"] sp_law_lowest :=
  .mk_ DF (fun F => F.binds (fun _ _ _ _ _ _ us hl => match us, hl with | [_], _ => rfl)) fun F => okA F sc_law_lowest (fun _ _ _ _ q => A1_len q) (fun cdv A outer s H E hr =>
    (ass_cons (as_set (i := 1) sc_law_lowest.nd rfl (Or.inr rfl) ae_int)
    (ass_cons (as_for PassesOwn.never rfl (ai_seq (ae_var 0 (pv 0))) (ag_name (i := 2) sc_law_lowest.nd rfl (Or.inl rfl)) (ass_one (as_if (at_w (aw_and (at_cmp (op_neA hr.units) (ae_var 2 (pv 2)) ae_int (nomark _)) (aw_and1 (at_cmp (op_neA hr.units) (ae_var 1 (pv 1)) ae_int (nomark _))))) (ass_one (as_set (i := 1) sc_law_lowest.nd rfl (Or.inr rfl) (ae_cal C_law_gcd (hr.mono (by decide)) (by rfl) (aa_cons (ae_var 1 (pv 1)) (aa_cons (ae_var 2 (pv 2)) aa_nil))))) ass_nil)))
    (ass_cons (as_if (at_cmp op_gtA (ae_var 1 (pv 1)) ae_int (nomark _)) (ass_one (as_ret (ae_lc (gr := (gName 2)) rfl sc_law_lowest.nd (ai_seq (ae_var 0 (pv 0))) (blkOk_by (N := ["row", "g", "number"]) (sc := defScope st_law_lowest) (own := [("number", 2)]) (by decide +kernel)) (cg_name (by decide)) (fun _ _ _ _ _ hq q => hq _ _ q) (fun _ _ _ _ _ => pg_name (i := 2) sc_law_lowest.nd rfl (Or.inl rfl)) (fun _ _ _ _ _ => ats_nil) (fun _ _ _ _ _ => (ae_op op_fdivA (ae_callTy call_intA (by rfl) T.int (by decide +kernel) (aa_cons (ae_var 2 (pv 2)) aa_nil)) (ae_var 1 (pv 1))))))) ass_nil)
    (ass_one (as_ret (ae_callTy call_listA (by rfl) T.list (by decide +kernel) (aa_cons (ae_var 0 (pv 0)) aa_nil))))))))
    fun xs h R c1 c2 q => match xs, q with | [x0], q => pure_law_lowest x0 h R c1 c2 q
abbrev st_law_adds : Stmt := topS 21
theorem sc_law_adds : FnScope ["rows", "weights", "total", "row", "weight", "a", "b"] ["rows", "weights"] (defScope st_law_adds) := ⟨rfl, rfl, rfl, by decide +kernel, rfl, by decide +kernel, by decide +kernel⟩
theorem cal_law_adds (T : Txt K mg) (DF : DefIs K mg "_law_adds" st_law_adds) : Cal P w K mg base 1 "_law_adds" ["rows", "weights"] sp_law_adds :=
  .mk_ DF (fun F => F.binds (fun _ _ _ _ _ _ us hl => match us, hl with | [_, _], _ => rfl)) fun F => okA F sc_law_adds (fun _ _ _ _ q => A2_len q) (fun cdv A outer s H E hr =>
    (ass_cons (as_set (i := 2) sc_law_adds.nd rfl (Or.inl rfl) (ae_op op_repLA (ae_lst (aa_cons ae_int aa_nil)) (ae_callB call_lenA (by rfl) T.len (by decide +kernel) (aa_cons (ae_ix (ix_A (hu_of hr)) (ae_var 0 (pv 0)) ae_int (fun _ _ => rfl)) aa_nil))))
    (ass_cons (as_for PassesOwn.never rfl (ai_zipM (by rfl) T.zip (aa_cons (ae_var 0 (pv 0)) (aa_cons (ae_var 1 (pv 1)) aa_nil))) (ag_tup rfl (ags_cons (ag_name (i := 3) sc_law_adds.nd rfl (Or.inl rfl)) (ags_cons (ag_name (i := 4) sc_law_adds.nd rfl (Or.inr rfl)) ags_nil))) (ass_one (as_setLc (i := 2) (gr := (gTup _ 2 (rNms [5, 6]))) rfl sc_law_adds.nd rfl rfl (sw_true rfl rfl rfl (by decide +kernel)) (ai_zipM (by rfl) T.zip (aa_cons (ae_var 2 (pv 2)) (aa_cons (ae_var 3 (pv 3)) aa_nil))) (blkOk_by (N := ["rows", "weights", "total", "row", "weight", "a", "b"]) (sc := defScope st_law_adds) (own := [("a", 5), ("b", 6)]) (by decide +kernel)) (cg_tup (cgs_nms [5, 6] (by decide))) (gTup_mono [5, 6]) (fun _ _ _ _ _ => pg_tup rfl (pgs_cons (pg_name (i := 5) sc_law_adds.nd rfl (Or.inl rfl)) (pgs_cons (pg_name (i := 6) sc_law_adds.nd rfl (Or.inl rfl)) pgs_nil))) (fun _ _ _ _ _ => ats_nil) (fun _ _ _ _ _ => (ae_op op_addA (ae_var 5 (pv 5)) (ae_op op_mulA (ae_var 4 (pv 4)) (ae_var 6 (pv 6))))))))
    (ass_one (as_ret (ae_var 2 (pv 2)))))))
    fun xs h R c1 c2 q => match xs, q with | [x0, x1], q => pure_law_adds x0 x1 h R c1 c2 q
abbrev st_law_good_weights : Stmt := topS 22
theorem sc_law_good_weights : FnScope ["rows", "weights", "weight"] ["rows", "weights"] (defScope st_law_good_weights) := ⟨rfl, rfl, rfl, by decide +kernel, rfl, by decide +kernel, by decide +kernel⟩
theorem cal_law_good_weights (T : Txt K mg) (DF : DefIs K mg "_law_good_weights" st_law_good_weights) (C_law_is_int : Cal P w K mg base 1 "_law_is_int" ["thing"] sp_law_is_int) : Cal P w K mg base 2 "_law_good_weights" ["rows", "weights"] sp_law_good_weights :=
  .mk_ DF (fun F => F.binds (fun _ _ _ _ _ _ us hl => match us, hl with | [_, _], _ => rfl)) fun F => okA F sc_law_good_weights (fun _ _ _ _ q => A2_len q) (fun cdv A outer s H E hr =>
    (ass_cons (as_if (at_w (aw_or (at_not (at_tru tru_A (ae_callB call_instA (by rfl) T.isinstance (by decide +kernel) (aa_cons (ae_var 1 (pv 1)) (aa_cons (ae_ty (by rfl) T.tuple (by decide +kernel)) aa_nil))))) (aw_or (at_cmp (op_neA hr.units) (ae_callB call_lenA (by rfl) T.len (by decide +kernel) (aa_cons (ae_var 1 (pv 1)) aa_nil)) (ae_callB call_lenA (by rfl) T.len (by decide +kernel) (aa_cons (ae_var 0 (pv 0)) aa_nil)) (nomark _)) (aw_or1 (at_cmp (op_eqA hr.units) (ae_callB call_lenA (by rfl) T.len (by decide +kernel) (aa_cons (ae_var 0 (pv 0)) aa_nil)) ae_int (nomark _)))))) (ass_one (as_ret ae_bl)) ass_nil)
    (ass_one (as_ret (ae_callB (call_allA rfl) (by rfl) T.all (by decide +kernel) (aa_cons (ae_lc (gr := (gName 2)) rfl sc_law_good_weights.nd (ai_seq (ae_var 1 (pv 1))) (blkOk_by (N := ["rows", "weights", "weight"]) (sc := defScope st_law_good_weights) (own := [("weight", 2)]) (by decide +kernel)) (cg_name (by decide)) (fun _ _ _ _ _ hq q => hq _ _ q) (fun _ _ _ _ _ => pg_name (i := 2) sc_law_good_weights.nd rfl (Or.inl rfl)) (fun _ _ _ _ _ => ats_nil) (fun _ _ _ _ _ => (ae_and (ae_cal C_law_is_int (hr.mono (by decide)) (by rfl) (aa_cons (ae_var 2 (pv 2)) aa_nil)) (ae_one (ae_cmp op_geA (ae_var 2 (pv 2)) ae_int (nomark _)))))) aa_nil))))))
    fun xs h R c1 c2 q => match xs, q with | [x0, x1], q => pure_law_good_weights x0 x1 h R c1 c2 q
abbrev st_law_whole_bound : Stmt := topS 23
theorem sc_law_whole_bound : FnScope ["rows", "weights", "side", "total", "value", "number"] ["rows", "weights", "side"] (defScope st_law_whole_bound) := ⟨rfl, rfl, rfl, by decide +kernel, rfl, by decide +kernel, by decide +kernel⟩
theorem cal_law_whole_bound (T : Txt K mg) (DF : DefIs K mg "_law_whole_bound" st_law_whole_bound) (C_law_adds : Cal P w K mg base 1 "_law_adds" ["rows", "weights"] sp_law_adds) (C_law_good_weights : Cal P w K mg base 2 "_law_good_weights" ["rows", "weights"] sp_law_good_weights) : Cal P w K mg base 3 "_law_whole_bound" ["rows", "weights", "side"] sp_law_whole_bound :=
  .mk_ DF (fun F => F.binds (fun _ _ _ _ _ _ us hl => match us, hl with | [_, _, _], _ => rfl)) fun F => okA F sc_law_whole_bound (fun _ _ _ _ q => A3_len q) (fun cdv A outer s H E hr =>
    (ass_cons (as_if (at_not (at_tru tru_A (ae_cal C_law_good_weights (hr.mono (by decide)) (by rfl) (aa_cons (ae_var 0 (pv 0)) (aa_cons (ae_var 1 (pv 1)) aa_nil))))) (ass_one (as_ret ae_non)) ass_nil)
    (ass_cons (as_set (i := 3) sc_law_whole_bound.nd rfl (Or.inl rfl) (ae_cal C_law_adds (hr.mono (by decide)) (by rfl) (aa_cons (ae_var 0 (pv 0)) (aa_cons (ae_var 1 (pv 1)) aa_nil))))
    (ass_cons (as_if (at_w (aw_or (at_cmp op_ltA (ae_callB call_lenA (by rfl) T.len (by decide +kernel) (aa_cons (ae_var 3 (pv 3)) aa_nil)) ae_int (nomark _)) (aw_or (at_tru tru_A (ae_callB (call_anyA rfl) (by rfl) T.any (by decide +kernel) (aa_cons (ae_lc (gr := (gName 5)) rfl sc_law_whole_bound.nd (ai_seq (ae_slice sl_A (ae_var 3 (pv 3)) (ao_some ae_int) ao_none)) (blkOk_by (N := ["rows", "weights", "side", "total", "value", "number"]) (sc := defScope st_law_whole_bound) (own := [("number", 5)]) (by decide +kernel)) (cg_name (by decide)) (fun _ _ _ _ _ hq q => hq _ _ q) (fun _ _ _ _ _ => pg_name (i := 5) sc_law_whole_bound.nd rfl (Or.inl rfl)) (fun _ _ _ _ _ => ats_nil) (fun _ _ _ _ _ => (ae_cmp (op_neA hr.units) (ae_var 5 (pv 5)) ae_int (nomark _)))) aa_nil))) (aw_or1 (at_cmp op_leA (ae_op op_mulA (ae_ix (ix_A (hu_of hr)) (ae_var 3 (pv 3)) ae_int (fun _ _ => rfl)) (ae_var 2 (pv 2))) ae_int (nomark _)))))) (ass_one (as_ret ae_non)) ass_nil)
    (ass_cons (as_if (at_cmp (op_eqA hr.units) (ae_var 2 (pv 2)) ae_int (nomark _)) (ass_cons (as_set (i := 4) sc_law_whole_bound.nd rfl (Or.inl rfl) (ae_un un_negA (ae_op op_fdivA (ae_ix (ix_A (hu_of hr)) (ae_var 3 (pv 3)) ae_int (fun _ _ => rfl)) (ae_ix (ix_A (hu_of hr)) (ae_var 3 (pv 3)) ae_int (fun _ _ => rfl)))))
    (ass_one (as_ret (ae_op op_addA (ae_var 4 (pv 4)) (ae_callTy call_intA (by rfl) T.int (by decide +kernel) (aa_cons (ae_and (ae_cmp op_gtA (ae_ix (ix_A (hu_of hr)) (ae_var 3 (pv 3)) ae_int (fun _ _ => rfl)) ae_int (nomark _)) (ae_one (ae_cmp (op_eqA hr.units) (ae_op op_addA (ae_op op_mulA (ae_var 4 (pv 4)) (ae_ix (ix_A (hu_of hr)) (ae_var 3 (pv 3)) ae_int (fun _ _ => rfl))) (ae_ix (ix_A (hu_of hr)) (ae_var 3 (pv 3)) ae_int (fun _ _ => rfl))) ae_int (nomark _)))) aa_nil)))))) ass_nil)
    (ass_cons (as_set (i := 4) sc_law_whole_bound.nd rfl (Or.inl rfl) (ae_op op_fdivA (ae_ix (ix_A (hu_of hr)) (ae_var 3 (pv 3)) ae_int (fun _ _ => rfl)) (ae_un un_negA (ae_ix (ix_A (hu_of hr)) (ae_var 3 (pv 3)) ae_int (fun _ _ => rfl)))))
    (ass_one (as_ret (ae_op op_subA (ae_var 4 (pv 4)) (ae_callTy call_intA (by rfl) T.int (by decide +kernel) (aa_cons (ae_and (ae_cmp op_gtA (ae_ix (ix_A (hu_of hr)) (ae_var 3 (pv 3)) ae_int (fun _ _ => rfl)) ae_int (nomark _)) (ae_one (ae_cmp (op_eqA hr.units) (ae_op op_addA (ae_op op_mulA (ae_var 4 (pv 4)) (ae_ix (ix_A (hu_of hr)) (ae_var 3 (pv 3)) ae_int (fun _ _ => rfl))) (ae_ix (ix_A (hu_of hr)) (ae_var 3 (pv 3)) ae_int (fun _ _ => rfl))) ae_int (nomark _)))) aa_nil)))))))))))
    fun xs h R c1 c2 q => match xs, q with | [x0, x1, x2], q => pure_law_whole_bound x0 x1 x2 h R c1 c2 q
abbrev st_law_shut : Stmt := topS 24
theorem sc_law_shut : FnScope ["rows", "proof", "whole", "total", "low", "high", "number"] ["rows", "proof", "whole"] (defScope st_law_shut) := ⟨rfl, rfl, rfl, by decide +kernel, rfl, by decide +kernel, by decide +kernel⟩
theorem cal_law_shut (T : Txt K mg) (DF : DefIs K mg "_law_shut" st_law_shut) (C_law_adds : Cal P w K mg base 1 "_law_adds" ["rows", "weights"] sp_law_adds) (C_law_good_weights : Cal P w K mg base 2 "_law_good_weights" ["rows", "weights"] sp_law_good_weights) (C_law_whole_bound : Cal P w K mg base 3 "_law_whole_bound" ["rows", "weights", "side"] sp_law_whole_bound) : Cal P w K mg base 4 "_law_shut" ["rows", "proof", "whole"] sp_law_shut :=
  .mk_ DF (fun F => F.binds (fun _ _ _ _ _ _ us hl => match us, hl with | [_, _, _], _ => rfl)) fun F => okA F sc_law_shut (fun _ _ _ _ q => A3_len q) (fun cdv A outer s H E hr =>
    (ass_cons (as_if (at_w (aw_or (at_not (at_tru tru_A (ae_callB call_instA (by rfl) T.isinstance (by decide +kernel) (aa_cons (ae_var 1 (pv 1)) (aa_cons (ae_ty (by rfl) T.tuple (by decide +kernel)) aa_nil))))) (aw_or (at_cmp op_ltA (ae_callB call_lenA (by rfl) T.len (by decide +kernel) (aa_cons (ae_var 1 (pv 1)) aa_nil)) ae_int (nomark _)) (aw_or1 (at_cmp (op_eqA hr.units) (ae_callB call_lenA (by rfl) T.len (by decide +kernel) (aa_cons (ae_var 0 (pv 0)) aa_nil)) ae_int (nomark _)))))) (ass_one (as_ret ae_bl)) ass_nil)
    (ass_cons (as_if (at_w (aw_and (at_cmp (op_eqA hr.units) (ae_ix (ix_A (hu_of hr)) (ae_var 1 (pv 1)) ae_int (fun _ _ => rfl)) ae_str (nomark _)) (aw_and (at_cmp (op_eqA hr.units) (ae_callB call_lenA (by rfl) T.len (by decide +kernel) (aa_cons (ae_var 1 (pv 1)) aa_nil)) ae_int (nomark _)) (aw_and1 (at_tru tru_A (ae_cal C_law_good_weights (hr.mono (by decide)) (by rfl) (aa_cons (ae_var 0 (pv 0)) (aa_cons (ae_ix (ix_A (hu_of hr)) (ae_var 1 (pv 1)) ae_int (fun _ _ => rfl)) aa_nil)))))))) (ass_cons (as_set (i := 3) sc_law_shut.nd rfl (Or.inl rfl) (ae_cal C_law_adds (hr.mono (by decide)) (by rfl) (aa_cons (ae_var 0 (pv 0)) (aa_cons (ae_ix (ix_A (hu_of hr)) (ae_var 1 (pv 1)) ae_int (fun _ _ => rfl)) aa_nil))))
    (ass_one (as_ret (ae_and (ae_callB (call_allA rfl) (by rfl) T.all (by decide +kernel) (aa_cons (ae_lc (gr := (gName 6)) rfl sc_law_shut.nd (ai_seq (ae_slice sl_A (ae_var 3 (pv 3)) (ao_some ae_int) ao_none)) (blkOk_by (N := ["rows", "proof", "whole", "total", "low", "high", "number"]) (sc := defScope st_law_shut) (own := [("number", 6)]) (by decide +kernel)) (cg_name (by decide)) (fun _ _ _ _ _ hq q => hq _ _ q) (fun _ _ _ _ _ => pg_name (i := 6) sc_law_shut.nd rfl (Or.inl rfl)) (fun _ _ _ _ _ => ats_nil) (fun _ _ _ _ _ => (ae_cmp (op_eqA hr.units) (ae_var 6 (pv 6)) ae_int (nomark _)))) aa_nil)) (ae_one (ae_or (ae_cmp op_ltA (ae_ix (ix_A (hu_of hr)) (ae_var 3 (pv 3)) ae_int (fun _ _ => rfl)) ae_int (nomark _)) (ae_one (ae_and (ae_cmp (op_eqA hr.units) (ae_ix (ix_A (hu_of hr)) (ae_var 3 (pv 3)) ae_int (fun _ _ => rfl)) ae_int (nomark _)) (ae_one (ae_cmp op_gtA (ae_ix (ix_A (hu_of hr)) (ae_var 3 (pv 3)) ae_int (fun _ _ => rfl)) ae_int (nomark _))))))))))) ass_nil)
    (ass_cons (as_if (at_w (aw_or (at_cmp (op_neA hr.units) (ae_ix (ix_A (hu_of hr)) (ae_var 1 (pv 1)) ae_int (fun _ _ => rfl)) ae_str (nomark _)) (aw_or (at_cmp (op_neA hr.units) (ae_callB call_lenA (by rfl) T.len (by decide +kernel) (aa_cons (ae_var 1 (pv 1)) aa_nil)) ae_int (nomark _)) (aw_or1 (at_cmp (op_eqA hr.units) (ae_var 2 (pv 2)) ae_int (nomark _)))))) (ass_one (as_ret ae_bl)) ass_nil)
    (ass_cons (as_set (i := 4) sc_law_shut.nd rfl (Or.inl rfl) (ae_cal C_law_whole_bound (hr.mono (by decide)) (by rfl) (aa_cons (ae_var 0 (pv 0)) (aa_cons (ae_ix (ix_A (hu_of hr)) (ae_var 1 (pv 1)) ae_int (fun _ _ => rfl)) (aa_cons ae_int aa_nil)))))
    (ass_cons (as_set (i := 5) sc_law_shut.nd rfl (Or.inl rfl) (ae_cal C_law_whole_bound (hr.mono (by decide)) (by rfl) (aa_cons (ae_var 0 (pv 0)) (aa_cons (ae_ix (ix_A (hu_of hr)) (ae_var 1 (pv 1)) ae_int (fun _ _ => rfl)) (aa_cons (ae_un un_negA ae_int) aa_nil)))))
    (ass_one (as_ret (ae_and (ae_cmp op_notNA (ae_var 4 (pv 4)) ae_non (nomark _)) (ae_and (ae_cmp op_notNA (ae_var 5 (pv 5)) ae_non (nomark _)) (ae_one (ae_cmp op_gtA (ae_var 4 (pv 4)) (ae_var 5 (pv 5)) (nomark _)))))))))))))
    fun xs h R c1 c2 q => match xs, q with | [x0, x1, x2], q => pure_law_shut x0 x1 x2 h R c1 c2 q
abbrev st_law_share : Stmt := topS 25
theorem sc_law_share : FnScope ["d", "way", "great"] ["d"] (defScope st_law_share) := ⟨rfl, rfl, rfl, by decide +kernel, rfl, by decide +kernel, by decide +kernel⟩
theorem cal_law_share (T : Txt K mg) (DF : DefIs K mg "_law_share" st_law_share) (C_law_draw : Cal P w K mg base 1 "_law_draw" ["d", "many"] sp_law_draw) : Cal P w K mg base 2 "_law_share" ["d"] sp_law_share :=
  .mk_ DF (fun F => F.binds (fun _ _ _ _ _ _ us hl => match us, hl with | [_], _ => rfl)) fun F => okA F sc_law_share (fun _ _ _ _ q => A1_len q) (fun cdv A outer s H E hr =>
    (ass_cons (as_set (i := 1) sc_law_share.nd rfl (Or.inl rfl) (ae_cal C_law_draw (hr.mono (by decide)) (by rfl) (aa_cons (ae_var 0 (pv 0)) (aa_cons ae_int aa_nil))))
    (ass_cons (as_if (at_cmp (op_eqA hr.units) (ae_var 1 (pv 1)) ae_int (nomark _)) (ass_cons (as_set (i := 2) sc_law_share.nd rfl (Or.inl rfl) (ae_op op_addA (ae_op op_addA (ae_op op_mulA (ae_cal C_law_draw (hr.mono (by decide)) (by rfl) (aa_cons (ae_var 0 (pv 0)) (aa_cons ae_int aa_nil))) (ae_op op_powA ae_int ae_int)) (ae_op op_mulA (ae_cal C_law_draw (hr.mono (by decide)) (by rfl) (aa_cons (ae_var 0 (pv 0)) (aa_cons ae_int aa_nil))) (ae_op op_powA ae_int ae_int))) (ae_cal C_law_draw (hr.mono (by decide)) (by rfl) (aa_cons (ae_var 0 (pv 0)) (aa_cons ae_int aa_nil)))))
    (ass_one (as_ret (ae_op op_subA (ae_var 2 (pv 2)) (ae_op op_mulA (ae_op op_mulA ae_int (ae_var 2 (pv 2))) (ae_cal C_law_draw (hr.mono (by decide)) (by rfl) (aa_cons (ae_var 0 (pv 0)) (aa_cons ae_int aa_nil)))))))) ass_nil)
    (ass_one (as_ret (ae_ix (ix_A (hu_of hr)) (ae_lst (aa_cons ae_int (aa_cons ae_int (aa_cons ae_int (aa_cons ae_int (aa_cons ae_int (aa_cons ae_int (aa_cons ae_int (aa_cons ae_int (aa_cons ae_int (aa_cons ae_int (aa_cons ae_int (aa_cons ae_int (aa_cons (ae_un un_negA ae_int) (aa_cons (ae_un un_negA ae_int) (aa_cons (ae_un un_negA ae_int) (aa_cons (ae_un un_negA ae_int) (aa_cons (ae_un un_negA ae_int) (aa_cons (ae_un un_negA ae_int) (aa_cons (ae_un un_negA ae_int) aa_nil)))))))))))))))))))) (ae_var 1 (pv 1)) (fun _ _ => rfl)))))))
    fun xs h R c1 c2 q => match xs, q with | [x0], q => pure_law_share x0 h R c1 c2 q
abbrev st_law_told_row : Stmt := topS 26
theorem sc_law_told_row : FnScope ["strict", "numbers"] ["strict", "numbers"] (defScope st_law_told_row) := ⟨rfl, rfl, rfl, by decide +kernel, rfl, by decide +kernel, by decide +kernel⟩
theorem cal_law_told_row (T : Txt K mg) (DF : DefIs K mg "_law_told_row" st_law_told_row) (C_law_lowest : Cal P w K mg base 2 "_law_lowest" ["row"] sp_law_lowest) : Cal P w K mg base 3 "_law_told_row" ["strict", "numbers"] sp_law_told_row :=
  .mk_ DF (fun F => F.binds (fun _ _ _ _ _ _ us hl => match us, hl with | [_, _], _ => rfl)) fun F => okA F sc_law_told_row (fun _ _ _ _ q => A2_len q) (fun cdv A outer s H E hr =>
    (ass_one (as_ret (ae_op op_addA (ae_tup (aa_cons (ae_var 0 (pv 0)) aa_nil)) (ae_callTy call_tupleA (by rfl) T.tuple (by decide +kernel) (aa_cons (ae_cal C_law_lowest (hr.mono (by decide)) (by rfl) (aa_cons (ae_var 1 (pv 1)) aa_nil)) aa_nil))))))
    fun xs h R c1 c2 q => match xs, q with | [x0, x1], q => pure_law_told_row x0 x1 h R c1 c2 q
abbrev st_law_free_row : Stmt := topS 27
theorem sc_law_free_row : FnScope ["d", "k", "place"] ["d", "k"] (defScope st_law_free_row) := ⟨rfl, rfl, rfl, by decide +kernel, rfl, by decide +kernel, by decide +kernel⟩
theorem cal_law_free_row (T : Txt K mg) (DF : DefIs K mg "_law_free_row" st_law_free_row) (C_law_draw : Cal P w K mg base 1 "_law_draw" ["d", "many"] sp_law_draw) (C_law_share : Cal P w K mg base 2 "_law_share" ["d"] sp_law_share) (C_law_told_row : Cal P w K mg base 3 "_law_told_row" ["strict", "numbers"] sp_law_told_row) : Cal P w K mg base 4 "_law_free_row" ["d", "k"] sp_law_free_row :=
  .mk_ DF (fun F => F.binds (fun _ _ _ _ _ _ us hl => match us, hl with | [_, _], _ => rfl)) fun F => okA F sc_law_free_row (fun _ _ _ _ q => A2_len q) (fun cdv A outer s H E hr =>
    (ass_one (as_ret (ae_cal C_law_told_row (hr.mono (by decide)) (by rfl) (aa_cons (ae_callTy call_intA (by rfl) T.int (by decide +kernel) (aa_cons (ae_cmp (op_eqA hr.units) (ae_cal C_law_draw (hr.mono (by decide)) (by rfl) (aa_cons (ae_var 0 (pv 0)) (aa_cons ae_int aa_nil))) ae_int (nomark _)) aa_nil)) (aa_cons (ae_lc (gr := (gName 2)) rfl sc_law_free_row.nd (ai_range1 (by rfl) T.range (aa_cons (ae_op op_addA (ae_var 1 (pv 1)) ae_int) aa_nil)) (blkOk_by (N := ["d", "k", "place"]) (sc := defScope st_law_free_row) (own := [("place", 2)]) (by decide +kernel)) (cg_name (by decide)) (fun _ _ _ _ _ hq q => hq _ _ q) (fun _ _ _ _ _ => pg_name (i := 2) sc_law_free_row.nd rfl (Or.inl rfl)) (fun _ _ _ _ _ => ats_nil) (fun _ _ _ _ _ => (ae_cal C_law_share (hr.mono (by decide)) (by rfl) (aa_cons (ae_var 0 (pv 0)) aa_nil)))) aa_nil))))))
    fun xs h R c1 c2 q => match xs, q with | [x0, x1], q => pure_law_free_row x0 x1 h R c1 c2 q
abbrev st_law_weight : Stmt := topS 28
theorem sc_law_weight : FnScope ["d", "way"] ["d"] (defScope st_law_weight) := ⟨rfl, rfl, rfl, by decide +kernel, rfl, by decide +kernel, by decide +kernel⟩
theorem cal_law_weight (T : Txt K mg) (DF : DefIs K mg "_law_weight" st_law_weight) (C_law_draw : Cal P w K mg base 1 "_law_draw" ["d", "many"] sp_law_draw) : Cal P w K mg base 2 "_law_weight" ["d"] sp_law_weight :=
  .mk_ DF (fun F => F.binds (fun _ _ _ _ _ _ us hl => match us, hl with | [_], _ => rfl)) fun F => okA F sc_law_weight (fun _ _ _ _ q => A1_len q) (fun cdv A outer s H E hr =>
    (ass_cons (as_set (i := 1) sc_law_weight.nd rfl (Or.inl rfl) (ae_cal C_law_draw (hr.mono (by decide)) (by rfl) (aa_cons (ae_var 0 (pv 0)) (aa_cons ae_int aa_nil))))
    (ass_cons (as_if (at_cmp (op_eqA hr.units) (ae_var 1 (pv 1)) ae_int (nomark _)) (ass_one (as_ret (ae_op op_addA (ae_op op_addA ae_int (ae_op op_mulA (ae_cal C_law_draw (hr.mono (by decide)) (by rfl) (aa_cons (ae_var 0 (pv 0)) (aa_cons ae_int aa_nil))) ae_int)) (ae_cal C_law_draw (hr.mono (by decide)) (by rfl) (aa_cons (ae_var 0 (pv 0)) (aa_cons ae_int aa_nil)))))) ass_nil)
    (ass_one (as_ret (ae_ix (ix_A (hu_of hr)) (ae_lst (aa_cons ae_int (aa_cons ae_int (aa_cons ae_int (aa_cons ae_int (aa_cons ae_int (aa_cons ae_int (aa_cons ae_int (aa_cons ae_int (aa_cons ae_int (aa_cons ae_int (aa_cons ae_int (aa_cons ae_int (aa_cons ae_int aa_nil)))))))))))))) (ae_var 1 (pv 1)) (fun _ _ => rfl)))))))
    fun xs h R c1 c2 q => match xs, q with | [x0], q => pure_law_weight x0 h R c1 c2 q
abbrev st_law_summed : Stmt := topS 29
theorem sc_law_summed : FnScope ["rows", "weights", "k", "total", "row", "weight", "a", "b"] ["rows", "weights", "k"] (defScope st_law_summed) := ⟨rfl, rfl, rfl, by decide +kernel, rfl, by decide +kernel, by decide +kernel⟩
theorem cal_law_summed (T : Txt K mg) (DF : DefIs K mg "_law_summed" st_law_summed) : Cal P w K mg base 1 "_law_summed" ["rows", "weights", "k"] sp_law_summed :=
  .mk_ DF (fun F => F.binds (fun _ _ _ _ _ _ us hl => match us, hl with | [_, _, _], _ => rfl)) fun F => okA F sc_law_summed (fun _ _ _ _ q => A3_len q) (fun cdv A outer s H E hr =>
    (ass_cons (as_set (i := 3) sc_law_summed.nd rfl (Or.inl rfl) (ae_op op_repLA (ae_lst (aa_cons ae_int aa_nil)) (ae_op op_addA (ae_var 2 (pv 2)) ae_int)))
    (ass_cons (as_for PassesOwn.never rfl (ai_zipM (by rfl) T.zip (aa_cons (ae_var 0 (pv 0)) (aa_cons (ae_var 1 (pv 1)) aa_nil))) (ag_tup rfl (ags_cons (ag_name (i := 4) sc_law_summed.nd rfl (Or.inl rfl)) (ags_cons (ag_name (i := 5) sc_law_summed.nd rfl (Or.inr rfl)) ags_nil))) (ass_one (as_setLc (i := 3) (gr := (gTup _ 2 (rNms [6, 7]))) rfl sc_law_summed.nd rfl rfl (sw_true rfl rfl rfl (by decide +kernel)) (ai_zipM (by rfl) T.zip (aa_cons (ae_var 3 (pv 3)) (aa_cons (ae_var 4 (pv 4)) aa_nil))) (blkOk_by (N := ["rows", "weights", "k", "total", "row", "weight", "a", "b"]) (sc := defScope st_law_summed) (own := [("a", 6), ("b", 7)]) (by decide +kernel)) (cg_tup (cgs_nms [6, 7] (by decide))) (gTup_mono [6, 7]) (fun _ _ _ _ _ => pg_tup rfl (pgs_cons (pg_name (i := 6) sc_law_summed.nd rfl (Or.inl rfl)) (pgs_cons (pg_name (i := 7) sc_law_summed.nd rfl (Or.inl rfl)) pgs_nil))) (fun _ _ _ _ _ => ats_nil) (fun _ _ _ _ _ => (ae_op op_addA (ae_var 6 (pv 6)) (ae_op op_mulA (ae_var 5 (pv 5)) (ae_var 7 (pv 7))))))))
    (ass_one (as_ret (ae_var 3 (pv 3)))))))
    fun xs h R c1 c2 q => match xs, q with | [x0, x1, x2], q => pure_law_summed x0 x1 x2 h R c1 c2 q
abbrev st_law_close : Stmt := topS 30
theorem sc_law_close : FnScope ["d", "rows", "weights", "due", "total", "numbers", "shared", "number", "at", "a", "b"] ["d", "rows", "weights", "due"] (defScope st_law_close) := ⟨rfl, rfl, rfl, by decide +kernel, rfl, by decide +kernel, by decide +kernel⟩
theorem cal_law_close (T : Txt K mg) (DF : DefIs K mg "_law_close" st_law_close) (C_law_draw : Cal P w K mg base 1 "_law_draw" ["d", "many"] sp_law_draw) (C_law_gcd : Cal P w K mg base 1 "_law_gcd" ["a", "b"] sp_law_gcd) (C_law_told_row : Cal P w K mg base 3 "_law_told_row" ["strict", "numbers"] sp_law_told_row) (C_law_summed : Cal P w K mg base 1 "_law_summed" ["rows", "weights", "k"] sp_law_summed) : Cal P w K mg base 4 "_law_close" ["d", "rows", "weights", "due"] sp_law_close :=
  .mk_ DF (fun F => F.binds (fun _ _ _ _ _ _ us hl => match us, hl with | [_, _, _, _], _ => rfl)) fun F => okA F sc_law_close (fun _ _ _ _ q => A4_len q) (fun cdv A outer s H E hr =>
    (ass_cons (as_set (i := 4) sc_law_close.nd rfl (Or.inl rfl) (ae_cal C_law_summed (hr.mono (by decide)) (by rfl) (aa_cons (ae_var 1 (pv 1)) (aa_cons (ae_var 2 (pv 2)) (aa_cons (ae_op op_subA (ae_callB call_lenA (by rfl) T.len (by decide +kernel) (aa_cons (ae_var 3 (pv 3)) aa_nil)) ae_int) aa_nil)))))
    (ass_cons (as_setLc (i := 5) (gr := (gTup _ 2 (rNms [9, 10]))) rfl sc_law_close.nd rfl rfl (sw_true rfl rfl rfl (by decide +kernel)) (ai_zipM (by rfl) T.zip (aa_cons (ae_var 3 (pv 3)) (aa_cons (ae_slice sl_A (ae_var 4 (pv 4)) (ao_some ae_int) ao_none) aa_nil))) (blkOk_by (N := ["d", "rows", "weights", "due", "total", "numbers", "shared", "number", "at", "a", "b"]) (sc := defScope st_law_close) (own := [("a", 9), ("b", 10)]) (by decide +kernel)) (cg_tup (cgs_nms [9, 10] (by decide))) (gTup_mono [9, 10]) (fun _ _ _ _ _ => pg_tup rfl (pgs_cons (pg_name (i := 9) sc_law_close.nd rfl (Or.inl rfl)) (pgs_cons (pg_name (i := 10) sc_law_close.nd rfl (Or.inl rfl)) pgs_nil))) (fun _ _ _ _ _ => ats_nil) (fun _ _ _ _ _ => (ae_op op_subA (ae_var 9 (pv 9)) (ae_var 10 (pv 10)))))
    (ass_cons (as_set (i := 6) sc_law_close.nd rfl (Or.inl rfl) ae_int)
    (ass_cons (as_for PassesOwn.never rfl (ai_seq (ae_var 5 (pv 5))) (ag_name (i := 7) sc_law_close.nd rfl (Or.inl rfl)) (ass_one (as_set (i := 6) sc_law_close.nd rfl (Or.inl rfl) (ae_cal C_law_gcd (hr.mono (by decide)) (by rfl) (aa_cons (ae_var 6 (pv 6)) (aa_cons (ae_var 7 (pv 7)) aa_nil))))))
    (ass_cons (as_set (i := 8) sc_law_close.nd rfl (Or.inl rfl) (ae_cal C_law_draw (hr.mono (by decide)) (by rfl) (aa_cons (ae_var 0 (pv 0)) (aa_cons (ae_op op_addA (ae_callB call_lenA (by rfl) T.len (by decide +kernel) (aa_cons (ae_var 1 (pv 1)) aa_nil)) ae_int) aa_nil))))
    (ass_cons (as_expr (ae_bm (ts := fun _ _ _ => False) ok_lst (pe_bm PySem.F.plainAttrs_list PySem.F.slot_list_insert PySem.F.type_list_insert mt_insertA (ae_var 1 (pv 1)) (aa_cons (ae_var 8 (pv 8)) (aa_cons (ae_cal C_law_told_row (hr.mono (by decide)) (by rfl) (aa_cons (ae_cal C_law_draw (hr.mono (by decide)) (by rfl) (aa_cons (ae_var 0 (pv 0)) (aa_cons ae_int aa_nil))) (aa_cons (ae_var 5 (pv 5)) aa_nil))) aa_nil)))))
    (ass_cons (as_expr (ae_bm (ts := fun _ _ _ => False) ok_lst (pe_bm PySem.F.plainAttrs_list PySem.F.slot_list_insert PySem.F.type_list_insert mt_insertA (ae_var 2 (pv 2)) (aa_cons (ae_var 8 (pv 8)) (aa_cons (ae_ifExp (at_cmp op_gtA (ae_var 6 (pv 6)) ae_int (nomark _)) (ae_var 6 (pv 6)) (ae_cal C_law_draw (hr.mono (by decide)) (by rfl) (aa_cons (ae_var 0 (pv 0)) (aa_cons ae_int aa_nil)))) aa_nil)))))
    (ass_one (as_ret (ae_var 8 (pv 8))))))))))))
    fun xs h R c1 c2 q => match xs, q with | [x0, x1, x2, x3], q => pure_law_close x0 x1 x2 x3 h R c1 c2 q
abbrev st_law_odd : Stmt := topS 31
theorem sc_law_odd : FnScope ["d", "weights", "due", "first", "way"] ["d", "weights", "due", "first"] (defScope st_law_odd) := ⟨rfl, rfl, rfl, by decide +kernel, rfl, by decide +kernel, by decide +kernel⟩
theorem cal_law_odd (T : Txt K mg) (DF : DefIs K mg "_law_odd" st_law_odd) (C_law_draw : Cal P w K mg base 1 "_law_draw" ["d", "many"] sp_law_draw) : Cal P w K mg base 2 "_law_odd" ["d", "weights", "due", "first"] sp_law_odd :=
  .mk_ DF (fun F => F.binds (fun _ _ _ _ _ _ us hl => match us, hl with | [_, _, _, _], _ => rfl)) fun F => okA F sc_law_odd (fun _ _ _ _ q => A4_len q) (fun cdv A outer s H E hr =>
    (ass_cons (as_set (i := 4) sc_law_odd.nd rfl (Or.inl rfl) (ae_cal C_law_draw (hr.mono (by decide)) (by rfl) (aa_cons (ae_var 0 (pv 0)) (aa_cons ae_int aa_nil))))
    (ass_cons (as_if (at_w (aw_and (at_cmp (op_eqA hr.units) (ae_var 4 (pv 4)) ae_int (nomark _)) (aw_and1 (at_cmp op_gtA (ae_callB call_lenA (by rfl) T.len (by decide +kernel) (aa_cons (ae_var 1 (pv 1)) aa_nil)) ae_int (nomark _))))) (ass_one (as_asg (ae_op op_subA (ae_un un_negA ae_int) (ae_cal C_law_draw (hr.mono (by decide)) (by rfl) (aa_cons (ae_var 0 (pv 0)) (aa_cons ae_int aa_nil)))) (ag_sub (ae_var 1 (pv 1)) (ae_cal C_law_draw (hr.mono (by decide)) (by rfl) (aa_cons (ae_var 0 (pv 0)) (aa_cons (ae_callB call_lenA (by rfl) T.len (by decide +kernel) (aa_cons (ae_var 1 (pv 1)) aa_nil)) aa_nil))) (set_A (hu_of hr))))) ass_nil)
    (ass_one (as_if (at_w (aw_and (at_cmp (op_eqA hr.units) (ae_var 4 (pv 4)) ae_int (nomark _)) (aw_and1 (at_cmp op_gtA (ae_callB call_lenA (by rfl) T.len (by decide +kernel) (aa_cons (ae_var 2 (pv 2)) aa_nil)) (ae_var 3 (pv 3)) (nomark _))))) (ass_one (as_augS (ae_var 2 (pv 2)) (ae_op op_addA (ae_var 3 (pv 3)) (ae_cal C_law_draw (hr.mono (by decide)) (by rfl) (aa_cons (ae_var 0 (pv 0)) (aa_cons (ae_op op_subA (ae_callB call_lenA (by rfl) T.len (by decide +kernel) (aa_cons (ae_var 2 (pv 2)) aa_nil)) (ae_var 3 (pv 3))) aa_nil)))) (get_A (hu_of hr)) (ae_op op_subA ae_int (ae_op op_mulA ae_int (ae_cal C_law_draw (hr.mono (by decide)) (by rfl) (aa_cons (ae_var 0 (pv 0)) (aa_cons ae_int aa_nil))))) ip_addA (set_A (hu_of hr)))) ass_nil)))))
    fun xs h R c1 c2 q => match xs, q with | [x0, x1, x2, x3], q => pure_law_odd x0 x1 x2 x3 h R c1 c2 q
abbrev st_law_add_case : Stmt := topS 32
theorem sc_law_add_case : FnScope ["d", "k", "many", "rows", "weights", "due", "place", "row"] ["d"] (defScope st_law_add_case) := ⟨rfl, rfl, rfl, by decide +kernel, rfl, by decide +kernel, by decide +kernel⟩
theorem cal_law_add_case (T : Txt K mg) (DF : DefIs K mg "_law_add_case" st_law_add_case) (C_law_draw : Cal P w K mg base 1 "_law_draw" ["d", "many"] sp_law_draw) (C_law_rare : Cal P w K mg base 2 "_law_rare" ["d", "many"] sp_law_rare) (C_law_free_row : Cal P w K mg base 4 "_law_free_row" ["d", "k"] sp_law_free_row) (C_law_weight : Cal P w K mg base 2 "_law_weight" ["d"] sp_law_weight) (C_law_close : Cal P w K mg base 4 "_law_close" ["d", "rows", "weights", "due"] sp_law_close) (C_law_odd : Cal P w K mg base 2 "_law_odd" ["d", "weights", "due", "first"] sp_law_odd) : Cal P w K mg base 5 "_law_add_case" ["d"] sp_law_add_case :=
  .mk_ DF (fun F => F.binds (fun _ _ _ _ _ _ us hl => match us, hl with | [_], _ => rfl)) fun F => okA F sc_law_add_case (fun _ _ _ _ q => A1_len q) (fun cdv A outer s H E hr =>
    (ass_cons (as_set (i := 1) sc_law_add_case.nd rfl (Or.inr rfl) (ae_cal C_law_draw (hr.mono (by decide)) (by rfl) (aa_cons (ae_var 0 (pv 0)) (aa_cons ae_int aa_nil))))
    (ass_cons (as_set (i := 2) sc_law_add_case.nd rfl (Or.inl rfl) (ae_cal C_law_draw (hr.mono (by decide)) (by rfl) (aa_cons (ae_var 0 (pv 0)) (aa_cons ae_int aa_nil))))
    (ass_cons (as_if (at_tru tru_A (ae_cal C_law_rare (hr.mono (by decide)) (by rfl) (aa_cons (ae_var 0 (pv 0)) (aa_cons ae_int aa_nil)))) (ass_cons (as_set (i := 1) sc_law_add_case.nd rfl (Or.inr rfl) (ae_cal C_law_draw (hr.mono (by decide)) (by rfl) (aa_cons (ae_var 0 (pv 0)) (aa_cons ae_int aa_nil))))
    (ass_one (as_set (i := 2) sc_law_add_case.nd rfl (Or.inl rfl) (ae_cal C_law_draw (hr.mono (by decide)) (by rfl) (aa_cons (ae_var 0 (pv 0)) (aa_cons ae_int aa_nil)))))) ass_nil)
    (ass_cons (as_setLc (i := 3) (gr := (gName 6)) rfl sc_law_add_case.nd rfl rfl (sw_true rfl rfl rfl (by decide +kernel)) (ai_range1 (by rfl) T.range (aa_cons (ae_var 2 (pv 2)) aa_nil)) (blkOk_by (N := ["d", "k", "many", "rows", "weights", "due", "place", "row"]) (sc := defScope st_law_add_case) (own := [("place", 6)]) (by decide +kernel)) (cg_name (by decide)) (fun _ _ _ _ _ hq q => hq _ _ q) (fun _ _ _ _ _ => pg_name (i := 6) sc_law_add_case.nd rfl (Or.inl rfl)) (fun _ _ _ _ _ => ats_nil) (fun _ _ _ _ _ => (ae_cal C_law_free_row (hr.mono (by decide)) (by rfl) (aa_cons (ae_var 0 (pv 0)) (aa_cons (ae_var 1 (pv 1)) aa_nil)))))
    (ass_cons (as_setLc (i := 4) (gr := (gName 7)) rfl sc_law_add_case.nd rfl rfl (sw_true rfl rfl rfl (by decide +kernel)) (ai_seq (ae_var 3 (pv 3))) (blkOk_by (N := ["d", "k", "many", "rows", "weights", "due", "place", "row"]) (sc := defScope st_law_add_case) (own := [("row", 7)]) (by decide +kernel)) (cg_name (by decide)) (fun _ _ _ _ _ hq q => hq _ _ q) (fun _ _ _ _ _ => pg_name (i := 7) sc_law_add_case.nd rfl (Or.inl rfl)) (fun _ _ _ _ _ => ats_nil) (fun _ _ _ _ _ => (ae_cal C_law_weight (hr.mono (by decide)) (by rfl) (aa_cons (ae_var 0 (pv 0)) aa_nil))))
    (ass_cons (as_set (i := 5) sc_law_add_case.nd rfl (Or.inl rfl) (ae_op op_addA (ae_lst (aa_cons (ae_op op_subA (ae_cal C_law_draw (hr.mono (by decide)) (by rfl) (aa_cons (ae_var 0 (pv 0)) (aa_cons ae_int aa_nil))) ae_int) aa_nil)) (ae_op op_repLA (ae_lst (aa_cons ae_int aa_nil)) (ae_var 1 (pv 1)))))
    (ass_cons (as_expr (ae_cal C_law_odd (hr.mono (by decide)) (by rfl) (aa_cons (ae_var 0 (pv 0)) (aa_cons (ae_var 4 (pv 4)) (aa_cons (ae_var 5 (pv 5)) (aa_cons ae_int aa_nil))))))
    (ass_cons (as_expr (ae_cal C_law_close (hr.mono (by decide)) (by rfl) (aa_cons (ae_var 0 (pv 0)) (aa_cons (ae_var 3 (pv 3)) (aa_cons (ae_var 4 (pv 4)) (aa_cons (ae_var 5 (pv 5)) aa_nil))))))
    (ass_one (as_ret (ae_tup (aa_cons (ae_var 1 (pv 1)) (aa_cons (ae_callTy call_tupleA (by rfl) T.tuple (by decide +kernel) (aa_cons (ae_var 3 (pv 3)) aa_nil)) (aa_cons (ae_tup (aa_cons ae_str (aa_cons (ae_callTy call_tupleA (by rfl) T.tuple (by decide +kernel) (aa_cons (ae_var 4 (pv 4)) aa_nil)) aa_nil))) aa_nil)))))))))))))))
    fun xs h R c1 c2 q => match xs, q with | [x0], q => pure_law_add_case x0 h R c1 c2 q
abbrev st_law_round_case : Stmt := topS 33
theorem sc_law_round_case : FnScope ["d", "k", "rows", "lows", "highs", "value", "up", "down", "due", "at", "place", "row"] ["d"] (defScope st_law_round_case) := ⟨rfl, rfl, rfl, by decide +kernel, rfl, by decide +kernel, by decide +kernel⟩
theorem cal_law_round_case (T : Txt K mg) (DF : DefIs K mg "_law_round_case" st_law_round_case) (C_law_draw : Cal P w K mg base 1 "_law_draw" ["d", "many"] sp_law_draw) (C_law_share : Cal P w K mg base 2 "_law_share" ["d"] sp_law_share) (C_law_free_row : Cal P w K mg base 4 "_law_free_row" ["d", "k"] sp_law_free_row) (C_law_weight : Cal P w K mg base 2 "_law_weight" ["d"] sp_law_weight) (C_law_close : Cal P w K mg base 4 "_law_close" ["d", "rows", "weights", "due"] sp_law_close) (C_law_odd : Cal P w K mg base 2 "_law_odd" ["d", "weights", "due", "first"] sp_law_odd) : Cal P w K mg base 5 "_law_round_case" ["d"] sp_law_round_case :=
  .mk_ DF (fun F => F.binds (fun _ _ _ _ _ _ us hl => match us, hl with | [_], _ => rfl)) fun F => okA F sc_law_round_case (fun _ _ _ _ q => A1_len q) (fun cdv A outer s H E hr =>
    (ass_cons (as_set (i := 1) sc_law_round_case.nd rfl (Or.inr rfl) (ae_op op_addA ae_int (ae_cal C_law_draw (hr.mono (by decide)) (by rfl) (aa_cons (ae_var 0 (pv 0)) (aa_cons ae_int aa_nil)))))
    (ass_cons (as_setLc (i := 2) (gr := (gName 10)) rfl sc_law_round_case.nd rfl rfl (sw_true rfl rfl rfl (by decide +kernel)) (ai_range1 (by rfl) T.range (aa_cons (ae_cal C_law_draw (hr.mono (by decide)) (by rfl) (aa_cons (ae_var 0 (pv 0)) (aa_cons ae_int aa_nil))) aa_nil)) (blkOk_by (N := ["d", "k", "rows", "lows", "highs", "value", "up", "down", "due", "at", "place", "row"]) (sc := defScope st_law_round_case) (own := [("place", 10)]) (by decide +kernel)) (cg_name (by decide)) (fun _ _ _ _ _ hq q => hq _ _ q) (fun _ _ _ _ _ => pg_name (i := 10) sc_law_round_case.nd rfl (Or.inl rfl)) (fun _ _ _ _ _ => ats_nil) (fun _ _ _ _ _ => (ae_cal C_law_free_row (hr.mono (by decide)) (by rfl) (aa_cons (ae_var 0 (pv 0)) (aa_cons (ae_var 1 (pv 1)) aa_nil)))))
    (ass_cons (as_setLc (i := 3) (gr := (gName 11)) rfl sc_law_round_case.nd rfl rfl (sw_true rfl rfl rfl (by decide +kernel)) (ai_seq (ae_var 2 (pv 2))) (blkOk_by (N := ["d", "k", "rows", "lows", "highs", "value", "up", "down", "due", "at", "place", "row"]) (sc := defScope st_law_round_case) (own := [("row", 11)]) (by decide +kernel)) (cg_name (by decide)) (fun _ _ _ _ _ hq q => hq _ _ q) (fun _ _ _ _ _ => pg_name (i := 11) sc_law_round_case.nd rfl (Or.inl rfl)) (fun _ _ _ _ _ => ats_nil) (fun _ _ _ _ _ => (ae_cal C_law_weight (hr.mono (by decide)) (by rfl) (aa_cons (ae_var 0 (pv 0)) aa_nil))))
    (ass_cons (as_setLc (i := 4) (gr := (gName 11)) rfl sc_law_round_case.nd rfl rfl (sw_true rfl rfl rfl (by decide +kernel)) (ai_seq (ae_var 2 (pv 2))) (blkOk_by (N := ["d", "k", "rows", "lows", "highs", "value", "up", "down", "due", "at", "place", "row"]) (sc := defScope st_law_round_case) (own := [("row", 11)]) (by decide +kernel)) (cg_name (by decide)) (fun _ _ _ _ _ hq q => hq _ _ q) (fun _ _ _ _ _ => pg_name (i := 11) sc_law_round_case.nd rfl (Or.inl rfl)) (fun _ _ _ _ _ => ats_nil) (fun _ _ _ _ _ => (ae_cal C_law_weight (hr.mono (by decide)) (by rfl) (aa_cons (ae_var 0 (pv 0)) aa_nil))))
    (ass_cons (as_set (i := 5) sc_law_round_case.nd rfl (Or.inl rfl) (ae_op op_addA (ae_op op_subA (ae_cal C_law_draw (hr.mono (by decide)) (by rfl) (aa_cons (ae_var 0 (pv 0)) (aa_cons ae_int aa_nil))) ae_int) (ae_cal C_law_share (hr.mono (by decide)) (by rfl) (aa_cons (ae_var 0 (pv 0)) aa_nil))))
    (ass_cons (as_set (i := 6) sc_law_round_case.nd rfl (Or.inl rfl) (ae_op op_addA ae_int (ae_cal C_law_draw (hr.mono (by decide)) (by rfl) (aa_cons (ae_var 0 (pv 0)) (aa_cons ae_int aa_nil)))))
    (ass_cons (as_set (i := 7) sc_law_round_case.nd rfl (Or.inl rfl) (ae_op op_addA ae_int (ae_cal C_law_draw (hr.mono (by decide)) (by rfl) (aa_cons (ae_var 0 (pv 0)) (aa_cons ae_int aa_nil)))))
    (ass_cons (as_set (i := 8) sc_law_round_case.nd rfl (Or.inl rfl) (ae_op op_addA (ae_lst (aa_cons (ae_op op_subA (ae_op op_mulA (ae_un un_negA (ae_var 6 (pv 6))) (ae_var 5 (pv 5))) (ae_cal C_law_draw (hr.mono (by decide)) (by rfl) (aa_cons (ae_var 0 (pv 0)) (aa_cons (ae_op op_addA (ae_var 6 (pv 6)) ae_int) aa_nil)))) (aa_cons (ae_var 6 (pv 6)) aa_nil))) (ae_op op_repLA (ae_lst (aa_cons ae_int aa_nil)) (ae_op op_subA (ae_var 1 (pv 1)) ae_int))))
    (ass_cons (as_expr (ae_cal C_law_odd (hr.mono (by decide)) (by rfl) (aa_cons (ae_var 0 (pv 0)) (aa_cons (ae_var 3 (pv 3)) (aa_cons (ae_var 8 (pv 8)) (aa_cons ae_int aa_nil))))))
    (ass_cons (as_set (i := 9) sc_law_round_case.nd rfl (Or.inl rfl) (ae_cal C_law_close (hr.mono (by decide)) (by rfl) (aa_cons (ae_var 0 (pv 0)) (aa_cons (ae_var 2 (pv 2)) (aa_cons (ae_var 3 (pv 3)) (aa_cons (ae_var 8 (pv 8)) aa_nil))))))
    (ass_cons (as_expr (ae_bm (ts := fun _ _ _ => False) ok_lst (pe_bm PySem.F.plainAttrs_list PySem.F.slot_list_insert PySem.F.type_list_insert mt_insertA (ae_var 4 (pv 4)) (aa_cons (ae_var 9 (pv 9)) (aa_cons ae_int aa_nil)))))
    (ass_cons (as_set (i := 8) sc_law_round_case.nd rfl (Or.inl rfl) (ae_op op_addA (ae_lst (aa_cons (ae_op op_subA (ae_op op_addA (ae_op op_mulA (ae_var 7 (pv 7)) (ae_var 5 (pv 5))) (ae_cal C_law_draw (hr.mono (by decide)) (by rfl) (aa_cons (ae_var 0 (pv 0)) (aa_cons (ae_op op_addA (ae_var 7 (pv 7)) ae_int) aa_nil)))) ae_int) (aa_cons (ae_un un_negA (ae_var 7 (pv 7))) aa_nil))) (ae_op op_repLA (ae_lst (aa_cons ae_int aa_nil)) (ae_op op_subA (ae_var 1 (pv 1)) ae_int))))
    (ass_cons (as_expr (ae_cal C_law_odd (hr.mono (by decide)) (by rfl) (aa_cons (ae_var 0 (pv 0)) (aa_cons (ae_var 4 (pv 4)) (aa_cons (ae_var 8 (pv 8)) (aa_cons ae_int aa_nil))))))
    (ass_cons (as_set (i := 9) sc_law_round_case.nd rfl (Or.inl rfl) (ae_cal C_law_close (hr.mono (by decide)) (by rfl) (aa_cons (ae_var 0 (pv 0)) (aa_cons (ae_var 2 (pv 2)) (aa_cons (ae_var 4 (pv 4)) (aa_cons (ae_var 8 (pv 8)) aa_nil))))))
    (ass_cons (as_expr (ae_bm (ts := fun _ _ _ => False) ok_lst (pe_bm PySem.F.plainAttrs_list PySem.F.slot_list_insert PySem.F.type_list_insert mt_insertA (ae_var 3 (pv 3)) (aa_cons (ae_var 9 (pv 9)) (aa_cons ae_int aa_nil)))))
    (ass_one (as_ret (ae_tup (aa_cons (ae_var 1 (pv 1)) (aa_cons (ae_callTy call_tupleA (by rfl) T.tuple (by decide +kernel) (aa_cons (ae_var 2 (pv 2)) aa_nil)) (aa_cons (ae_tup (aa_cons ae_str (aa_cons (ae_callTy call_tupleA (by rfl) T.tuple (by decide +kernel) (aa_cons (ae_var 3 (pv 3)) aa_nil)) (aa_cons (ae_callTy call_tupleA (by rfl) T.tuple (by decide +kernel) (aa_cons (ae_var 4 (pv 4)) aa_nil)) aa_nil)))) aa_nil))))))))))))))))))))))
    fun xs h R c1 c2 q => match xs, q with | [x0], q => pure_law_round_case x0 h R c1 c2 q
abbrev st_law_bent_weights : Stmt := topS 34
theorem sc_law_bent_weights : FnScope ["d", "weights", "told", "one", "other", "way", "factor", "weight"] ["d", "weights"] (defScope st_law_bent_weights) := ⟨rfl, rfl, rfl, by decide +kernel, rfl, by decide +kernel, by decide +kernel⟩
theorem cal_law_bent_weights (T : Txt K mg) (DF : DefIs K mg "_law_bent_weights" st_law_bent_weights) (C_law_draw : Cal P w K mg base 1 "_law_draw" ["d", "many"] sp_law_draw) (C_law_pick : Cal P w K mg base 2 "_law_pick" ["d", "row"] sp_law_pick) (C_law_weight : Cal P w K mg base 2 "_law_weight" ["d"] sp_law_weight) : Cal P w K mg base 3 "_law_bent_weights" ["d", "weights"] sp_law_bent_weights :=
  .mk_ DF (fun F => F.binds (fun _ _ _ _ _ _ us hl => match us, hl with | [_, _], _ => rfl)) fun F => okA F sc_law_bent_weights (fun _ _ _ _ q => A2_len q) (fun cdv A outer s H E hr =>
    (ass_cons (as_set (i := 2) sc_law_bent_weights.nd rfl (Or.inl rfl) (ae_callTy call_listA (by rfl) T.list (by decide +kernel) (aa_cons (ae_var 1 (pv 1)) aa_nil)))
    (ass_cons (as_set (i := 3) sc_law_bent_weights.nd rfl (Or.inl rfl) (ae_cal C_law_draw (hr.mono (by decide)) (by rfl) (aa_cons (ae_var 0 (pv 0)) (aa_cons (ae_callB call_lenA (by rfl) T.len (by decide +kernel) (aa_cons (ae_var 2 (pv 2)) aa_nil)) aa_nil))))
    (ass_cons (as_set (i := 4) sc_law_bent_weights.nd rfl (Or.inl rfl) (ae_cal C_law_draw (hr.mono (by decide)) (by rfl) (aa_cons (ae_var 0 (pv 0)) (aa_cons (ae_callB call_lenA (by rfl) T.len (by decide +kernel) (aa_cons (ae_var 2 (pv 2)) aa_nil)) aa_nil))))
    (ass_cons (as_set (i := 5) sc_law_bent_weights.nd rfl (Or.inl rfl) (ae_cal C_law_draw (hr.mono (by decide)) (by rfl) (aa_cons (ae_var 0 (pv 0)) (aa_cons ae_int aa_nil))))
    (ass_cons (as_if (at_cmp (op_eqA hr.units) (ae_var 5 (pv 5)) ae_int (nomark _)) (ass_one (as_augS (ae_var 2 (pv 2)) (ae_var 3 (pv 3)) (get_A (hu_of hr)) ae_int ip_addA (set_A (hu_of hr)))) (ass_one (as_if (at_cmp (op_eqA hr.units) (ae_var 5 (pv 5)) ae_int (nomark _)) (ass_one (as_augS (ae_var 2 (pv 2)) (ae_var 3 (pv 3)) (get_A (hu_of hr)) ae_int ip_subA (set_A (hu_of hr)))) (ass_one (as_if (at_cmp (op_eqA hr.units) (ae_var 5 (pv 5)) ae_int (nomark _)) (ass_one (as_asg (ae_tup (aa_cons (ae_ix (ix_A (hu_of hr)) (ae_var 2 (pv 2)) (ae_var 4 (pv 4)) (fun _ _ => rfl)) (aa_cons (ae_ix (ix_A (hu_of hr)) (ae_var 2 (pv 2)) (ae_var 3 (pv 3)) (fun _ _ => rfl)) aa_nil))) (ag_tup rfl (ags_cons (ag_sub (ae_var 2 (pv 2)) (ae_var 3 (pv 3)) (set_A (hu_of hr))) (ags_cons (ag_sub (ae_var 2 (pv 2)) (ae_var 4 (pv 4)) (set_A (hu_of hr))) ags_nil))))) (ass_one (as_if (at_cmp (op_eqA hr.units) (ae_var 5 (pv 5)) ae_int (nomark _)) (ass_one (as_expr (ae_bm (ts := fun _ _ _ => False) ok_lst (pe_bm PySem.F.plainAttrs_list PySem.F.slot_list_append PySem.F.type_list_append mt_appendA (ae_var 2 (pv 2)) (aa_cons ae_int aa_nil))))) (ass_one (as_if (at_cmp (op_eqA hr.units) (ae_var 5 (pv 5)) ae_int (nomark _)) (ass_one (as_expr (ae_bm (ts := fun _ _ _ => False) ok_lst (pe_bm PySem.F.plainAttrs_list PySem.F.slot_list_pop PySem.F.type_list_pop mt_popIA (ae_var 2 (pv 2)) (aa_cons (ae_var 3 (pv 3)) aa_nil))))) (ass_one (as_if (at_w (aw_or (at_cmp (op_eqA hr.units) (ae_var 5 (pv 5)) ae_int (nomark _)) (aw_or1 (at_cmp (op_eqA hr.units) (ae_var 5 (pv 5)) ae_int (nomark _))))) (ass_cons (as_set (i := 6) sc_law_bent_weights.nd rfl (Or.inr rfl) (ae_cal C_law_weight (hr.mono (by decide)) (by rfl) (aa_cons (ae_var 0 (pv 0)) aa_nil)))
    (ass_one (as_setLc (i := 2) (gr := (gName 7)) rfl sc_law_bent_weights.nd rfl rfl (sw_true rfl rfl rfl (by decide +kernel)) (ai_seq (ae_var 2 (pv 2))) (blkOk_by (N := ["d", "weights", "told", "one", "other", "way", "factor", "weight"]) (sc := defScope st_law_bent_weights) (own := [("weight", 7)]) (by decide +kernel)) (cg_name (by decide)) (fun _ _ _ _ _ hq q => hq _ _ q) (fun _ _ _ _ _ => pg_name (i := 7) sc_law_bent_weights.nd rfl (Or.inl rfl)) (fun _ _ _ _ _ => ats_nil) (fun _ _ _ _ _ => (ae_op op_mulA (ae_var 7 (pv 7)) (ae_var 6 (pv 6))))))) (ass_one (as_if (at_cmp (op_eqA hr.units) (ae_var 5 (pv 5)) ae_int (nomark _)) (ass_one (as_asg (ae_cal C_law_pick (hr.mono (by decide)) (by rfl) (aa_cons (ae_var 0 (pv 0)) (aa_cons (ae_lst (aa_cons ae_non (aa_cons ae_str (aa_cons (ae_tup (aa_cons ae_int aa_nil)) (aa_cons ae_str (aa_cons (ae_tup aa_nil) (aa_cons ae_str aa_nil))))))) aa_nil))) (ag_sub (ae_var 2 (pv 2)) (ae_var 3 (pv 3)) (set_A (hu_of hr))))) (ass_one (as_if (at_cmp (op_eqA hr.units) (ae_var 5 (pv 5)) ae_int (nomark _)) (ass_one (as_asg (ae_un un_negA (ae_ix (ix_A (hu_of hr)) (ae_var 2 (pv 2)) (ae_var 3 (pv 3)) (fun _ _ => rfl))) (ag_sub (ae_var 2 (pv 2)) (ae_var 3 (pv 3)) (set_A (hu_of hr))))) (ass_one (as_ret (ae_cal C_law_pick (hr.mono (by decide)) (by rfl) (aa_cons (ae_var 0 (pv 0)) (aa_cons (ae_lst (aa_cons (ae_var 2 (pv 2)) (aa_cons (ae_var 2 (pv 2)) (aa_cons ae_non (aa_cons ae_int (aa_cons ae_str aa_nil)))))) aa_nil))))))))))))))))))))
    (ass_one (as_ret (ae_callTy call_tupleA (by rfl) T.tuple (by decide +kernel) (aa_cons (ae_var 2 (pv 2)) aa_nil))))))))))
    fun xs h R c1 c2 q => match xs, q with | [x0, x1], q => pure_law_bent_weights x0 x1 h R c1 c2 q
abbrev st_law_bent_proof : Stmt := topS 35
theorem sc_law_bent_proof : FnScope ["d", "proof", "way", "at", "place"] ["d", "proof"] (defScope st_law_bent_proof) := ⟨rfl, rfl, rfl, by decide +kernel, rfl, by decide +kernel, by decide +kernel⟩
theorem cal_law_bent_proof (T : Txt K mg) (DF : DefIs K mg "_law_bent_proof" st_law_bent_proof) (C_law_draw : Cal P w K mg base 1 "_law_draw" ["d", "many"] sp_law_draw) (C_law_pick : Cal P w K mg base 2 "_law_pick" ["d", "row"] sp_law_pick) (C_law_bent_weights : Cal P w K mg base 3 "_law_bent_weights" ["d", "weights"] sp_law_bent_weights) : Cal P w K mg base 4 "_law_bent_proof" ["d", "proof"] sp_law_bent_proof :=
  .mk_ DF (fun F => F.binds (fun _ _ _ _ _ _ us hl => match us, hl with | [_, _], _ => rfl)) fun F => okA F sc_law_bent_proof (fun _ _ _ _ q => A2_len q) (fun cdv A outer s H E hr =>
    (ass_cons (as_set (i := 2) sc_law_bent_proof.nd rfl (Or.inl rfl) (ae_cal C_law_draw (hr.mono (by decide)) (by rfl) (aa_cons (ae_var 0 (pv 0)) (aa_cons ae_int aa_nil))))
    (ass_cons (as_set (i := 3) sc_law_bent_proof.nd rfl (Or.inl rfl) (ae_op op_addA ae_int (ae_cal C_law_draw (hr.mono (by decide)) (by rfl) (aa_cons (ae_var 0 (pv 0)) (aa_cons (ae_op op_subA (ae_callB call_lenA (by rfl) T.len (by decide +kernel) (aa_cons (ae_var 1 (pv 1)) aa_nil)) ae_int) aa_nil)))))
    (ass_cons (as_if (at_cmp op_ltA (ae_var 2 (pv 2)) ae_int (nomark _)) (ass_one (as_ret (ae_op op_addA (ae_op op_addA (ae_slice sl_A (ae_var 1 (pv 1)) ao_none (ao_some (ae_var 3 (pv 3)))) (ae_tup (aa_cons (ae_cal C_law_bent_weights (hr.mono (by decide)) (by rfl) (aa_cons (ae_var 0 (pv 0)) (aa_cons (ae_ix (ix_A (hu_of hr)) (ae_var 1 (pv 1)) (ae_var 3 (pv 3)) (fun _ _ => rfl)) aa_nil))) aa_nil))) (ae_slice sl_A (ae_var 1 (pv 1)) (ao_some (ae_op op_addA (ae_var 3 (pv 3)) ae_int)) ao_none)))) ass_nil)
    (ass_cons (as_if (at_cmp (op_eqA hr.units) (ae_var 2 (pv 2)) ae_int (nomark _)) (ass_one (as_ret (ae_op op_addA (ae_tup (aa_cons (ae_cal C_law_pick (hr.mono (by decide)) (by rfl) (aa_cons (ae_var 0 (pv 0)) (aa_cons (ae_lst (aa_cons ae_str (aa_cons ae_str (aa_cons ae_str (aa_cons ae_str (aa_cons ae_str (aa_cons ae_non (aa_cons ae_int (aa_cons (ae_tup (aa_cons ae_str aa_nil)) aa_nil))))))))) aa_nil))) aa_nil)) (ae_slice sl_A (ae_var 1 (pv 1)) (ao_some ae_int) ao_none)))) ass_nil)
    (ass_cons (as_if (at_cmp (op_eqA hr.units) (ae_var 2 (pv 2)) ae_int (nomark _)) (ass_one (as_ret (ae_op op_addA (ae_var 1 (pv 1)) (ae_tup (aa_cons (ae_ix (ix_A (hu_of hr)) (ae_var 1 (pv 1)) (ae_var 3 (pv 3)) (fun _ _ => rfl)) aa_nil))))) ass_nil)
    (ass_cons (as_if (at_cmp (op_eqA hr.units) (ae_var 2 (pv 2)) ae_int (nomark _)) (ass_one (as_ret (ae_op op_addA (ae_slice sl_A (ae_var 1 (pv 1)) ao_none (ao_some (ae_var 3 (pv 3)))) (ae_slice sl_A (ae_var 1 (pv 1)) (ao_some (ae_op op_addA (ae_var 3 (pv 3)) ae_int)) ao_none)))) ass_nil)
    (ass_cons (as_if (at_cmp (op_eqA hr.units) (ae_var 2 (pv 2)) ae_int (nomark _)) (ass_one (as_ret (ae_op op_addA (ae_tup (aa_cons (ae_ix (ix_A (hu_of hr)) (ae_var 1 (pv 1)) ae_int (fun _ _ => rfl)) aa_nil)) (ae_callTy call_tupleA (by rfl) T.tuple (by decide +kernel) (aa_cons (ae_lc (gr := (gName 4)) rfl sc_law_bent_proof.nd (ai_range2 (by rfl) T.range (aa_cons ae_int (aa_cons (ae_callB call_lenA (by rfl) T.len (by decide +kernel) (aa_cons (ae_var 1 (pv 1)) aa_nil)) aa_nil))) (blkOk_by (N := ["d", "proof", "way", "at", "place"]) (sc := defScope st_law_bent_proof) (own := [("place", 4)]) (by decide +kernel)) (cg_name (by decide)) (fun _ _ _ _ _ hq q => hq _ _ q) (fun _ _ _ _ _ => pg_name (i := 4) sc_law_bent_proof.nd rfl (Or.inl rfl)) (fun _ _ _ _ _ => ats_nil) (fun _ _ _ _ _ => (ae_ix (ix_A (hu_of hr)) (ae_var 1 (pv 1)) (ae_op op_subA (ae_callB call_lenA (by rfl) T.len (by decide +kernel) (aa_cons (ae_var 1 (pv 1)) aa_nil)) (ae_var 4 (pv 4))) (fun _ _ => rfl)))) aa_nil))))) ass_nil)
    (ass_cons (as_if (at_cmp (op_eqA hr.units) (ae_var 2 (pv 2)) ae_int (nomark _)) (ass_one (as_ret (ae_cal C_law_pick (hr.mono (by decide)) (by rfl) (aa_cons (ae_var 0 (pv 0)) (aa_cons (ae_lst (aa_cons ae_non (aa_cons ae_int (aa_cons ae_str (aa_cons (ae_tup aa_nil) (aa_cons (ae_callTy call_listA (by rfl) T.list (by decide +kernel) (aa_cons (ae_var 1 (pv 1)) aa_nil)) (aa_cons (ae_tup (aa_cons ae_str aa_nil)) (aa_cons (ae_tup (aa_cons ae_str aa_nil)) (aa_cons (ae_tup (aa_cons (ae_var 1 (pv 1)) aa_nil)) (aa_cons (ae_ix (ix_A (hu_of hr)) (ae_var 1 (pv 1)) ae_int (fun _ _ => rfl)) aa_nil)))))))))) aa_nil))))) ass_nil)
    (ass_one (as_ret (ae_cal C_law_pick (hr.mono (by decide)) (by rfl) (aa_cons (ae_var 0 (pv 0)) (aa_cons (ae_lst (aa_cons (ae_tup (aa_cons ae_str (aa_cons (ae_ix (ix_A (hu_of hr)) (ae_var 1 (pv 1)) (ae_var 3 (pv 3)) (fun _ _ => rfl)) (aa_cons (ae_ix (ix_A (hu_of hr)) (ae_var 1 (pv 1)) (ae_var 3 (pv 3)) (fun _ _ => rfl)) aa_nil)))) (aa_cons (ae_tup (aa_cons ae_str (aa_cons (ae_ix (ix_A (hu_of hr)) (ae_var 1 (pv 1)) (ae_var 3 (pv 3)) (fun _ _ => rfl)) aa_nil))) (aa_cons (ae_tup (aa_cons ae_str (aa_cons (ae_ix (ix_A (hu_of hr)) (ae_var 1 (pv 1)) (ae_un un_negA ae_int) (fun _ _ => rfl)) (aa_cons (ae_ix (ix_A (hu_of hr)) (ae_var 1 (pv 1)) ae_int (fun _ _ => rfl)) aa_nil)))) aa_nil)))) aa_nil))))))))))))))
    fun xs h R c1 c2 q => match xs, q with | [x0, x1], q => pure_law_bent_proof x0 x1 h R c1 c2 q
abbrev st_law_bent_rows : Stmt := topS 36
theorem sc_law_bent_rows : FnScope ["d", "rows", "told", "one", "other", "way", "numbers", "at"] ["d", "rows"] (defScope st_law_bent_rows) := ⟨rfl, rfl, rfl, by decide +kernel, rfl, by decide +kernel, by decide +kernel⟩
theorem cal_law_bent_rows (T : Txt K mg) (DF : DefIs K mg "_law_bent_rows" st_law_bent_rows) (C_law_draw : Cal P w K mg base 1 "_law_draw" ["d", "many"] sp_law_draw) (C_law_told_row : Cal P w K mg base 3 "_law_told_row" ["strict", "numbers"] sp_law_told_row) : Cal P w K mg base 4 "_law_bent_rows" ["d", "rows"] sp_law_bent_rows :=
  .mk_ DF (fun F => F.binds (fun _ _ _ _ _ _ us hl => match us, hl with | [_, _], _ => rfl)) fun F => okA F sc_law_bent_rows (fun _ _ _ _ q => A2_len q) (fun cdv A outer s H E hr =>
    (ass_cons (as_set (i := 2) sc_law_bent_rows.nd rfl (Or.inl rfl) (ae_callTy call_listA (by rfl) T.list (by decide +kernel) (aa_cons (ae_var 1 (pv 1)) aa_nil)))
    (ass_cons (as_set (i := 3) sc_law_bent_rows.nd rfl (Or.inl rfl) (ae_cal C_law_draw (hr.mono (by decide)) (by rfl) (aa_cons (ae_var 0 (pv 0)) (aa_cons (ae_callB call_lenA (by rfl) T.len (by decide +kernel) (aa_cons (ae_var 2 (pv 2)) aa_nil)) aa_nil))))
    (ass_cons (as_set (i := 4) sc_law_bent_rows.nd rfl (Or.inl rfl) (ae_cal C_law_draw (hr.mono (by decide)) (by rfl) (aa_cons (ae_var 0 (pv 0)) (aa_cons (ae_callB call_lenA (by rfl) T.len (by decide +kernel) (aa_cons (ae_var 2 (pv 2)) aa_nil)) aa_nil))))
    (ass_cons (as_set (i := 5) sc_law_bent_rows.nd rfl (Or.inl rfl) (ae_cal C_law_draw (hr.mono (by decide)) (by rfl) (aa_cons (ae_var 0 (pv 0)) (aa_cons ae_int aa_nil))))
    (ass_cons (as_if (at_cmp (op_eqA hr.units) (ae_var 5 (pv 5)) ae_int (nomark _)) (ass_one (as_asg (ae_tup (aa_cons (ae_ix (ix_A (hu_of hr)) (ae_var 2 (pv 2)) (ae_var 4 (pv 4)) (fun _ _ => rfl)) (aa_cons (ae_ix (ix_A (hu_of hr)) (ae_var 2 (pv 2)) (ae_var 3 (pv 3)) (fun _ _ => rfl)) aa_nil))) (ag_tup rfl (ags_cons (ag_sub (ae_var 2 (pv 2)) (ae_var 3 (pv 3)) (set_A (hu_of hr))) (ags_cons (ag_sub (ae_var 2 (pv 2)) (ae_var 4 (pv 4)) (set_A (hu_of hr))) ags_nil))))) (ass_one (as_if (at_cmp (op_eqA hr.units) (ae_var 5 (pv 5)) ae_int (nomark _)) (ass_one (as_asg (ae_op op_addA (ae_tup (aa_cons (ae_op op_subA ae_int (ae_ix (ix_A (hu_of hr)) (ae_ix (ix_A (hu_of hr)) (ae_var 2 (pv 2)) (ae_var 3 (pv 3)) (fun _ _ => rfl)) ae_int (fun _ _ => rfl))) aa_nil)) (ae_slice sl_A (ae_ix (ix_A (hu_of hr)) (ae_var 2 (pv 2)) (ae_var 3 (pv 3)) (fun _ _ => rfl)) (ao_some ae_int) ao_none)) (ag_sub (ae_var 2 (pv 2)) (ae_var 3 (pv 3)) (set_A (hu_of hr))))) (ass_cons (as_set (i := 6) sc_law_bent_rows.nd rfl (Or.inl rfl) (ae_callTy call_listA (by rfl) T.list (by decide +kernel) (aa_cons (ae_slice sl_A (ae_ix (ix_A (hu_of hr)) (ae_var 2 (pv 2)) (ae_var 3 (pv 3)) (fun _ _ => rfl)) (ao_some ae_int) ao_none) aa_nil)))
    (ass_cons (as_set (i := 7) sc_law_bent_rows.nd rfl (Or.inl rfl) ae_int)
    (ass_cons (as_if (at_cmp (op_eqA hr.units) (ae_var 5 (pv 5)) ae_int (nomark _)) (ass_one (as_set (i := 7) sc_law_bent_rows.nd rfl (Or.inl rfl) (ae_cal C_law_draw (hr.mono (by decide)) (by rfl) (aa_cons (ae_var 0 (pv 0)) (aa_cons (ae_callB call_lenA (by rfl) T.len (by decide +kernel) (aa_cons (ae_var 6 (pv 6)) aa_nil)) aa_nil))))) ass_nil)
    (ass_cons (as_augS (ae_var 6 (pv 6)) (ae_var 7 (pv 7)) (get_A (hu_of hr)) (ae_op op_subA (ae_op op_mulA ae_int (ae_cal C_law_draw (hr.mono (by decide)) (by rfl) (aa_cons (ae_var 0 (pv 0)) (aa_cons ae_int aa_nil)))) ae_int) ip_addA (set_A (hu_of hr)))
    (ass_one (as_asg (ae_cal C_law_told_row (hr.mono (by decide)) (by rfl) (aa_cons (ae_ix (ix_A (hu_of hr)) (ae_ix (ix_A (hu_of hr)) (ae_var 2 (pv 2)) (ae_var 3 (pv 3)) (fun _ _ => rfl)) ae_int (fun _ _ => rfl)) (aa_cons (ae_var 6 (pv 6)) aa_nil))) (ag_sub (ae_var 2 (pv 2)) (ae_var 3 (pv 3)) (set_A (hu_of hr))))))))))))
    (ass_one (as_ret (ae_callTy call_tupleA (by rfl) T.tuple (by decide +kernel) (aa_cons (ae_var 2 (pv 2)) aa_nil))))))))))
    fun xs h R c1 c2 q => match xs, q with | [x0, x1], q => pure_law_bent_rows x0 x1 h R c1 c2 q
abbrev st_law_agree : Stmt := topS 37
theorem sc_law_agree : FnScope ["rows", "k", "proof", "whole", "told"] ["rows", "k", "proof", "whole"] (defScope st_law_agree) := ⟨rfl, rfl, rfl, by decide +kernel, rfl, by decide +kernel, by decide +kernel⟩
theorem cal_law_agree (T : Txt K mg) (DF : DefIs K mg "_law_agree" st_law_agree) (C_shows_empty : Cal P w K mg base 4 "shows_empty" ["rows", "k", "proof", "whole"] sp_shows_empty) (C_law_shut : Cal P w K mg base 4 "_law_shut" ["rows", "proof", "whole"] sp_law_shut) : Cal P w K mg base 5 "_law_agree" ["rows", "k", "proof", "whole"] sp_law_agree :=
  .mk_ DF (fun F => F.binds (fun _ _ _ _ _ _ us hl => match us, hl with | [_, _, _, _], _ => rfl)) fun F => okA F sc_law_agree (fun _ _ _ _ q => A4_len q) (fun cdv A outer s H E hr =>
    (ass_cons (as_set (i := 4) sc_law_agree.nd rfl (Or.inl rfl) (ae_cal C_shows_empty (hr.mono (by decide)) (by rfl) (aa_cons (ae_var 0 (pv 0)) (aa_cons (ae_var 1 (pv 1)) (aa_cons (ae_var 2 (pv 2)) (aa_cons (ae_var 3 (pv 3)) aa_nil))))))
    (ass_one (as_ret (ae_and (ae_callB call_instA (by rfl) T.isinstance (by decide +kernel) (aa_cons (ae_var 4 (pv 4)) (aa_cons (ae_ty (by rfl) T.bool (by decide +kernel)) aa_nil))) (ae_one (ae_cmp (op_eqA hr.units) (ae_var 4 (pv 4)) (ae_cal C_law_shut (hr.mono (by decide)) (by rfl) (aa_cons (ae_var 0 (pv 0)) (aa_cons (ae_var 2 (pv 2)) (aa_cons (ae_var 3 (pv 3)) aa_nil)))) (nomark _))))))))
    fun xs h R c1 c2 q => match xs, q with | [x0, x1, x2, x3], q => pure_law_agree x0 x1 x2 x3 h R c1 c2 q
abbrev st_law_mixes : Stmt := topS 38
theorem sc_law_mixes : FnScope ["rows", "weights", "k", "told", "total", "due", "number"] ["rows", "weights", "k"] (defScope st_law_mixes) := ⟨rfl, rfl, rfl, by decide +kernel, rfl, by decide +kernel, by decide +kernel⟩
theorem cal_law_mixes (T : Txt K mg) (DF : DefIs K mg "_law_mixes" st_law_mixes) (C_mixed : Cal P w K mg base 1 "mixed" ["rows", "weights"] sp_mixed) (C_law_is_int : Cal P w K mg base 1 "_law_is_int" ["thing"] sp_law_is_int) (C_law_summed : Cal P w K mg base 1 "_law_summed" ["rows", "weights", "k"] sp_law_summed) : Cal P w K mg base 2 "_law_mixes" ["rows", "weights", "k"] sp_law_mixes :=
  .mk_ DF (fun F => F.binds (fun _ _ _ _ _ _ us hl => match us, hl with | [_, _, _], _ => rfl)) fun F => okA F sc_law_mixes (fun _ _ _ _ q => A3_len q) (fun cdv A outer s H E hr =>
    (ass_cons (as_if (at_cmp op_ltA (ae_callB (call_min1A rfl hr.units) (by rfl) T.min (by decide +kernel) (aa_cons (ae_var 1 (pv 1)) aa_nil)) ae_int (nomark _)) (ass_one (as_ret ae_bl)) ass_nil)
    (ass_cons (as_set (i := 3) sc_law_mixes.nd rfl (Or.inl rfl) (ae_cal C_mixed (hr.mono (by decide)) (by rfl) (aa_cons (ae_var 0 (pv 0)) (aa_cons (ae_var 1 (pv 1)) aa_nil))))
    (ass_cons (as_set (i := 4) sc_law_mixes.nd rfl (Or.inl rfl) (ae_cal C_law_summed (hr.mono (by decide)) (by rfl) (aa_cons (ae_var 0 (pv 0)) (aa_cons (ae_var 1 (pv 1)) (aa_cons (ae_var 2 (pv 2)) aa_nil)))))
    (ass_cons (as_set (i := 5) sc_law_mixes.nd rfl (Or.inl rfl) (ae_op op_addA (ae_tup (aa_cons (ae_callTy call_intA (by rfl) T.int (by decide +kernel) (aa_cons (ae_cmp op_gtA (ae_ix (ix_A (hu_of hr)) (ae_var 4 (pv 4)) ae_int (fun _ _ => rfl)) ae_int (nomark _)) aa_nil)) aa_nil)) (ae_callTy call_tupleA (by rfl) T.tuple (by decide +kernel) (aa_cons (ae_slice sl_A (ae_var 4 (pv 4)) (ao_some ae_int) ao_none) aa_nil))))
    (ass_one (as_ret (ae_and (ae_callB call_instA (by rfl) T.isinstance (by decide +kernel) (aa_cons (ae_var 3 (pv 3)) (aa_cons (ae_ty (by rfl) T.tuple (by decide +kernel)) aa_nil))) (ae_and (ae_callB (call_allA rfl) (by rfl) T.all (by decide +kernel) (aa_cons (ae_lc (gr := (gName 6)) rfl sc_law_mixes.nd (ai_seq (ae_var 3 (pv 3))) (blkOk_by (N := ["rows", "weights", "k", "told", "total", "due", "number"]) (sc := defScope st_law_mixes) (own := [("number", 6)]) (by decide +kernel)) (cg_name (by decide)) (fun _ _ _ _ _ hq q => hq _ _ q) (fun _ _ _ _ _ => pg_name (i := 6) sc_law_mixes.nd rfl (Or.inl rfl)) (fun _ _ _ _ _ => ats_nil) (fun _ _ _ _ _ => (ae_cal C_law_is_int (hr.mono (by decide)) (by rfl) (aa_cons (ae_var 6 (pv 6)) aa_nil)))) aa_nil)) (ae_one (ae_cmp (op_eqA hr.units) (ae_var 3 (pv 3)) (ae_var 5 (pv 5)) (nomark _))))))))))))
    fun xs h R c1 c2 q => match xs, q with | [x0, x1, x2], q => pure_law_mixes x0 x1 x2 h R c1 c2 q
abbrev st_law_holds_all : Stmt := topS 39
theorem sc_law_holds_all : FnScope ["d", "k", "rows", "proof", "wholes", "whole", "weights", "longer", "grown", "turn"] ["d", "k", "rows", "proof"] (defScope st_law_holds_all) := ⟨rfl, rfl, rfl, by decide +kernel, rfl, by decide +kernel, by decide +kernel⟩
theorem cal_law_holds_all (T : Txt K mg) (DF : DefIs K mg "_law_holds_all" st_law_holds_all) (C_law_pick : Cal P w K mg base 2 "_law_pick" ["d", "row"] sp_law_pick) (C_law_free_row : Cal P w K mg base 4 "_law_free_row" ["d", "k"] sp_law_free_row) (C_law_bent_proof : Cal P w K mg base 4 "_law_bent_proof" ["d", "proof"] sp_law_bent_proof) (C_law_bent_rows : Cal P w K mg base 4 "_law_bent_rows" ["d", "rows"] sp_law_bent_rows) (C_law_agree : Cal P w K mg base 5 "_law_agree" ["rows", "k", "proof", "whole"] sp_law_agree) (C_law_mixes : Cal P w K mg base 2 "_law_mixes" ["rows", "weights", "k"] sp_law_mixes) : Cal P w K mg base 6 "_law_holds_all" ["d", "k", "rows", "proof"] sp_law_holds_all :=
  .mk_ DF (fun F => F.binds (fun _ _ _ _ _ _ us hl => match us, hl with | [_, _, _, _], _ => rfl)) fun F => okA F sc_law_holds_all (fun _ _ _ _ q => A4_len q) (fun cdv A outer s H E hr =>
    (ass_cons (as_set (i := 4) sc_law_holds_all.nd rfl (Or.inl rfl) (ae_ifExp (at_cmp op_gtA (ae_var 1 (pv 1)) ae_int (nomark _)) (ae_lst (aa_cons ae_int (aa_cons ae_int aa_nil))) (ae_lst (aa_cons ae_int aa_nil))))
    (ass_cons (as_for PassesOwn.never rfl (ai_seq (ae_var 4 (pv 4))) (ag_name (i := 5) sc_law_holds_all.nd rfl (Or.inl rfl)) (ass_one (as_if (at_not (at_tru tru_A (ae_cal C_law_agree (hr.mono (by decide)) (by rfl) (aa_cons (ae_var 2 (pv 2)) (aa_cons (ae_var 1 (pv 1)) (aa_cons (ae_var 3 (pv 3)) (aa_cons (ae_var 5 (pv 5)) aa_nil))))))) (ass_one (as_ret ae_bl)) ass_nil)))
    (ass_cons (as_for PassesOwn.never rfl (ai_seq (ae_slice sl_A (ae_var 3 (pv 3)) (ao_some ae_int) ao_none)) (ag_name (i := 6) sc_law_holds_all.nd rfl (Or.inl rfl)) (ass_one (as_if (at_not (at_tru tru_A (ae_cal C_law_mixes (hr.mono (by decide)) (by rfl) (aa_cons (ae_var 2 (pv 2)) (aa_cons (ae_var 6 (pv 6)) (aa_cons (ae_var 1 (pv 1)) aa_nil)))))) (ass_one (as_ret ae_bl)) ass_nil)))
    (ass_cons (as_set (i := 7) sc_law_holds_all.nd rfl (Or.inl rfl) (ae_op op_addA (ae_var 2 (pv 2)) (ae_tup (aa_cons (ae_cal C_law_free_row (hr.mono (by decide)) (by rfl) (aa_cons (ae_var 0 (pv 0)) (aa_cons (ae_var 1 (pv 1)) aa_nil))) aa_nil))))
    (ass_cons (as_set (i := 8) sc_law_holds_all.nd rfl (Or.inl rfl) (ae_op op_addA (ae_tup (aa_cons (ae_ix (ix_A (hu_of hr)) (ae_var 3 (pv 3)) ae_int (fun _ _ => rfl)) aa_nil)) (ae_callTy call_tupleA (by rfl) T.tuple (by decide +kernel) (aa_cons (ae_lc (gr := (gName 6)) rfl sc_law_holds_all.nd (ai_seq (ae_slice sl_A (ae_var 3 (pv 3)) (ao_some ae_int) ao_none)) (blkOk_by (N := ["d", "k", "rows", "proof", "wholes", "whole", "weights", "longer", "grown", "turn"]) (sc := defScope st_law_holds_all) (own := [("weights", 6)]) (by decide +kernel)) (cg_name (by decide)) (fun _ _ _ _ _ hq q => hq _ _ q) (fun _ _ _ _ _ => pg_name (i := 6) sc_law_holds_all.nd rfl (Or.inl rfl)) (fun _ _ _ _ _ => ats_nil) (fun _ _ _ _ _ => (ae_op op_addA (ae_var 6 (pv 6)) (ae_tup (aa_cons ae_int aa_nil))))) aa_nil))))
    (ass_cons (as_if (at_w (aw_or (at_not (at_tru tru_A (ae_cal C_law_agree (hr.mono (by decide)) (by rfl) (aa_cons (ae_var 7 (pv 7)) (aa_cons (ae_var 1 (pv 1)) (aa_cons (ae_var 8 (pv 8)) (aa_cons (ae_cal C_law_pick (hr.mono (by decide)) (by rfl) (aa_cons (ae_var 0 (pv 0)) (aa_cons (ae_var 4 (pv 4)) aa_nil))) aa_nil))))))) (aw_or1 (at_not (at_tru tru_A (ae_cal C_law_mixes (hr.mono (by decide)) (by rfl) (aa_cons (ae_var 7 (pv 7)) (aa_cons (ae_ix (ix_A (hu_of hr)) (ae_var 8 (pv 8)) ae_int (fun _ _ => rfl)) (aa_cons (ae_var 1 (pv 1)) aa_nil))))))))) (ass_one (as_ret ae_bl)) ass_nil)
    (ass_cons (as_for PassesOwn.never rfl (ai_range1 (by rfl) T.range (aa_cons ae_int aa_nil)) (ag_name (i := 9) sc_law_holds_all.nd rfl (Or.inl rfl)) (ass_one (as_if (at_not (at_tru tru_A (ae_cal C_law_agree (hr.mono (by decide)) (by rfl) (aa_cons (ae_var 2 (pv 2)) (aa_cons (ae_var 1 (pv 1)) (aa_cons (ae_cal C_law_bent_proof (hr.mono (by decide)) (by rfl) (aa_cons (ae_var 0 (pv 0)) (aa_cons (ae_var 3 (pv 3)) aa_nil))) (aa_cons (ae_cal C_law_pick (hr.mono (by decide)) (by rfl) (aa_cons (ae_var 0 (pv 0)) (aa_cons (ae_var 4 (pv 4)) aa_nil))) aa_nil))))))) (ass_one (as_ret ae_bl)) ass_nil)))
    (ass_cons (as_for PassesOwn.never rfl (ai_range1 (by rfl) T.range (aa_cons ae_int aa_nil)) (ag_name (i := 9) sc_law_holds_all.nd rfl (Or.inl rfl)) (ass_one (as_if (at_not (at_tru tru_A (ae_cal C_law_agree (hr.mono (by decide)) (by rfl) (aa_cons (ae_cal C_law_bent_rows (hr.mono (by decide)) (by rfl) (aa_cons (ae_var 0 (pv 0)) (aa_cons (ae_var 2 (pv 2)) aa_nil))) (aa_cons (ae_var 1 (pv 1)) (aa_cons (ae_var 3 (pv 3)) (aa_cons (ae_cal C_law_pick (hr.mono (by decide)) (by rfl) (aa_cons (ae_var 0 (pv 0)) (aa_cons (ae_var 4 (pv 4)) aa_nil))) aa_nil))))))) (ass_one (as_ret ae_bl)) ass_nil)))
    (ass_one (as_ret (ae_cal C_law_agree (hr.mono (by decide)) (by rfl) (aa_cons (ae_var 2 (pv 2)) (aa_cons (ae_var 1 (pv 1)) (aa_cons (ae_var 3 (pv 3)) (aa_cons (ae_ix (ix_A (hu_of hr)) (ae_var 4 (pv 4)) (ae_un un_negA ae_int) (fun _ _ => rfl)) aa_nil))))))))))))))))
    fun xs h R c1 c2 q => match xs, q with | [x0, x1, x2, x3], q => pure_law_holds_all x0 x1 x2 x3 h R c1 c2 q
abbrev st_law : Stmt := topS 40
theorem sc_law : FnScope ["script", "d", "turn", "k", "rows", "proof"] ["script"] (defScope st_law) := ⟨rfl, rfl, rfl, by decide +kernel, rfl, by decide +kernel, by decide +kernel⟩
theorem ok_law (T : Txt K mg) {f : Addr} {fd : FuncData} (F : Fun K "law" "law" st_law f fd) (C_law_begin : Cal P w K mg base 1 "_law_begin" ["script"] sp_law_begin) (C_law_draw : Cal P w K mg base 1 "_law_draw" ["d", "many"] sp_law_draw) (C_law_add_case : Cal P w K mg base 5 "_law_add_case" ["d"] sp_law_add_case) (C_law_round_case : Cal P w K mg base 5 "_law_round_case" ["d"] sp_law_round_case) (C_law_holds_all : Cal P w K mg base 6 "_law_holds_all" ["d", "k", "rows", "proof"] sp_law_holds_all) : FnOk P w K mg base CX0 7 f fd ["script"] (upSp K sp_law) :=
  okA F sc_law (fun _ _ _ _ q => A1_len q) (fun cdv A outer s H E hr =>
    (ass_cons (as_set (i := 1) sc_law.nd rfl (Or.inl rfl) (ae_cal C_law_begin (hr.mono (by decide)) (by rfl) (aa_cons (ae_var 0 (pv 0)) aa_nil)))
    (ass_cons (as_for PassesOwn.never rfl (ai_range1 (by rfl) T.range (aa_cons ae_int aa_nil)) (ag_name (i := 2) sc_law.nd rfl (Or.inl rfl)) (ass_cons (as_if (at_cmp (op_eqA hr.units) (ae_cal C_law_draw (hr.mono (by decide)) (by rfl) (aa_cons (ae_var 1 (pv 1)) (aa_cons ae_int aa_nil))) ae_int (nomark _)) (ass_one (as_asg (ae_cal C_law_add_case (hr.mono (by decide)) (by rfl) (aa_cons (ae_var 1 (pv 1)) aa_nil)) (ag_tup rfl (ags_cons (ag_name (i := 3) sc_law.nd rfl (Or.inl rfl)) (ags_cons (ag_name (i := 4) sc_law.nd rfl (Or.inl rfl)) (ags_cons (ag_name (i := 5) sc_law.nd rfl (Or.inl rfl)) ags_nil)))))) (ass_one (as_asg (ae_cal C_law_round_case (hr.mono (by decide)) (by rfl) (aa_cons (ae_var 1 (pv 1)) aa_nil)) (ag_tup rfl (ags_cons (ag_name (i := 3) sc_law.nd rfl (Or.inl rfl)) (ags_cons (ag_name (i := 4) sc_law.nd rfl (Or.inl rfl)) (ags_cons (ag_name (i := 5) sc_law.nd rfl (Or.inl rfl)) ags_nil)))))))
    (ass_one (as_if (at_not (at_tru tru_A (ae_cal C_law_holds_all (hr.mono (by decide)) (by rfl) (aa_cons (ae_var 1 (pv 1)) (aa_cons (ae_var 3 (pv 3)) (aa_cons (ae_var 4 (pv 4)) (aa_cons (ae_var 5 (pv 5)) aa_nil))))))) (ass_one (as_ret ae_bl)) ass_nil))))
    (ass_one (as_ret ae_bl)))))
    fun xs h R c1 c2 q => match xs, q with | [x0], q => pure_law x0 h R c1 c2 q
end
theorem all_mk {l : PySem.W.OpenLaw} {w : World} {K : PySem.W.Frag} {h : Heap} {mg : Str → Option Value} {fa : Addr} (X : K.In h) (G : h.Ns mainGlobals mg) (hfa : mg "law" = some (.ref fa))
    {f_ratio : Addr} {od_ratio an_ratio : Option Addr} {sl_ratio : Array (Option Value)} {oc_ratio kV_ratio dc_ratio pm_ratio cd_ratio ct_ratio : Value}
    {f_whole_number : Addr} {od_whole_number an_whole_number : Option Addr} {sl_whole_number : Array (Option Value)} {oc_whole_number kV_whole_number dc_whole_number pm_whole_number cd_whole_number ct_whole_number : Value}
    {f_floor_of : Addr} {od_floor_of an_floor_of : Option Addr} {sl_floor_of : Array (Option Value)} {oc_floor_of kV_floor_of dc_floor_of pm_floor_of cd_floor_of ct_floor_of : Value}
    {f_ceiling_of : Addr} {od_ceiling_of an_ceiling_of : Option Addr} {sl_ceiling_of : Array (Option Value)} {oc_ceiling_of kV_ceiling_of dc_ceiling_of pm_ceiling_of cd_ceiling_of ct_ceiling_of : Value}
    {f_mixed : Addr} {od_mixed an_mixed : Option Addr} {sl_mixed : Array (Option Value)} {oc_mixed kV_mixed dc_mixed pm_mixed cd_mixed ct_mixed : Value}
    {f_all_zero : Addr} {od_all_zero an_all_zero : Option Addr} {sl_all_zero : Array (Option Value)} {oc_all_zero kV_all_zero dc_all_zero pm_all_zero cd_all_zero ct_all_zero : Value}
    {f_law_begin : Addr} {od_law_begin an_law_begin : Option Addr} {sl_law_begin : Array (Option Value)} {oc_law_begin kV_law_begin dc_law_begin pm_law_begin cd_law_begin ct_law_begin : Value}
    {f_law_draw : Addr} {od_law_draw an_law_draw : Option Addr} {sl_law_draw : Array (Option Value)} {oc_law_draw kV_law_draw dc_law_draw pm_law_draw cd_law_draw ct_law_draw : Value}
    {f_law_gcd : Addr} {od_law_gcd an_law_gcd : Option Addr} {sl_law_gcd : Array (Option Value)} {oc_law_gcd kV_law_gcd dc_law_gcd pm_law_gcd cd_law_gcd ct_law_gcd : Value}
    {f_law_is_int : Addr} {od_law_is_int an_law_is_int : Option Addr} {sl_law_is_int : Array (Option Value)} {oc_law_is_int kV_law_is_int dc_law_is_int pm_law_is_int cd_law_is_int ct_law_is_int : Value}
    {f_law_adds : Addr} {od_law_adds an_law_adds : Option Addr} {sl_law_adds : Array (Option Value)} {oc_law_adds kV_law_adds dc_law_adds pm_law_adds cd_law_adds ct_law_adds : Value}
    {f_law_summed : Addr} {od_law_summed an_law_summed : Option Addr} {sl_law_summed : Array (Option Value)} {oc_law_summed kV_law_summed dc_law_summed pm_law_summed cd_law_summed ct_law_summed : Value}
    {f_good_weights : Addr} {od_good_weights an_good_weights : Option Addr} {sl_good_weights : Array (Option Value)} {oc_good_weights kV_good_weights dc_good_weights pm_good_weights cd_good_weights ct_good_weights : Value}
    {f_law_pick : Addr} {od_law_pick an_law_pick : Option Addr} {sl_law_pick : Array (Option Value)} {oc_law_pick kV_law_pick dc_law_pick pm_law_pick cd_law_pick ct_law_pick : Value}
    {f_law_rare : Addr} {od_law_rare an_law_rare : Option Addr} {sl_law_rare : Array (Option Value)} {oc_law_rare kV_law_rare dc_law_rare pm_law_rare cd_law_rare ct_law_rare : Value}
    {f_law_lowest : Addr} {od_law_lowest an_law_lowest : Option Addr} {sl_law_lowest : Array (Option Value)} {oc_law_lowest kV_law_lowest dc_law_lowest pm_law_lowest cd_law_lowest ct_law_lowest : Value}
    {f_law_good_weights : Addr} {od_law_good_weights an_law_good_weights : Option Addr} {sl_law_good_weights : Array (Option Value)} {oc_law_good_weights kV_law_good_weights dc_law_good_weights pm_law_good_weights cd_law_good_weights ct_law_good_weights : Value}
    {f_law_share : Addr} {od_law_share an_law_share : Option Addr} {sl_law_share : Array (Option Value)} {oc_law_share kV_law_share dc_law_share pm_law_share cd_law_share ct_law_share : Value}
    {f_law_weight : Addr} {od_law_weight an_law_weight : Option Addr} {sl_law_weight : Array (Option Value)} {oc_law_weight kV_law_weight dc_law_weight pm_law_weight cd_law_weight ct_law_weight : Value}
    {f_law_odd : Addr} {od_law_odd an_law_odd : Option Addr} {sl_law_odd : Array (Option Value)} {oc_law_odd kV_law_odd dc_law_odd pm_law_odd cd_law_odd ct_law_odd : Value}
    {f_law_mixes : Addr} {od_law_mixes an_law_mixes : Option Addr} {sl_law_mixes : Array (Option Value)} {oc_law_mixes kV_law_mixes dc_law_mixes pm_law_mixes cd_law_mixes ct_law_mixes : Value}
    {f_adds_up : Addr} {od_adds_up an_adds_up : Option Addr} {sl_adds_up : Array (Option Value)} {oc_adds_up kV_adds_up dc_adds_up pm_adds_up cd_adds_up ct_adds_up : Value}
    {f_first_bound : Addr} {od_first_bound an_first_bound : Option Addr} {sl_first_bound : Array (Option Value)} {oc_first_bound kV_first_bound dc_first_bound pm_first_bound cd_first_bound ct_first_bound : Value}
    {f_law_whole_bound : Addr} {od_law_whole_bound an_law_whole_bound : Option Addr} {sl_law_whole_bound : Array (Option Value)} {oc_law_whole_bound kV_law_whole_bound dc_law_whole_bound pm_law_whole_bound cd_law_whole_bound ct_law_whole_bound : Value}
    {f_law_told_row : Addr} {od_law_told_row an_law_told_row : Option Addr} {sl_law_told_row : Array (Option Value)} {oc_law_told_row kV_law_told_row dc_law_told_row pm_law_told_row cd_law_told_row ct_law_told_row : Value}
    {f_law_bent_weights : Addr} {od_law_bent_weights an_law_bent_weights : Option Addr} {sl_law_bent_weights : Array (Option Value)} {oc_law_bent_weights kV_law_bent_weights dc_law_bent_weights pm_law_bent_weights cd_law_bent_weights ct_law_bent_weights : Value}
    {f_shows_empty : Addr} {od_shows_empty an_shows_empty : Option Addr} {sl_shows_empty : Array (Option Value)} {oc_shows_empty kV_shows_empty dc_shows_empty pm_shows_empty cd_shows_empty ct_shows_empty : Value}
    {f_law_shut : Addr} {od_law_shut an_law_shut : Option Addr} {sl_law_shut : Array (Option Value)} {oc_law_shut kV_law_shut dc_law_shut pm_law_shut cd_law_shut ct_law_shut : Value}
    {f_law_free_row : Addr} {od_law_free_row an_law_free_row : Option Addr} {sl_law_free_row : Array (Option Value)} {oc_law_free_row kV_law_free_row dc_law_free_row pm_law_free_row cd_law_free_row ct_law_free_row : Value}
    {f_law_close : Addr} {od_law_close an_law_close : Option Addr} {sl_law_close : Array (Option Value)} {oc_law_close kV_law_close dc_law_close pm_law_close cd_law_close ct_law_close : Value}
    {f_law_bent_proof : Addr} {od_law_bent_proof an_law_bent_proof : Option Addr} {sl_law_bent_proof : Array (Option Value)} {oc_law_bent_proof kV_law_bent_proof dc_law_bent_proof pm_law_bent_proof cd_law_bent_proof ct_law_bent_proof : Value}
    {f_law_bent_rows : Addr} {od_law_bent_rows an_law_bent_rows : Option Addr} {sl_law_bent_rows : Array (Option Value)} {oc_law_bent_rows kV_law_bent_rows dc_law_bent_rows pm_law_bent_rows cd_law_bent_rows ct_law_bent_rows : Value}
    {f_law_add_case : Addr} {od_law_add_case an_law_add_case : Option Addr} {sl_law_add_case : Array (Option Value)} {oc_law_add_case kV_law_add_case dc_law_add_case pm_law_add_case cd_law_add_case ct_law_add_case : Value}
    {f_law_round_case : Addr} {od_law_round_case an_law_round_case : Option Addr} {sl_law_round_case : Array (Option Value)} {oc_law_round_case kV_law_round_case dc_law_round_case pm_law_round_case cd_law_round_case ct_law_round_case : Value}
    {f_law_agree : Addr} {od_law_agree an_law_agree : Option Addr} {sl_law_agree : Array (Option Value)} {oc_law_agree kV_law_agree dc_law_agree pm_law_agree cd_law_agree ct_law_agree : Value}
    {f_law_holds_all : Addr} {od_law_holds_all an_law_holds_all : Option Addr} {sl_law_holds_all : Array (Option Value)} {oc_law_holds_all kV_law_holds_all dc_law_holds_all pm_law_holds_all cd_law_holds_all ct_law_holds_all : Value}
    {f_law : Addr} {od_law an_law : Option Addr} {sl_law : Array (Option Value)} {oc_law kV_law dc_law pm_law cd_law ct_law : Value}
    (a_ratio : PySem.W.nsIn K mainGlobals "ratio" = some (some (.ref f_ratio)))
    (l_ratio : K.lookup f_ratio = some ⟨oc_ratio, od_ratio, .func (PySem.W.fnOf "ratio" "ratio" (defArgs st_ratio) (defBody st_ratio) (defScope st_ratio) .none kV_ratio dc_ratio pm_ratio an_ratio cd_ratio ct_ratio), sl_ratio⟩)
    (c_ratio : PySem.W.codeIn K cd_ratio "ratio" = true)
    (k_ratio : PySem.W.keepIn K (.ref f_ratio) = true)
    (a_whole_number : PySem.W.nsIn K mainGlobals "whole_number" = some (some (.ref f_whole_number)))
    (l_whole_number : K.lookup f_whole_number = some ⟨oc_whole_number, od_whole_number, .func (PySem.W.fnOf "whole_number" "whole_number" (defArgs st_whole_number) (defBody st_whole_number) (defScope st_whole_number) .none kV_whole_number dc_whole_number pm_whole_number an_whole_number cd_whole_number ct_whole_number), sl_whole_number⟩)
    (c_whole_number : PySem.W.codeIn K cd_whole_number "whole_number" = true)
    (k_whole_number : PySem.W.keepIn K (.ref f_whole_number) = true)
    (a_floor_of : PySem.W.nsIn K mainGlobals "floor_of" = some (some (.ref f_floor_of)))
    (l_floor_of : K.lookup f_floor_of = some ⟨oc_floor_of, od_floor_of, .func (PySem.W.fnOf "floor_of" "floor_of" (defArgs st_floor_of) (defBody st_floor_of) (defScope st_floor_of) .none kV_floor_of dc_floor_of pm_floor_of an_floor_of cd_floor_of ct_floor_of), sl_floor_of⟩)
    (c_floor_of : PySem.W.codeIn K cd_floor_of "floor_of" = true)
    (k_floor_of : PySem.W.keepIn K (.ref f_floor_of) = true)
    (a_ceiling_of : PySem.W.nsIn K mainGlobals "ceiling_of" = some (some (.ref f_ceiling_of)))
    (l_ceiling_of : K.lookup f_ceiling_of = some ⟨oc_ceiling_of, od_ceiling_of, .func (PySem.W.fnOf "ceiling_of" "ceiling_of" (defArgs st_ceiling_of) (defBody st_ceiling_of) (defScope st_ceiling_of) .none kV_ceiling_of dc_ceiling_of pm_ceiling_of an_ceiling_of cd_ceiling_of ct_ceiling_of), sl_ceiling_of⟩)
    (c_ceiling_of : PySem.W.codeIn K cd_ceiling_of "ceiling_of" = true)
    (k_ceiling_of : PySem.W.keepIn K (.ref f_ceiling_of) = true)
    (a_mixed : PySem.W.nsIn K mainGlobals "mixed" = some (some (.ref f_mixed)))
    (l_mixed : K.lookup f_mixed = some ⟨oc_mixed, od_mixed, .func (PySem.W.fnOf "mixed" "mixed" (defArgs st_mixed) (defBody st_mixed) (defScope st_mixed) .none kV_mixed dc_mixed pm_mixed an_mixed cd_mixed ct_mixed), sl_mixed⟩)
    (c_mixed : PySem.W.codeIn K cd_mixed "mixed" = true)
    (k_mixed : PySem.W.keepIn K (.ref f_mixed) = true)
    (a_all_zero : PySem.W.nsIn K mainGlobals "all_zero" = some (some (.ref f_all_zero)))
    (l_all_zero : K.lookup f_all_zero = some ⟨oc_all_zero, od_all_zero, .func (PySem.W.fnOf "all_zero" "all_zero" (defArgs st_all_zero) (defBody st_all_zero) (defScope st_all_zero) .none kV_all_zero dc_all_zero pm_all_zero an_all_zero cd_all_zero ct_all_zero), sl_all_zero⟩)
    (c_all_zero : PySem.W.codeIn K cd_all_zero "all_zero" = true)
    (k_all_zero : PySem.W.keepIn K (.ref f_all_zero) = true)
    (a_law_begin : PySem.W.nsIn K mainGlobals "_law_begin" = some (some (.ref f_law_begin)))
    (l_law_begin : K.lookup f_law_begin = some ⟨oc_law_begin, od_law_begin, .func (PySem.W.fnOf "_law_begin" "_law_begin" (defArgs st_law_begin) (defBody st_law_begin) (defScope st_law_begin) .none kV_law_begin dc_law_begin pm_law_begin an_law_begin cd_law_begin ct_law_begin), sl_law_begin⟩)
    (c_law_begin : PySem.W.codeIn K cd_law_begin "_law_begin" = true)
    (k_law_begin : PySem.W.keepIn K (.ref f_law_begin) = true)
    (a_law_draw : PySem.W.nsIn K mainGlobals "_law_draw" = some (some (.ref f_law_draw)))
    (l_law_draw : K.lookup f_law_draw = some ⟨oc_law_draw, od_law_draw, .func (PySem.W.fnOf "_law_draw" "_law_draw" (defArgs st_law_draw) (defBody st_law_draw) (defScope st_law_draw) .none kV_law_draw dc_law_draw pm_law_draw an_law_draw cd_law_draw ct_law_draw), sl_law_draw⟩)
    (c_law_draw : PySem.W.codeIn K cd_law_draw "_law_draw" = true)
    (k_law_draw : PySem.W.keepIn K (.ref f_law_draw) = true)
    (a_law_gcd : PySem.W.nsIn K mainGlobals "_law_gcd" = some (some (.ref f_law_gcd)))
    (l_law_gcd : K.lookup f_law_gcd = some ⟨oc_law_gcd, od_law_gcd, .func (PySem.W.fnOf "_law_gcd" "_law_gcd" (defArgs st_law_gcd) (defBody st_law_gcd) (defScope st_law_gcd) .none kV_law_gcd dc_law_gcd pm_law_gcd an_law_gcd cd_law_gcd ct_law_gcd), sl_law_gcd⟩)
    (c_law_gcd : PySem.W.codeIn K cd_law_gcd "_law_gcd" = true)
    (k_law_gcd : PySem.W.keepIn K (.ref f_law_gcd) = true)
    (a_law_is_int : PySem.W.nsIn K mainGlobals "_law_is_int" = some (some (.ref f_law_is_int)))
    (l_law_is_int : K.lookup f_law_is_int = some ⟨oc_law_is_int, od_law_is_int, .func (PySem.W.fnOf "_law_is_int" "_law_is_int" (defArgs st_law_is_int) (defBody st_law_is_int) (defScope st_law_is_int) .none kV_law_is_int dc_law_is_int pm_law_is_int an_law_is_int cd_law_is_int ct_law_is_int), sl_law_is_int⟩)
    (c_law_is_int : PySem.W.codeIn K cd_law_is_int "_law_is_int" = true)
    (k_law_is_int : PySem.W.keepIn K (.ref f_law_is_int) = true)
    (a_law_adds : PySem.W.nsIn K mainGlobals "_law_adds" = some (some (.ref f_law_adds)))
    (l_law_adds : K.lookup f_law_adds = some ⟨oc_law_adds, od_law_adds, .func (PySem.W.fnOf "_law_adds" "_law_adds" (defArgs st_law_adds) (defBody st_law_adds) (defScope st_law_adds) .none kV_law_adds dc_law_adds pm_law_adds an_law_adds cd_law_adds ct_law_adds), sl_law_adds⟩)
    (c_law_adds : PySem.W.codeIn K cd_law_adds "_law_adds" = true)
    (k_law_adds : PySem.W.keepIn K (.ref f_law_adds) = true)
    (a_law_summed : PySem.W.nsIn K mainGlobals "_law_summed" = some (some (.ref f_law_summed)))
    (l_law_summed : K.lookup f_law_summed = some ⟨oc_law_summed, od_law_summed, .func (PySem.W.fnOf "_law_summed" "_law_summed" (defArgs st_law_summed) (defBody st_law_summed) (defScope st_law_summed) .none kV_law_summed dc_law_summed pm_law_summed an_law_summed cd_law_summed ct_law_summed), sl_law_summed⟩)
    (c_law_summed : PySem.W.codeIn K cd_law_summed "_law_summed" = true)
    (k_law_summed : PySem.W.keepIn K (.ref f_law_summed) = true)
    (a_good_weights : PySem.W.nsIn K mainGlobals "good_weights" = some (some (.ref f_good_weights)))
    (l_good_weights : K.lookup f_good_weights = some ⟨oc_good_weights, od_good_weights, .func (PySem.W.fnOf "good_weights" "good_weights" (defArgs st_good_weights) (defBody st_good_weights) (defScope st_good_weights) .none kV_good_weights dc_good_weights pm_good_weights an_good_weights cd_good_weights ct_good_weights), sl_good_weights⟩)
    (c_good_weights : PySem.W.codeIn K cd_good_weights "good_weights" = true)
    (k_good_weights : PySem.W.keepIn K (.ref f_good_weights) = true)
    (a_law_pick : PySem.W.nsIn K mainGlobals "_law_pick" = some (some (.ref f_law_pick)))
    (l_law_pick : K.lookup f_law_pick = some ⟨oc_law_pick, od_law_pick, .func (PySem.W.fnOf "_law_pick" "_law_pick" (defArgs st_law_pick) (defBody st_law_pick) (defScope st_law_pick) .none kV_law_pick dc_law_pick pm_law_pick an_law_pick cd_law_pick ct_law_pick), sl_law_pick⟩)
    (c_law_pick : PySem.W.codeIn K cd_law_pick "_law_pick" = true)
    (k_law_pick : PySem.W.keepIn K (.ref f_law_pick) = true)
    (a_law_rare : PySem.W.nsIn K mainGlobals "_law_rare" = some (some (.ref f_law_rare)))
    (l_law_rare : K.lookup f_law_rare = some ⟨oc_law_rare, od_law_rare, .func (PySem.W.fnOf "_law_rare" "_law_rare" (defArgs st_law_rare) (defBody st_law_rare) (defScope st_law_rare) .none kV_law_rare dc_law_rare pm_law_rare an_law_rare cd_law_rare ct_law_rare), sl_law_rare⟩)
    (c_law_rare : PySem.W.codeIn K cd_law_rare "_law_rare" = true)
    (k_law_rare : PySem.W.keepIn K (.ref f_law_rare) = true)
    (a_law_lowest : PySem.W.nsIn K mainGlobals "_law_lowest" = some (some (.ref f_law_lowest)))
    (l_law_lowest : K.lookup f_law_lowest = some ⟨oc_law_lowest, od_law_lowest, .func (PySem.W.fnOf "_law_lowest" "_law_lowest" (defArgs st_law_lowest) (defBody st_law_lowest) (defScope st_law_lowest) .none kV_law_lowest dc_law_lowest pm_law_lowest an_law_lowest cd_law_lowest ct_law_lowest), sl_law_lowest⟩)
    (c_law_lowest : PySem.W.codeIn K cd_law_lowest "_law_lowest" = true)
    (k_law_lowest : PySem.W.keepIn K (.ref f_law_lowest) = true)
    (a_law_good_weights : PySem.W.nsIn K mainGlobals "_law_good_weights" = some (some (.ref f_law_good_weights)))
    (l_law_good_weights : K.lookup f_law_good_weights = some ⟨oc_law_good_weights, od_law_good_weights, .func (PySem.W.fnOf "_law_good_weights" "_law_good_weights" (defArgs st_law_good_weights) (defBody st_law_good_weights) (defScope st_law_good_weights) .none kV_law_good_weights dc_law_good_weights pm_law_good_weights an_law_good_weights cd_law_good_weights ct_law_good_weights), sl_law_good_weights⟩)
    (c_law_good_weights : PySem.W.codeIn K cd_law_good_weights "_law_good_weights" = true)
    (k_law_good_weights : PySem.W.keepIn K (.ref f_law_good_weights) = true)
    (a_law_share : PySem.W.nsIn K mainGlobals "_law_share" = some (some (.ref f_law_share)))
    (l_law_share : K.lookup f_law_share = some ⟨oc_law_share, od_law_share, .func (PySem.W.fnOf "_law_share" "_law_share" (defArgs st_law_share) (defBody st_law_share) (defScope st_law_share) .none kV_law_share dc_law_share pm_law_share an_law_share cd_law_share ct_law_share), sl_law_share⟩)
    (c_law_share : PySem.W.codeIn K cd_law_share "_law_share" = true)
    (k_law_share : PySem.W.keepIn K (.ref f_law_share) = true)
    (a_law_weight : PySem.W.nsIn K mainGlobals "_law_weight" = some (some (.ref f_law_weight)))
    (l_law_weight : K.lookup f_law_weight = some ⟨oc_law_weight, od_law_weight, .func (PySem.W.fnOf "_law_weight" "_law_weight" (defArgs st_law_weight) (defBody st_law_weight) (defScope st_law_weight) .none kV_law_weight dc_law_weight pm_law_weight an_law_weight cd_law_weight ct_law_weight), sl_law_weight⟩)
    (c_law_weight : PySem.W.codeIn K cd_law_weight "_law_weight" = true)
    (k_law_weight : PySem.W.keepIn K (.ref f_law_weight) = true)
    (a_law_odd : PySem.W.nsIn K mainGlobals "_law_odd" = some (some (.ref f_law_odd)))
    (l_law_odd : K.lookup f_law_odd = some ⟨oc_law_odd, od_law_odd, .func (PySem.W.fnOf "_law_odd" "_law_odd" (defArgs st_law_odd) (defBody st_law_odd) (defScope st_law_odd) .none kV_law_odd dc_law_odd pm_law_odd an_law_odd cd_law_odd ct_law_odd), sl_law_odd⟩)
    (c_law_odd : PySem.W.codeIn K cd_law_odd "_law_odd" = true)
    (k_law_odd : PySem.W.keepIn K (.ref f_law_odd) = true)
    (a_law_mixes : PySem.W.nsIn K mainGlobals "_law_mixes" = some (some (.ref f_law_mixes)))
    (l_law_mixes : K.lookup f_law_mixes = some ⟨oc_law_mixes, od_law_mixes, .func (PySem.W.fnOf "_law_mixes" "_law_mixes" (defArgs st_law_mixes) (defBody st_law_mixes) (defScope st_law_mixes) .none kV_law_mixes dc_law_mixes pm_law_mixes an_law_mixes cd_law_mixes ct_law_mixes), sl_law_mixes⟩)
    (c_law_mixes : PySem.W.codeIn K cd_law_mixes "_law_mixes" = true)
    (k_law_mixes : PySem.W.keepIn K (.ref f_law_mixes) = true)
    (a_adds_up : PySem.W.nsIn K mainGlobals "adds_up" = some (some (.ref f_adds_up)))
    (l_adds_up : K.lookup f_adds_up = some ⟨oc_adds_up, od_adds_up, .func (PySem.W.fnOf "adds_up" "adds_up" (defArgs st_adds_up) (defBody st_adds_up) (defScope st_adds_up) .none kV_adds_up dc_adds_up pm_adds_up an_adds_up cd_adds_up ct_adds_up), sl_adds_up⟩)
    (c_adds_up : PySem.W.codeIn K cd_adds_up "adds_up" = true)
    (k_adds_up : PySem.W.keepIn K (.ref f_adds_up) = true)
    (a_first_bound : PySem.W.nsIn K mainGlobals "first_bound" = some (some (.ref f_first_bound)))
    (l_first_bound : K.lookup f_first_bound = some ⟨oc_first_bound, od_first_bound, .func (PySem.W.fnOf "first_bound" "first_bound" (defArgs st_first_bound) (defBody st_first_bound) (defScope st_first_bound) .none kV_first_bound dc_first_bound pm_first_bound an_first_bound cd_first_bound ct_first_bound), sl_first_bound⟩)
    (c_first_bound : PySem.W.codeIn K cd_first_bound "first_bound" = true)
    (k_first_bound : PySem.W.keepIn K (.ref f_first_bound) = true)
    (a_law_whole_bound : PySem.W.nsIn K mainGlobals "_law_whole_bound" = some (some (.ref f_law_whole_bound)))
    (l_law_whole_bound : K.lookup f_law_whole_bound = some ⟨oc_law_whole_bound, od_law_whole_bound, .func (PySem.W.fnOf "_law_whole_bound" "_law_whole_bound" (defArgs st_law_whole_bound) (defBody st_law_whole_bound) (defScope st_law_whole_bound) .none kV_law_whole_bound dc_law_whole_bound pm_law_whole_bound an_law_whole_bound cd_law_whole_bound ct_law_whole_bound), sl_law_whole_bound⟩)
    (c_law_whole_bound : PySem.W.codeIn K cd_law_whole_bound "_law_whole_bound" = true)
    (k_law_whole_bound : PySem.W.keepIn K (.ref f_law_whole_bound) = true)
    (a_law_told_row : PySem.W.nsIn K mainGlobals "_law_told_row" = some (some (.ref f_law_told_row)))
    (l_law_told_row : K.lookup f_law_told_row = some ⟨oc_law_told_row, od_law_told_row, .func (PySem.W.fnOf "_law_told_row" "_law_told_row" (defArgs st_law_told_row) (defBody st_law_told_row) (defScope st_law_told_row) .none kV_law_told_row dc_law_told_row pm_law_told_row an_law_told_row cd_law_told_row ct_law_told_row), sl_law_told_row⟩)
    (c_law_told_row : PySem.W.codeIn K cd_law_told_row "_law_told_row" = true)
    (k_law_told_row : PySem.W.keepIn K (.ref f_law_told_row) = true)
    (a_law_bent_weights : PySem.W.nsIn K mainGlobals "_law_bent_weights" = some (some (.ref f_law_bent_weights)))
    (l_law_bent_weights : K.lookup f_law_bent_weights = some ⟨oc_law_bent_weights, od_law_bent_weights, .func (PySem.W.fnOf "_law_bent_weights" "_law_bent_weights" (defArgs st_law_bent_weights) (defBody st_law_bent_weights) (defScope st_law_bent_weights) .none kV_law_bent_weights dc_law_bent_weights pm_law_bent_weights an_law_bent_weights cd_law_bent_weights ct_law_bent_weights), sl_law_bent_weights⟩)
    (c_law_bent_weights : PySem.W.codeIn K cd_law_bent_weights "_law_bent_weights" = true)
    (k_law_bent_weights : PySem.W.keepIn K (.ref f_law_bent_weights) = true)
    (a_shows_empty : PySem.W.nsIn K mainGlobals "shows_empty" = some (some (.ref f_shows_empty)))
    (l_shows_empty : K.lookup f_shows_empty = some ⟨oc_shows_empty, od_shows_empty, .func (PySem.W.fnOf "shows_empty" "shows_empty" (defArgs st_shows_empty) (defBody st_shows_empty) (defScope st_shows_empty) .none kV_shows_empty dc_shows_empty pm_shows_empty an_shows_empty cd_shows_empty ct_shows_empty), sl_shows_empty⟩)
    (c_shows_empty : PySem.W.codeIn K cd_shows_empty "shows_empty" = true)
    (k_shows_empty : PySem.W.keepIn K (.ref f_shows_empty) = true)
    (a_law_shut : PySem.W.nsIn K mainGlobals "_law_shut" = some (some (.ref f_law_shut)))
    (l_law_shut : K.lookup f_law_shut = some ⟨oc_law_shut, od_law_shut, .func (PySem.W.fnOf "_law_shut" "_law_shut" (defArgs st_law_shut) (defBody st_law_shut) (defScope st_law_shut) .none kV_law_shut dc_law_shut pm_law_shut an_law_shut cd_law_shut ct_law_shut), sl_law_shut⟩)
    (c_law_shut : PySem.W.codeIn K cd_law_shut "_law_shut" = true)
    (k_law_shut : PySem.W.keepIn K (.ref f_law_shut) = true)
    (a_law_free_row : PySem.W.nsIn K mainGlobals "_law_free_row" = some (some (.ref f_law_free_row)))
    (l_law_free_row : K.lookup f_law_free_row = some ⟨oc_law_free_row, od_law_free_row, .func (PySem.W.fnOf "_law_free_row" "_law_free_row" (defArgs st_law_free_row) (defBody st_law_free_row) (defScope st_law_free_row) .none kV_law_free_row dc_law_free_row pm_law_free_row an_law_free_row cd_law_free_row ct_law_free_row), sl_law_free_row⟩)
    (c_law_free_row : PySem.W.codeIn K cd_law_free_row "_law_free_row" = true)
    (k_law_free_row : PySem.W.keepIn K (.ref f_law_free_row) = true)
    (a_law_close : PySem.W.nsIn K mainGlobals "_law_close" = some (some (.ref f_law_close)))
    (l_law_close : K.lookup f_law_close = some ⟨oc_law_close, od_law_close, .func (PySem.W.fnOf "_law_close" "_law_close" (defArgs st_law_close) (defBody st_law_close) (defScope st_law_close) .none kV_law_close dc_law_close pm_law_close an_law_close cd_law_close ct_law_close), sl_law_close⟩)
    (c_law_close : PySem.W.codeIn K cd_law_close "_law_close" = true)
    (k_law_close : PySem.W.keepIn K (.ref f_law_close) = true)
    (a_law_bent_proof : PySem.W.nsIn K mainGlobals "_law_bent_proof" = some (some (.ref f_law_bent_proof)))
    (l_law_bent_proof : K.lookup f_law_bent_proof = some ⟨oc_law_bent_proof, od_law_bent_proof, .func (PySem.W.fnOf "_law_bent_proof" "_law_bent_proof" (defArgs st_law_bent_proof) (defBody st_law_bent_proof) (defScope st_law_bent_proof) .none kV_law_bent_proof dc_law_bent_proof pm_law_bent_proof an_law_bent_proof cd_law_bent_proof ct_law_bent_proof), sl_law_bent_proof⟩)
    (c_law_bent_proof : PySem.W.codeIn K cd_law_bent_proof "_law_bent_proof" = true)
    (k_law_bent_proof : PySem.W.keepIn K (.ref f_law_bent_proof) = true)
    (a_law_bent_rows : PySem.W.nsIn K mainGlobals "_law_bent_rows" = some (some (.ref f_law_bent_rows)))
    (l_law_bent_rows : K.lookup f_law_bent_rows = some ⟨oc_law_bent_rows, od_law_bent_rows, .func (PySem.W.fnOf "_law_bent_rows" "_law_bent_rows" (defArgs st_law_bent_rows) (defBody st_law_bent_rows) (defScope st_law_bent_rows) .none kV_law_bent_rows dc_law_bent_rows pm_law_bent_rows an_law_bent_rows cd_law_bent_rows ct_law_bent_rows), sl_law_bent_rows⟩)
    (c_law_bent_rows : PySem.W.codeIn K cd_law_bent_rows "_law_bent_rows" = true)
    (k_law_bent_rows : PySem.W.keepIn K (.ref f_law_bent_rows) = true)
    (a_law_add_case : PySem.W.nsIn K mainGlobals "_law_add_case" = some (some (.ref f_law_add_case)))
    (l_law_add_case : K.lookup f_law_add_case = some ⟨oc_law_add_case, od_law_add_case, .func (PySem.W.fnOf "_law_add_case" "_law_add_case" (defArgs st_law_add_case) (defBody st_law_add_case) (defScope st_law_add_case) .none kV_law_add_case dc_law_add_case pm_law_add_case an_law_add_case cd_law_add_case ct_law_add_case), sl_law_add_case⟩)
    (c_law_add_case : PySem.W.codeIn K cd_law_add_case "_law_add_case" = true)
    (k_law_add_case : PySem.W.keepIn K (.ref f_law_add_case) = true)
    (a_law_round_case : PySem.W.nsIn K mainGlobals "_law_round_case" = some (some (.ref f_law_round_case)))
    (l_law_round_case : K.lookup f_law_round_case = some ⟨oc_law_round_case, od_law_round_case, .func (PySem.W.fnOf "_law_round_case" "_law_round_case" (defArgs st_law_round_case) (defBody st_law_round_case) (defScope st_law_round_case) .none kV_law_round_case dc_law_round_case pm_law_round_case an_law_round_case cd_law_round_case ct_law_round_case), sl_law_round_case⟩)
    (c_law_round_case : PySem.W.codeIn K cd_law_round_case "_law_round_case" = true)
    (k_law_round_case : PySem.W.keepIn K (.ref f_law_round_case) = true)
    (a_law_agree : PySem.W.nsIn K mainGlobals "_law_agree" = some (some (.ref f_law_agree)))
    (l_law_agree : K.lookup f_law_agree = some ⟨oc_law_agree, od_law_agree, .func (PySem.W.fnOf "_law_agree" "_law_agree" (defArgs st_law_agree) (defBody st_law_agree) (defScope st_law_agree) .none kV_law_agree dc_law_agree pm_law_agree an_law_agree cd_law_agree ct_law_agree), sl_law_agree⟩)
    (c_law_agree : PySem.W.codeIn K cd_law_agree "_law_agree" = true)
    (k_law_agree : PySem.W.keepIn K (.ref f_law_agree) = true)
    (a_law_holds_all : PySem.W.nsIn K mainGlobals "_law_holds_all" = some (some (.ref f_law_holds_all)))
    (l_law_holds_all : K.lookup f_law_holds_all = some ⟨oc_law_holds_all, od_law_holds_all, .func (PySem.W.fnOf "_law_holds_all" "_law_holds_all" (defArgs st_law_holds_all) (defBody st_law_holds_all) (defScope st_law_holds_all) .none kV_law_holds_all dc_law_holds_all pm_law_holds_all an_law_holds_all cd_law_holds_all ct_law_holds_all), sl_law_holds_all⟩)
    (c_law_holds_all : PySem.W.codeIn K cd_law_holds_all "_law_holds_all" = true)
    (k_law_holds_all : PySem.W.keepIn K (.ref f_law_holds_all) = true)
    (a_law : PySem.W.nsIn K mainGlobals "law" = some (some (.ref f_law)))
    (l_law : K.lookup f_law = some ⟨oc_law, od_law, .func (PySem.W.fnOf "law" "law" (defArgs st_law) (defBody st_law) (defScope st_law) .none kV_law dc_law pm_law an_law cd_law ct_law), sl_law⟩)
    (c_law : PySem.W.codeIn K cd_law "law" = true)
    (k_law : PySem.W.keepIn K (.ref f_law) = true)
    (z_abs : PySem.W.nsIn K mainGlobals "abs" = some none)
    (z_all : PySem.W.nsIn K mainGlobals "all" = some none)
    (z_any : PySem.W.nsIn K mainGlobals "any" = some none)
    (z_bool : PySem.W.nsIn K mainGlobals "bool" = some none)
    (g_gcd : PySem.W.nsIn K mainGlobals "gcd" = some (some (.builtin "math.gcd")))
    (z_int : PySem.W.nsIn K mainGlobals "int" = some none)
    (z_isinstance : PySem.W.nsIn K mainGlobals "isinstance" = some none)
    (z_len : PySem.W.nsIn K mainGlobals "len" = some none)
    (z_list : PySem.W.nsIn K mainGlobals "list" = some none)
    (z_min : PySem.W.nsIn K mainGlobals "min" = some none)
    (z_range : PySem.W.nsIn K mainGlobals "range" = some none)
    (z_tuple : PySem.W.nsIn K mainGlobals "tuple" = some none)
    (z_zip : PySem.W.nsIn K mainGlobals "zip" = some none) :
    ∃ fd : FuncData, (∀ (s : Shared) (v : Value), BindsTo s fd ⟨[v], []⟩ [("script", v)]) ∧ ∀ base : Heap, K.In base → base.Ns mainGlobals mg → FnOk l.prog w K mg base CX0 7 fa fd ["script"] (upSp K sp_law) := by
  have e := hfa.symm.trans (PySem.W.mg_of X G a_law)
  cases e
  have T : Txt K mg := ⟨PySem.W.mg_none_of X G z_abs, PySem.W.mg_none_of X G z_all, PySem.W.mg_none_of X G z_any, PySem.W.mg_none_of X G z_bool, PySem.W.mg_of X G g_gcd, PySem.W.mg_none_of X G z_int, PySem.W.mg_none_of X G z_isinstance, PySem.W.mg_none_of X G z_len, PySem.W.mg_none_of X G z_list, PySem.W.mg_none_of X G z_min, PySem.W.mg_none_of X G z_range, PySem.W.mg_none_of X G z_tuple, PySem.W.mg_none_of X G z_zip⟩
  have D_ratio : DefIs K mg "ratio" st_ratio := ⟨_, _, fun_mk (st := st_ratio) l_ratio c_ratio k_ratio, PySem.W.mg_of X G a_ratio⟩
  have D_whole_number : DefIs K mg "whole_number" st_whole_number := ⟨_, _, fun_mk (st := st_whole_number) l_whole_number c_whole_number k_whole_number, PySem.W.mg_of X G a_whole_number⟩
  have D_floor_of : DefIs K mg "floor_of" st_floor_of := ⟨_, _, fun_mk (st := st_floor_of) l_floor_of c_floor_of k_floor_of, PySem.W.mg_of X G a_floor_of⟩
  have D_ceiling_of : DefIs K mg "ceiling_of" st_ceiling_of := ⟨_, _, fun_mk (st := st_ceiling_of) l_ceiling_of c_ceiling_of k_ceiling_of, PySem.W.mg_of X G a_ceiling_of⟩
  have D_mixed : DefIs K mg "mixed" st_mixed := ⟨_, _, fun_mk (st := st_mixed) l_mixed c_mixed k_mixed, PySem.W.mg_of X G a_mixed⟩
  have D_all_zero : DefIs K mg "all_zero" st_all_zero := ⟨_, _, fun_mk (st := st_all_zero) l_all_zero c_all_zero k_all_zero, PySem.W.mg_of X G a_all_zero⟩
  have D_law_begin : DefIs K mg "_law_begin" st_law_begin := ⟨_, _, fun_mk (st := st_law_begin) l_law_begin c_law_begin k_law_begin, PySem.W.mg_of X G a_law_begin⟩
  have D_law_draw : DefIs K mg "_law_draw" st_law_draw := ⟨_, _, fun_mk (st := st_law_draw) l_law_draw c_law_draw k_law_draw, PySem.W.mg_of X G a_law_draw⟩
  have D_law_gcd : DefIs K mg "_law_gcd" st_law_gcd := ⟨_, _, fun_mk (st := st_law_gcd) l_law_gcd c_law_gcd k_law_gcd, PySem.W.mg_of X G a_law_gcd⟩
  have D_law_is_int : DefIs K mg "_law_is_int" st_law_is_int := ⟨_, _, fun_mk (st := st_law_is_int) l_law_is_int c_law_is_int k_law_is_int, PySem.W.mg_of X G a_law_is_int⟩
  have D_law_adds : DefIs K mg "_law_adds" st_law_adds := ⟨_, _, fun_mk (st := st_law_adds) l_law_adds c_law_adds k_law_adds, PySem.W.mg_of X G a_law_adds⟩
  have D_law_summed : DefIs K mg "_law_summed" st_law_summed := ⟨_, _, fun_mk (st := st_law_summed) l_law_summed c_law_summed k_law_summed, PySem.W.mg_of X G a_law_summed⟩
  have D_good_weights : DefIs K mg "good_weights" st_good_weights := ⟨_, _, fun_mk (st := st_good_weights) l_good_weights c_good_weights k_good_weights, PySem.W.mg_of X G a_good_weights⟩
  have D_law_pick : DefIs K mg "_law_pick" st_law_pick := ⟨_, _, fun_mk (st := st_law_pick) l_law_pick c_law_pick k_law_pick, PySem.W.mg_of X G a_law_pick⟩
  have D_law_rare : DefIs K mg "_law_rare" st_law_rare := ⟨_, _, fun_mk (st := st_law_rare) l_law_rare c_law_rare k_law_rare, PySem.W.mg_of X G a_law_rare⟩
  have D_law_lowest : DefIs K mg "_law_lowest" st_law_lowest := ⟨_, _, fun_mk (st := st_law_lowest) l_law_lowest c_law_lowest k_law_lowest, PySem.W.mg_of X G a_law_lowest⟩
  have D_law_good_weights : DefIs K mg "_law_good_weights" st_law_good_weights := ⟨_, _, fun_mk (st := st_law_good_weights) l_law_good_weights c_law_good_weights k_law_good_weights, PySem.W.mg_of X G a_law_good_weights⟩
  have D_law_share : DefIs K mg "_law_share" st_law_share := ⟨_, _, fun_mk (st := st_law_share) l_law_share c_law_share k_law_share, PySem.W.mg_of X G a_law_share⟩
  have D_law_weight : DefIs K mg "_law_weight" st_law_weight := ⟨_, _, fun_mk (st := st_law_weight) l_law_weight c_law_weight k_law_weight, PySem.W.mg_of X G a_law_weight⟩
  have D_law_odd : DefIs K mg "_law_odd" st_law_odd := ⟨_, _, fun_mk (st := st_law_odd) l_law_odd c_law_odd k_law_odd, PySem.W.mg_of X G a_law_odd⟩
  have D_law_mixes : DefIs K mg "_law_mixes" st_law_mixes := ⟨_, _, fun_mk (st := st_law_mixes) l_law_mixes c_law_mixes k_law_mixes, PySem.W.mg_of X G a_law_mixes⟩
  have D_adds_up : DefIs K mg "adds_up" st_adds_up := ⟨_, _, fun_mk (st := st_adds_up) l_adds_up c_adds_up k_adds_up, PySem.W.mg_of X G a_adds_up⟩
  have D_first_bound : DefIs K mg "first_bound" st_first_bound := ⟨_, _, fun_mk (st := st_first_bound) l_first_bound c_first_bound k_first_bound, PySem.W.mg_of X G a_first_bound⟩
  have D_law_whole_bound : DefIs K mg "_law_whole_bound" st_law_whole_bound := ⟨_, _, fun_mk (st := st_law_whole_bound) l_law_whole_bound c_law_whole_bound k_law_whole_bound, PySem.W.mg_of X G a_law_whole_bound⟩
  have D_law_told_row : DefIs K mg "_law_told_row" st_law_told_row := ⟨_, _, fun_mk (st := st_law_told_row) l_law_told_row c_law_told_row k_law_told_row, PySem.W.mg_of X G a_law_told_row⟩
  have D_law_bent_weights : DefIs K mg "_law_bent_weights" st_law_bent_weights := ⟨_, _, fun_mk (st := st_law_bent_weights) l_law_bent_weights c_law_bent_weights k_law_bent_weights, PySem.W.mg_of X G a_law_bent_weights⟩
  have D_shows_empty : DefIs K mg "shows_empty" st_shows_empty := ⟨_, _, fun_mk (st := st_shows_empty) l_shows_empty c_shows_empty k_shows_empty, PySem.W.mg_of X G a_shows_empty⟩
  have D_law_shut : DefIs K mg "_law_shut" st_law_shut := ⟨_, _, fun_mk (st := st_law_shut) l_law_shut c_law_shut k_law_shut, PySem.W.mg_of X G a_law_shut⟩
  have D_law_free_row : DefIs K mg "_law_free_row" st_law_free_row := ⟨_, _, fun_mk (st := st_law_free_row) l_law_free_row c_law_free_row k_law_free_row, PySem.W.mg_of X G a_law_free_row⟩
  have D_law_close : DefIs K mg "_law_close" st_law_close := ⟨_, _, fun_mk (st := st_law_close) l_law_close c_law_close k_law_close, PySem.W.mg_of X G a_law_close⟩
  have D_law_bent_proof : DefIs K mg "_law_bent_proof" st_law_bent_proof := ⟨_, _, fun_mk (st := st_law_bent_proof) l_law_bent_proof c_law_bent_proof k_law_bent_proof, PySem.W.mg_of X G a_law_bent_proof⟩
  have D_law_bent_rows : DefIs K mg "_law_bent_rows" st_law_bent_rows := ⟨_, _, fun_mk (st := st_law_bent_rows) l_law_bent_rows c_law_bent_rows k_law_bent_rows, PySem.W.mg_of X G a_law_bent_rows⟩
  have D_law_add_case : DefIs K mg "_law_add_case" st_law_add_case := ⟨_, _, fun_mk (st := st_law_add_case) l_law_add_case c_law_add_case k_law_add_case, PySem.W.mg_of X G a_law_add_case⟩
  have D_law_round_case : DefIs K mg "_law_round_case" st_law_round_case := ⟨_, _, fun_mk (st := st_law_round_case) l_law_round_case c_law_round_case k_law_round_case, PySem.W.mg_of X G a_law_round_case⟩
  have D_law_agree : DefIs K mg "_law_agree" st_law_agree := ⟨_, _, fun_mk (st := st_law_agree) l_law_agree c_law_agree k_law_agree, PySem.W.mg_of X G a_law_agree⟩
  have D_law_holds_all : DefIs K mg "_law_holds_all" st_law_holds_all := ⟨_, _, fun_mk (st := st_law_holds_all) l_law_holds_all c_law_holds_all k_law_holds_all, PySem.W.mg_of X G a_law_holds_all⟩
  have F_law := fun_mk (st := st_law) l_law c_law k_law
  refine ⟨PySem.W.fnOf "law" "law" (defArgs st_law) (defBody st_law) (defScope st_law) .none kV_law dc_law pm_law an_law cd_law ct_law, fun s v => .of_eq rfl, fun base _ _ => ?_⟩
  have C_ratio := cal_ratio (P := l.prog) (w := w) (base := base) T D_ratio 
  have C_whole_number := cal_whole_number (P := l.prog) (w := w) (base := base) T D_whole_number 
  have C_floor_of := cal_floor_of (P := l.prog) (w := w) (base := base) T D_floor_of 
  have C_ceiling_of := cal_ceiling_of (P := l.prog) (w := w) (base := base) T D_ceiling_of 
  have C_mixed := cal_mixed (P := l.prog) (w := w) (base := base) T D_mixed 
  have C_all_zero := cal_all_zero (P := l.prog) (w := w) (base := base) T D_all_zero 
  have C_law_begin := cal_law_begin (P := l.prog) (w := w) (base := base) T D_law_begin 
  have C_law_draw := cal_law_draw (P := l.prog) (w := w) (base := base) T D_law_draw 
  have C_law_gcd := cal_law_gcd (P := l.prog) (w := w) (base := base) T D_law_gcd 
  have C_law_is_int := cal_law_is_int (P := l.prog) (w := w) (base := base) T D_law_is_int 
  have C_law_adds := cal_law_adds (P := l.prog) (w := w) (base := base) T D_law_adds 
  have C_law_summed := cal_law_summed (P := l.prog) (w := w) (base := base) T D_law_summed 
  have C_good_weights := cal_good_weights (P := l.prog) (w := w) (base := base) T D_good_weights C_whole_number
  have C_law_pick := cal_law_pick (P := l.prog) (w := w) (base := base) T D_law_pick C_law_draw
  have C_law_rare := cal_law_rare (P := l.prog) (w := w) (base := base) T D_law_rare C_law_draw
  have C_law_lowest := cal_law_lowest (P := l.prog) (w := w) (base := base) T D_law_lowest C_law_gcd
  have C_law_good_weights := cal_law_good_weights (P := l.prog) (w := w) (base := base) T D_law_good_weights C_law_is_int
  have C_law_share := cal_law_share (P := l.prog) (w := w) (base := base) T D_law_share C_law_draw
  have C_law_weight := cal_law_weight (P := l.prog) (w := w) (base := base) T D_law_weight C_law_draw
  have C_law_odd := cal_law_odd (P := l.prog) (w := w) (base := base) T D_law_odd C_law_draw
  have C_law_mixes := cal_law_mixes (P := l.prog) (w := w) (base := base) T D_law_mixes C_mixed C_law_is_int C_law_summed
  have C_adds_up := cal_adds_up (P := l.prog) (w := w) (base := base) T D_adds_up C_mixed C_good_weights C_all_zero
  have C_first_bound := cal_first_bound (P := l.prog) (w := w) (base := base) T D_first_bound C_ratio C_floor_of C_ceiling_of C_mixed C_good_weights C_all_zero
  have C_law_whole_bound := cal_law_whole_bound (P := l.prog) (w := w) (base := base) T D_law_whole_bound C_law_adds C_law_good_weights
  have C_law_told_row := cal_law_told_row (P := l.prog) (w := w) (base := base) T D_law_told_row C_law_lowest
  have C_law_bent_weights := cal_law_bent_weights (P := l.prog) (w := w) (base := base) T D_law_bent_weights C_law_draw C_law_pick C_law_weight
  have C_shows_empty := cal_shows_empty (P := l.prog) (w := w) (base := base) T D_shows_empty C_adds_up C_first_bound
  have C_law_shut := cal_law_shut (P := l.prog) (w := w) (base := base) T D_law_shut C_law_adds C_law_good_weights C_law_whole_bound
  have C_law_free_row := cal_law_free_row (P := l.prog) (w := w) (base := base) T D_law_free_row C_law_draw C_law_share C_law_told_row
  have C_law_close := cal_law_close (P := l.prog) (w := w) (base := base) T D_law_close C_law_draw C_law_gcd C_law_told_row C_law_summed
  have C_law_bent_proof := cal_law_bent_proof (P := l.prog) (w := w) (base := base) T D_law_bent_proof C_law_draw C_law_pick C_law_bent_weights
  have C_law_bent_rows := cal_law_bent_rows (P := l.prog) (w := w) (base := base) T D_law_bent_rows C_law_draw C_law_told_row
  have C_law_add_case := cal_law_add_case (P := l.prog) (w := w) (base := base) T D_law_add_case C_law_draw C_law_rare C_law_free_row C_law_weight C_law_close C_law_odd
  have C_law_round_case := cal_law_round_case (P := l.prog) (w := w) (base := base) T D_law_round_case C_law_draw C_law_share C_law_free_row C_law_weight C_law_close C_law_odd
  have C_law_agree := cal_law_agree (P := l.prog) (w := w) (base := base) T D_law_agree C_shows_empty C_law_shut
  have C_law_holds_all := cal_law_holds_all (P := l.prog) (w := w) (base := base) T D_law_holds_all C_law_pick C_law_free_row C_law_bent_proof C_law_bent_rows C_law_agree C_law_mixes
  exact ok_law T F_law C_law_begin C_law_draw C_law_add_case C_law_round_case C_law_holds_all
end AL
open PySem PySem.W PyProof.Rows
set_option maxRecDepth 100000 in
set_option maxHeartbeats 0 in
theorem PySem.Challenge.cw_wishpanes_k19_proofs_judged_holds : PySem.Challenge.rw_wishpanes_k19_proofs_judged.Holds := by
  w_on; o_law; k_head; (case hw => w_witness2)
  k_fill
  refine L2.walk_of (l := PySem.Challenge.rw_wishpanes_k19_proofs_judged) (n := 63) (k := 7) (x := "script") (CX := fun _ => L2.CX0) (sp := fun w => AL.upSp _ AL.sp_law) rfl (by decide) rfl ⟨rfl, by decide, by decide⟩ (fun w h Y => PySem.W.kIn_of Y) ?F (fun w H a ns hl hO hS => AL.law_up1 hl hO hS) (fun _ _ _ _ _ h => h)
  case F =>
    intro w mg fa h KX G hmg
    refine' AL.all_mk KX G hmg ?a_ratio ?l_ratio ?c_ratio ?k_ratio ?a_whole_number ?l_whole_number ?c_whole_number ?k_whole_number ?a_floor_of ?l_floor_of ?c_floor_of ?k_floor_of ?a_ceiling_of ?l_ceiling_of ?c_ceiling_of ?k_ceiling_of ?a_mixed ?l_mixed ?c_mixed ?k_mixed ?a_all_zero ?l_all_zero ?c_all_zero ?k_all_zero ?a_law_begin ?l_law_begin ?c_law_begin ?k_law_begin ?a_law_draw ?l_law_draw ?c_law_draw ?k_law_draw ?a_law_gcd ?l_law_gcd ?c_law_gcd ?k_law_gcd ?a_law_is_int ?l_law_is_int ?c_law_is_int ?k_law_is_int ?a_law_adds ?l_law_adds ?c_law_adds ?k_law_adds ?a_law_summed ?l_law_summed ?c_law_summed ?k_law_summed ?a_good_weights ?l_good_weights ?c_good_weights ?k_good_weights ?a_law_pick ?l_law_pick ?c_law_pick ?k_law_pick ?a_law_rare ?l_law_rare ?c_law_rare ?k_law_rare ?a_law_lowest ?l_law_lowest ?c_law_lowest ?k_law_lowest ?a_law_good_weights ?l_law_good_weights ?c_law_good_weights ?k_law_good_weights ?a_law_share ?l_law_share ?c_law_share ?k_law_share ?a_law_weight ?l_law_weight ?c_law_weight ?k_law_weight ?a_law_odd ?l_law_odd ?c_law_odd ?k_law_odd ?a_law_mixes ?l_law_mixes ?c_law_mixes ?k_law_mixes ?a_adds_up ?l_adds_up ?c_adds_up ?k_adds_up ?a_first_bound ?l_first_bound ?c_first_bound ?k_first_bound ?a_law_whole_bound ?l_law_whole_bound ?c_law_whole_bound ?k_law_whole_bound ?a_law_told_row ?l_law_told_row ?c_law_told_row ?k_law_told_row ?a_law_bent_weights ?l_law_bent_weights ?c_law_bent_weights ?k_law_bent_weights ?a_shows_empty ?l_shows_empty ?c_shows_empty ?k_shows_empty ?a_law_shut ?l_law_shut ?c_law_shut ?k_law_shut ?a_law_free_row ?l_law_free_row ?c_law_free_row ?k_law_free_row ?a_law_close ?l_law_close ?c_law_close ?k_law_close ?a_law_bent_proof ?l_law_bent_proof ?c_law_bent_proof ?k_law_bent_proof ?a_law_bent_rows ?l_law_bent_rows ?c_law_bent_rows ?k_law_bent_rows ?a_law_add_case ?l_law_add_case ?c_law_add_case ?k_law_add_case ?a_law_round_case ?l_law_round_case ?c_law_round_case ?k_law_round_case ?a_law_agree ?l_law_agree ?c_law_agree ?k_law_agree ?a_law_holds_all ?l_law_holds_all ?c_law_holds_all ?k_law_holds_all ?a_law ?l_law ?c_law ?k_law ?z_abs ?z_all ?z_any ?z_bool ?g_gcd ?z_int ?z_isinstance ?z_len ?z_list ?z_min ?z_range ?z_tuple ?z_zip
    (case a_ratio => k_is); (case l_ratio => k_is); (case c_ratio => k_is); (case k_ratio => k_is)
    (case a_whole_number => k_is); (case l_whole_number => k_is); (case c_whole_number => k_is); (case k_whole_number => k_is)
    (case a_floor_of => k_is); (case l_floor_of => k_is); (case c_floor_of => k_is); (case k_floor_of => k_is)
    (case a_ceiling_of => k_is); (case l_ceiling_of => k_is); (case c_ceiling_of => k_is); (case k_ceiling_of => k_is)
    (case a_mixed => k_is); (case l_mixed => k_is); (case c_mixed => k_is); (case k_mixed => k_is)
    (case a_all_zero => k_is); (case l_all_zero => k_is); (case c_all_zero => k_is); (case k_all_zero => k_is)
    (case a_law_begin => k_is); (case l_law_begin => k_is); (case c_law_begin => k_is); (case k_law_begin => k_is)
    (case a_law_draw => k_is); (case l_law_draw => k_is); (case c_law_draw => k_is); (case k_law_draw => k_is)
    (case a_law_gcd => k_is); (case l_law_gcd => k_is); (case c_law_gcd => k_is); (case k_law_gcd => k_is)
    (case a_law_is_int => k_is); (case l_law_is_int => k_is); (case c_law_is_int => k_is); (case k_law_is_int => k_is)
    (case a_law_adds => k_is); (case l_law_adds => k_is); (case c_law_adds => k_is); (case k_law_adds => k_is)
    (case a_law_summed => k_is); (case l_law_summed => k_is); (case c_law_summed => k_is); (case k_law_summed => k_is)
    (case a_good_weights => k_is); (case l_good_weights => k_is); (case c_good_weights => k_is); (case k_good_weights => k_is)
    (case a_law_pick => k_is); (case l_law_pick => k_is); (case c_law_pick => k_is); (case k_law_pick => k_is)
    (case a_law_rare => k_is); (case l_law_rare => k_is); (case c_law_rare => k_is); (case k_law_rare => k_is)
    (case a_law_lowest => k_is); (case l_law_lowest => k_is); (case c_law_lowest => k_is); (case k_law_lowest => k_is)
    (case a_law_good_weights => k_is); (case l_law_good_weights => k_is); (case c_law_good_weights => k_is); (case k_law_good_weights => k_is)
    (case a_law_share => k_is); (case l_law_share => k_is); (case c_law_share => k_is); (case k_law_share => k_is)
    (case a_law_weight => k_is); (case l_law_weight => k_is); (case c_law_weight => k_is); (case k_law_weight => k_is)
    (case a_law_odd => k_is); (case l_law_odd => k_is); (case c_law_odd => k_is); (case k_law_odd => k_is)
    (case a_law_mixes => k_is); (case l_law_mixes => k_is); (case c_law_mixes => k_is); (case k_law_mixes => k_is)
    (case a_adds_up => k_is); (case l_adds_up => k_is); (case c_adds_up => k_is); (case k_adds_up => k_is)
    (case a_first_bound => k_is); (case l_first_bound => k_is); (case c_first_bound => k_is); (case k_first_bound => k_is)
    (case a_law_whole_bound => k_is); (case l_law_whole_bound => k_is); (case c_law_whole_bound => k_is); (case k_law_whole_bound => k_is)
    (case a_law_told_row => k_is); (case l_law_told_row => k_is); (case c_law_told_row => k_is); (case k_law_told_row => k_is)
    (case a_law_bent_weights => k_is); (case l_law_bent_weights => k_is); (case c_law_bent_weights => k_is); (case k_law_bent_weights => k_is)
    (case a_shows_empty => k_is); (case l_shows_empty => k_is); (case c_shows_empty => k_is); (case k_shows_empty => k_is)
    (case a_law_shut => k_is); (case l_law_shut => k_is); (case c_law_shut => k_is); (case k_law_shut => k_is)
    (case a_law_free_row => k_is); (case l_law_free_row => k_is); (case c_law_free_row => k_is); (case k_law_free_row => k_is)
    (case a_law_close => k_is); (case l_law_close => k_is); (case c_law_close => k_is); (case k_law_close => k_is)
    (case a_law_bent_proof => k_is); (case l_law_bent_proof => k_is); (case c_law_bent_proof => k_is); (case k_law_bent_proof => k_is)
    (case a_law_bent_rows => k_is); (case l_law_bent_rows => k_is); (case c_law_bent_rows => k_is); (case k_law_bent_rows => k_is)
    (case a_law_add_case => k_is); (case l_law_add_case => k_is); (case c_law_add_case => k_is); (case k_law_add_case => k_is)
    (case a_law_round_case => k_is); (case l_law_round_case => k_is); (case c_law_round_case => k_is); (case k_law_round_case => k_is)
    (case a_law_agree => k_is); (case l_law_agree => k_is); (case c_law_agree => k_is); (case k_law_agree => k_is)
    (case a_law_holds_all => k_is); (case l_law_holds_all => k_is); (case c_law_holds_all => k_is); (case k_law_holds_all => k_is)
    (case a_law => k_is); (case l_law => k_is); (case c_law => k_is); (case k_law => k_is)
    (case z_abs => k_is); (case z_all => k_is); (case z_any => k_is); (case z_bool => k_is)
    (case g_gcd => k_is); (case z_int => k_is); (case z_isinstance => k_is); (case z_len => k_is)
    (case z_list => k_is); (case z_min => k_is); (case z_range => k_is); (case z_tuple => k_is)
    (case z_zip => k_is)
